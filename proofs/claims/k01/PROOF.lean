import PyProof.Rows.All
import Wide.All
import OpenK.AllK
import Wide.FinOn
import HandS.Base
import HandS.Call
import HandS.List
import HandS.Comp
import HandS.Dict
import HandS.Iter
import HandS.Text
import HandS.Exc
import HandS.Ends
import HandS.Words
import HandS.WordsExc
import HandS.ExcOwn
import HandS.CallSlots
import HandS.CallLocal
import HandS.Defaults
import HandS.IsInst
import HandS.TupAny
import HandS.DictComp
import HandS.Style
import HandS.Wide
import HandS.TryOnly
import HandS.More
import HandS.Deep
import PyProof.StrOps2
import HandS.Small
import HandS.RaiseMore
import PyProof.ReprRoads
import PyProof.CallFns
import PyProof.DictUpdate
import PySem.Challenge.RW_holepatterns_k01_programs_spoilt_anywher
set_option Elab.async false
set_option linter.all false
set_option maxRecDepth 100000
/-! L3A: plain values, a store of mutable objects, results, and what each construct denotes. -/
namespace L3
open PySem

inductive D where
  | non | bl (b : Bool) | int (i : Int) | str (s : Str) | tup (l : List D) | lst (l : List D)
  | dic (ks : List L2.Key) (l : List D) | obj (n : Nat) | glb (x : Str) | ty (n : String) | scr (l : List Int) | kd (ks : List Str) (l : List D)
deriving Inhabited

inductive O where
  | lst (l : List D) | dK (l : List (L2.Key × D)) | dT (l : List (List L2.Key × D)) | ins (c : Str) (fs : List (Str × D)) | dead

abbrev Store := List O
structure Ex where
  cls : Str
  fs : List (Str × D)

inductive R (α : Type) where
  | ok (a : α) (S : Store) | exc (e : Ex) (S : Store) | bad
@[reducible] def R.bind {α β : Type} (r : R α) (f : α → Store → R β) : R β :=
  match r with
  | .ok a S => f a S
  | .exc e S => .exc e S
  | .bad => .bad

abbrev EnvD := List (Option D)
abbrev ED := EnvD → Store → R D
abbrev TD := EnvD → Store → R Bool
abbrev AD := EnvD → Store → R (List D)
inductive SR where
  | nx (env : EnvD) (S : Store) | ret (d : D) (S : Store) | brk (env : EnvD) (S : Store) | ct (env : EnvD) (S : Store) | exc (e : Ex) (env : EnvD) (S : Store) | bad
abbrev SD := EnvD → Store → SR
def R.toS {α : Type} (env : EnvD) (r : R α) (k : α → Store → SR) : SR :=
  match r with
  | .ok a S => k a S
  | .exc e S => .exc e env S
  | .bad => .bad

/-! ### expressions -/
def eVar (i : Nat) : ED := fun env S => match env[i]? with
  | some (some d) => .ok d S
  | _ => .bad
def eK (d : D) : ED := fun _ S => .ok d S
abbrev F1 := D → Store → R D
abbrev F2 := D → D → Store → R D
abbrev FN := List D → Store → R D
def e1 (f : F1) (a : ED) : ED := fun env S => (a env S).bind fun x S1 => f x S1
def e2 (f : F2) (a b : ED) : ED := fun env S => (a env S).bind fun x S1 => (b env S1).bind fun y S2 => f x y S2
def aNil : AD := fun _ S => .ok [] S
def aCons (a : ED) (r : AD) : AD := fun env S => (a env S).bind fun x S1 => (r env S1).bind fun xs S2 => .ok (x :: xs) S2
def eN (f : FN) (a : AD) : ED := fun env S => (a env S).bind fun xs S1 => f xs S1
/-- o.m(..): the receiver, the arguments -/
def eM (f : D → FN) (o : ED) (a : AD) : ED := fun env S => (o env S).bind fun x S1 => (a env S1).bind fun xs S2 => f x xs S2
def eIf (c : TD) (a b : ED) : ED := fun env S => (c env S).bind fun k S1 => match k with
  | true => a env S1
  | false => b env S1
/-! ### tests -/
def tOfE (a : ED) : TD := fun env S => (a env S).bind fun x S1 => match x with
  | .bl k => .ok k S1
  | _ => .bad
def truthD (x : D) (S : Store) : R Bool := match x with
  | .bl k => .ok k S
  | .non => .ok false S
  | .int i => .ok (i != 0) S
  | .str s => if s.length ≤ sizeLine then .ok (s.length != 0) S else .bad
  | .tup l => .ok (!l.isEmpty) S
  | .lst l => .ok (!l.isEmpty) S
  | .obj n => match S[n]? with
    | some (.lst l) => .ok (!l.isEmpty) S
    | _ => .bad
  | _ => .bad
def tTruth (a : ED) : TD := fun env S => (a env S).bind fun x S1 => truthD x S1
def tNot (a : TD) : TD := fun env S => (a env S).bind fun k S1 => .ok (!k) S1
def tAnd (a b : TD) : TD := fun env S => (a env S).bind fun k S1 => match k with
  | true => b env S1
  | false => .ok false S1
def tOr (a b : TD) : TD := fun env S => (a env S).bind fun k S1 => match k with
  | true => .ok true S1
  | false => b env S1
/-- and, or, not as values of truths -/
def eNot (a : ED) : ED := fun env S => (tOfE a env S).bind fun k S1 => .ok (.bl (!k)) S1
def eAnd (a b : ED) : ED := fun env S => (tOfE a env S).bind fun k S1 => match k with
  | true => b env S1
  | false => .ok (.bl false) S1
def eOr (a b : ED) : ED := fun env S => (tOfE a env S).bind fun k S1 => match k with
  | true => .ok (.bl true) S1
  | false => b env S1
/-- a < b < c -/
def eChain (f g : F2) (a b c : ED) : ED := fun env S => (a env S).bind fun x S1 => (b env S1).bind fun y S2 => (f x y S2).bind fun k S3 => match k with
  | .bl true => (c env S3).bind fun z S4 => g y z S4
  | .bl false => .ok (.bl false) S3
  | _ => .bad

/-! ### displays -/
def mkTup : FN := fun xs S => if xs.length ≤ sizeLine then .ok (.tup xs) S else .bad
def mkLst : FN := fun xs S => if xs.length ≤ sizeLine then .ok (.lst xs) S else .bad
/-- a list that will be changed -/
def mkObj : FN := fun xs S => if xs.length ≤ sizeLine then .ok (.obj S.length) (S ++ [.lst xs]) else .bad

/-! ### statements -/
def sSkip : SD := fun env S => .nx env S
def sSeq (a b : SD) : SD := fun env S => match a env S with
  | .nx env1 S1 => b env1 S1
  | r => r
def sIf (c : TD) (a b : SD) : SD := fun env S => (c env S).toS env fun k S1 => match k with
  | true => a env S1
  | false => b env S1
def sRet (a : ED) : SD := fun env S => (a env S).toS env fun d S1 => .ret d S1
def sExpr (a : ED) : SD := fun env S => (a env S).toS env fun _ S1 => .nx env S1
def sBrk : SD := fun env S => .brk env S
def sCt : SD := fun env S => .ct env S
/-- a target -/
abbrev GD := D → EnvD → Store → SR
def gName (i : Nat) : GD := fun d env S => .nx (env.set i (some d)) S
def sAsg (a : ED) (g : GD) : SD := fun env S => (a env S).toS env fun d S1 => g d env S1
/-- several names -/
def gNames : List Nat → List D → EnvD → Store → SR
  | [], [], env, S => .nx env S
  | i :: is, d :: ds, env, S => gNames is ds (env.set i (some d)) S
  | _, _, _, _ => .bad
def gTup (is : List Nat) : GD := fun d env S => match d with
  | .tup l => gNames is l env S
  | _ => .bad
/-- a for over written items -/
def forL (g : GD) (body : SD) : List D → EnvD → Store → SR
  | [], env, S => .nx env S
  | x :: xs, env, S => match g x env S with
    | .nx env1 S1 => match body env1 S1 with
      | .nx env2 S2 => forL g body xs env2 S2
      | .ct env2 S2 => forL g body xs env2 S2
      | .brk env2 S2 => .nx env2 S2
      | .ret d S2 => .ret d S2
      | .exc e env2 S2 => .exc e env2 S2
      | .bad => .bad
    | _ => .bad
def sWhile (c : TD) (body : SD) : Nat → SD
  | 0, _, _ => .bad
  | n + 1, env, S => (c env S).toS env fun k S1 => match k with
    | false => .nx env S1
    | true => match body env S1 with
      | .nx env2 S2 => sWhile c body n env2 S2
      | .ct env2 S2 => sWhile c body n env2 S2
      | .brk env2 S2 => .nx env2 S2
      | .ret d S2 => .ret d S2
      | .exc e env2 S2 => .exc e env2 S2
      | .bad => .bad
def SR.fin : SR → R D
  | .nx _ S1 => .ok .non S1
  | .ret d S1 => .ok d S1
  | .exc e _ S1 => .exc e S1
  | _ => .bad
/-- a def's body at its arguments: np parameters, n slots -/
def run (np n : Nat) (body : SD) : FN := fun xs S => if xs.length = np then (body (xs.map some ++ List.replicate (n - xs.length) none) S).fin else .bad
end L3
set_option Elab.async false
set_option linter.all false
set_option maxRecDepth 100000
/-! L3B: how plain values, the store and results stand for the model's; the rules. -/
namespace L3
open PySem PySem.Spec PyProof.Rows L2

structure GC where
  K : PySem.W.Frag
  w : World
  mg : Str → Option Value
structure Wd where
  mu : List Addr
  S : Store
  H : Hp
  /-- lists and dicts that are being made around here: nothing refers to them -/
  tmp : List Addr

def O.live : O → Prop
  | .dead => False
  | _ => True
def MutS (w : Wd) (a : Addr) : Prop := ∃ (n : Nat) (o : O), w.S[n]? = some o ∧ o.live ∧ w.mu[n]? = some a
def Mut (w : Wd) (a : Addr) : Prop := MutS w a ∨ a ∈ w.tmp
/-- read, never written -/
def Fz (w : Wd) (a : Addr) (u : HO) : Prop := Rd w.H a u ∧ ¬ Mut w a
def KT (K : PySem.W.Frag) (a : Addr) (xs : List V) : Prop :=
  ∃ (o : Obj) (its : Array Value) (n : Nat), K.lookup a = some o ∧ o.cls = .type "tuple" ∧ o.data = .seq its n ∧ its.size ≤ sizeLine ∧ Vals xs its.toList
def KL (K : PySem.W.Frag) (a : Addr) (xs : List V) : Prop :=
  ∃ (o : Obj) (its : Array Value) (n : Nat), K.lookup a = some o ∧ o.cls = .type "list" ∧ o.dict = none ∧ o.data = .seq its n ∧ its.size ≤ sizeLine ∧ Vals xs its.toList

mutual
def Rep (G : GC) (w : Wd) : D → V → Prop
  | .non, v => v = .non
  | .bl b, v => v = .bl b
  | .int i, v => v = .int i
  | .str s, v => v = .str s
  | .tup l, v => ∃ a vs, v = .ref a ∧ (Fz w a (.tup vs) ∨ KT G.K a vs) ∧ RepL G w l vs
  | .lst l, v => ∃ a vs, v = .ref a ∧ w.H a = some (.lst vs) ∧ ¬ Mut w a ∧ RepL G w l vs
  | .dic ks l, v => ∃ a vs, v = .ref a ∧ w.H a = some (.dK (ks.zip vs)) ∧ ¬ Mut w a ∧ ks.length = l.length ∧ RepL G w l vs
  | .obj n, v => ∃ a, w.mu[n]? = some a ∧ v = .ref a
  | .glb x, v => ∃ u, G.mg x = some u ∧ RelV v u
  | .ty n, v => v = .ty n
  | .scr ns, v => ∃ a, v = .ref a ∧ (Fz w a (.lst (ns.map V.int)) ∨ KL G.K a (ns.map V.int))
  | .kd ks l, v => ∃ a es n vs us, v = .ref a ∧ KDict G.K G.w a es n ∧ (∀ z, PySem.W.nsIn G.K a z = some ((ks.zip us).lookup z)) ∧ ks.length = l.length ∧ Vals vs us ∧ RepL G w l vs
def RepL (G : GC) (w : Wd) : List D → List V → Prop
  | [], vs => vs = []
  | d :: ds, vs => ∃ v r, vs = v :: r ∧ Rep G w d v ∧ RepL G w ds r
end

def RepKV {κ : Type} (G : GC) (w : Wd) : List (κ × D) → List (κ × V) → Prop
  | [], x => x = []
  | p :: r, x => ∃ v y, x = (p.1, v) :: y ∧ Rep G w p.2 v ∧ RepKV G w r y
def ORep (G : GC) (w : Wd) (a : Addr) : O → Prop
  | .lst ds => ∃ vs, w.H a = some (.lst vs) ∧ RepL G w ds vs
  | .dK kvs => ∃ vs, w.H a = some (.dK vs) ∧ RepKV G w kvs vs
  | .dT kvs => ∃ vs, w.H a = some (.dT vs) ∧ RepKV G w kvs vs
  | .ins c fs => ∃ C dx vs, w.H a = some (.ins C dx vs) ∧ RepKV G w fs vs ∧ G.mg c = some (.ref C)
  | .dead => True
structure SRep (G : GC) (w : Wd) : Prop where
  len : w.mu.length = w.S.length
  inj : ∀ (n m : Nat) (a : Addr) (o o' : O), w.S[n]? = some o → w.S[m]? = some o' → o.live → o'.live → w.mu[n]? = some a → w.mu[m]? = some a → n = m
  obj : ∀ (n : Nat) (o : O) (a : Addr), w.S[n]? = some o → w.mu[n]? = some a → ORep G w a o
  tm : ∀ a ∈ w.tmp, (∃ u, w.H a = some u) ∧ ¬ MutS w a
structure ERep (G : GC) (w : Wd) (env : EnvD) (σ : L2.St) : Prop where
  len : env.length = σ.length
  at' : ∀ (i : Nat) (d : D), env[i]? = some (some d) → ∃ v : V, σ[i]? = some (some v) ∧ Rep G w d v
/-- from w to w': all is kept but what the store holds, and what stands at T -/
structure WX' (T : List Addr) (w w' : Wd) : Prop where
  mu : ∀ (n : Nat) (a : Addr), w.mu[n]? = some a → w'.mu[n]? = some a
  keep : ∀ (a : Addr) (o : HO), w.H a = some o → ¬ MutS w a → a ∉ T → w'.H a = some o ∧ ¬ MutS w' a
  tmp : ∀ a ∈ w'.tmp, a ∈ w.tmp ∨ a ∈ T
  tmp' : ∀ a ∈ w.tmp, a ∈ w'.tmp
abbrev WExt (w w' : Wd) : Prop := WX' [] w w'
theorem WExt.refl (w : Wd) : WExt w w := ⟨fun _ _ h => h, fun _ _ h h' _ => ⟨h, h'⟩, fun _ h => .inl h, fun _ h => h⟩
theorem WX'.trans {T : List Addr} {a b c : Wd} (x : WX' T a b) (y : WX' T b c) : WX' T a c :=
  ⟨fun n d h => y.mu n d (x.mu n d h), fun d o h h' t => let ⟨h1, h2⟩ := x.keep d o h h' t; y.keep d o h1 h2 t, fun d h => (y.tmp d h).elim (x.tmp d) .inr, fun d h => y.tmp' d (x.tmp' d h)⟩
theorem WX'.wide {T : List Addr} {a b : Wd} (x : WExt a b) : WX' T a b := ⟨x.mu, fun d o h h' _ => x.keep d o h h' (by simp), fun d h => (x.tmp d h).imp id fun z => by simp at z, x.tmp'⟩
/-- what may change is in the making, or not there yet -/
def Tok (T : List Addr) (w : Wd) : Prop := ∀ a ∈ T, a ∈ w.tmp ∨ w.H a = none
theorem WX'.keepM {T : List Addr} {w w' : Wd} (x : WX' T w w') (hT : Tok T w) {a : Addr} {o : HO} (h : w.H a = some o) (nm : ¬ Mut w a) : w'.H a = some o ∧ ¬ Mut w' a := by
  have nT : a ∉ T := fun z => (hT a z).elim (fun z => nm (.inr z)) fun z => by rw [h] at z; cases z
  obtain ⟨h1, h2⟩ := x.keep a o h (fun z => nm (.inl z)) nT
  exact ⟨h1, fun z => z.elim h2 fun z => (x.tmp a z).elim (fun z => nm (.inr z)) nT⟩
section
variable {T : List Addr} {G : GC} {w w' : Wd}
theorem Fz.monoT {a : Addr} {u : HO} (x : WX' T w w') (hT : Tok T w) (h : Fz w a u) : Fz w' a u := by
  obtain ⟨h | ⟨o, h⟩, nm⟩ := h
  · obtain ⟨h1, h2⟩ := x.keepM hT h nm; exact ⟨.inl h1, h2⟩
  · obtain ⟨h1, h2⟩ := x.keepM hT h nm; exact ⟨.inr ⟨o, h1⟩, h2⟩
mutual
theorem Rep.monoT (x : WX' T w w') (hT : Tok T w) : ∀ (d : D) (v : V), Rep G w d v → Rep G w' d v
  | .non, v, h => by simpa only [Rep] using h
  | .bl b, v, h => by simpa only [Rep] using h
  | .int i, v, h => by simpa only [Rep] using h
  | .str s, v, h => by simpa only [Rep] using h
  | .tup l, v, h => by
    simp only [Rep] at h ⊢
    obtain ⟨a, vs, e, h1, h2⟩ := h
    exact ⟨a, vs, e, h1.imp (Fz.monoT x hT) id, RepL.monoT x hT l vs h2⟩
  | .lst l, v, h => by
    simp only [Rep] at h ⊢
    obtain ⟨a, vs, e, h1, nm, h2⟩ := h
    obtain ⟨q1, q2⟩ := x.keepM hT h1 nm
    exact ⟨a, vs, e, q1, q2, RepL.monoT x hT l vs h2⟩
  | .dic ks l, v, h => by
    simp only [Rep] at h ⊢
    obtain ⟨a, vs, e, h1, nm, hl, h2⟩ := h
    obtain ⟨q1, q2⟩ := x.keepM hT h1 nm
    exact ⟨a, vs, e, q1, q2, hl, RepL.monoT x hT l vs h2⟩
  | .obj n, v, h => by
    simp only [Rep] at h ⊢
    obtain ⟨a, h1, e⟩ := h
    exact ⟨a, x.mu n a h1, e⟩
  | .glb y, v, h => by simpa only [Rep] using h
  | .ty n, v, h => by simpa only [Rep] using h
  | .scr ns, v, h => by
    simp only [Rep] at h ⊢
    obtain ⟨a, e, h1⟩ := h
    exact ⟨a, e, h1.imp (Fz.monoT x hT) id⟩
  | .kd ks l, v, h => by
    simp only [Rep] at h ⊢
    obtain ⟨a, es, n, vs, us, e, h1, h2, h3, h4, h5⟩ := h
    exact ⟨a, es, n, vs, us, e, h1, h2, h3, h4, RepL.monoT x hT l vs h5⟩
theorem RepL.monoT (x : WX' T w w') (hT : Tok T w) : ∀ (d : List D) (v : List V), RepL G w d v → RepL G w' d v
  | [], v, h => by simpa only [RepL] using h
  | d :: ds, v, h => by
    simp only [RepL] at h ⊢
    obtain ⟨y, r, e, h1, h2⟩ := h
    exact ⟨y, r, e, Rep.monoT x hT d y h1, RepL.monoT x hT ds r h2⟩
end
end
theorem noT {w : Wd} : Tok [] w := fun _ h => by simp at h
theorem Rep.mono {G : GC} {w w' : Wd} (x : WExt w w') (d : D) (v : V) (h : Rep G w d v) : Rep G w' d v := Rep.monoT x noT d v h
theorem RepL.mono {G : GC} {w w' : Wd} (x : WExt w w') (d : List D) (v : List V) (h : RepL G w d v) : RepL G w' d v := RepL.monoT x noT d v h
theorem RepKV.monoT {κ : Type} {T : List Addr} {G : GC} {w w' : Wd} (x : WX' T w w') (hT : Tok T w) : ∀ (d : List (κ × D)) (v : List (κ × V)), RepKV G w d v → RepKV G w' d v
  | [], v, h => h
  | d :: ds, v, h => by
    obtain ⟨y, r, e, h1, h2⟩ := h
    exact ⟨y, r, e, Rep.monoT x hT _ y h1, RepKV.monoT x hT ds r h2⟩
theorem RepKV.mono {κ : Type} {G : GC} {w w' : Wd} (x : WExt w w') (d : List (κ × D)) (v : List (κ × V)) (h : RepKV G w d v) : RepKV G w' d v := RepKV.monoT x noT d v h
theorem ERep.monoT {T : List Addr} {G : GC} {w w' : Wd} {env : EnvD} {σ : L2.St} (x : WX' T w w') (hT : Tok T w) (h : ERep G w env σ) : ERep G w' env σ :=
  ⟨h.len, fun i d e => let ⟨v, h1, h2⟩ := h.at' i d e; ⟨v, h1, Rep.monoT x hT d v h2⟩⟩
theorem ERep.mono {G : GC} {w w' : Wd} {env : EnvD} {σ : L2.St} (x : WExt w w') (h : ERep G w env σ) : ERep G w' env σ := ERep.monoT x noT h
theorem ERep.set {G : GC} {w : Wd} {env : EnvD} {σ : L2.St} {d : D} {v : V} (i : Nat) (h : ERep G w env σ) (r : Rep G w d v) : ERep G w (env.set i (some d)) (σ.set i (some v)) := by
  refine ⟨by simp [h.len], fun j d' e => ?_⟩
  by_cases hj : i = j
  · subst hj
    by_cases hi : i < env.length
    · rw [List.getElem?_set_self hi] at e
      cases e
      exact ⟨v, List.getElem?_set_self (by rw [← h.len]; exact hi), r⟩
    · rw [List.getElem?_eq_none (by simpa using hi)] at e
      cases e
  · rw [List.getElem?_set_ne hj] at e ⊢
    exact h.at' j d' e

/-- an exception in the air -/
def XRep (G : GC) (w : Wd) (e : Ex) (C : Value) (dx : Option Addr) : Prop :=
  (∃ Ca, G.mg e.cls = some (.ref Ca) ∧ C = .ref Ca) ∧ (e.fs = [] ∨ ∃ d kvs, dx = some d ∧ w.H d = some (.xd kvs) ∧ ¬ Mut w d ∧ RepKV G w e.fs kvs)

def Post {α β : Type} (G : GC) (w : Wd) (r : R α) (Ra : Wd → α → β → Prop) (Q : β → Hp → Prop) (E : Value → Option Addr → Hp → Prop) : Prop :=
  match r with
  | .ok d S' => ∀ v w', WExt w w' → w'.S = S' → SRep G w' → Ra w' d v → Q v w'.H
  | .exc e S' => ∀ C dx w', WExt w w' → w'.S = S' → SRep G w' → XRep G w' e C dx → E C dx w'.H
  | .bad => False
section
variable {α β γ δ : Type} {G : GC} {w w' : Wd} {r : R α} {Ra : Wd → α → β → Prop} {Rb : Wd → γ → δ → Prop} {Q Q' : β → Hp → Prop} {E E' : Value → Option Addr → Hp → Prop}
theorem Post.shift (x : WExt w w') (h : Post G w r Ra Q E) : Post G w' r Ra Q E := by
  cases r with
  | ok d S' => exact fun v w2 e hs sr rp => h v w2 (WX'.trans x e) hs sr rp
  | exc e S' => exact fun C dx w2 e hs sr rp => h C dx w2 (WX'.trans x e) hs sr rp
  | bad => exact h
theorem Post.mono (h : Post G w r Ra Q E) (hq : ∀ v H, Q v H → Q' v H) (he : ∀ C d H, E C d H → E' C d H) : Post G w r Ra Q' E' := by
  cases r with
  | ok d S' => exact fun v w2 e hs sr rp => hq _ _ (h v w2 e hs sr rp)
  | exc e S' => exact fun C dx w2 e hs sr rp => he _ _ _ (h C dx w2 e hs sr rp)
  | bad => exact h
/-- what a bind asks of its first part -/
def Mid {β : Type} (G : GC) (w : Wd) (Ra : Wd → α → β → Prop) (P : Wd → α → Prop) (x : β) (H1 : Hp) : Prop :=
  ∃ w1 d, w1.H = H1 ∧ WExt w w1 ∧ SRep G w1 ∧ Ra w1 d x ∧ P w1 d
theorem Post.bind {f : α → Store → R γ} {Q : δ → Hp → Prop} (h : Post G w (r.bind f) Rb Q E) :
    Post G w r Ra (Mid G w Ra fun w1 d => Post G w1 (f d w1.S) Rb Q E) E := by
  cases r with
  | ok d S' =>
    intro v w1 e hs sr rp
    refine ⟨w1, d, rfl, e, sr, rp, ?_⟩
    subst hs
    exact Post.shift e h
  | exc e S' => exact h
  | bad => exact h
theorem Post.ret {a : α} {b : β} (sr : SRep G w) (ra : Ra w a b) (h : Post G w (.ok a w.S) Ra Q E) : Q b w.H := h b w (.refl w) rfl sr ra
end

def tE (G : GC) (m : ED) (Wx : WX) : TE := fun σ H Q => ∃ w env, w.H = H ∧ SRep G w ∧ ERep G w env σ ∧ Post G w (m env w.S) (Rep G) Q (fun C dx H' => Wx C dx σ H')
def tT (G : GC) (m : TD) (Wx : WX) : TT := fun σ H Q => ∃ w env, w.H = H ∧ SRep G w ∧ ERep G w env σ ∧ Post G w (m env w.S) (fun _ a b => a = b) Q (fun C dx H' => Wx C dx σ H')
def tA (G : GC) (m : AD) (Wx : WX) : TA := fun σ H Q => ∃ w env, w.H = H ∧ SRep G w ∧ ERep G w env σ ∧ Post G w (m env w.S) (RepL G) Q (fun C dx H' => Wx C dx σ H')
def PostS (G : GC) (w : Wd) (r : SR) (D : Ends) (Wx : WX) : Prop :=
  match r with
  | .nx env' S' => ∀ σ' w', WExt w w' → w'.S = S' → SRep G w' → ERep G w' env' σ' → D.nx σ' w'.H
  | .ret d S' => ∀ v w', WExt w w' → w'.S = S' → SRep G w' → Rep G w' d v → D.rt v w'.H
  | .brk env' S' => ∀ σ' w', WExt w w' → w'.S = S' → SRep G w' → ERep G w' env' σ' → D.bk σ' w'.H
  | .ct env' S' => ∀ σ' w', WExt w w' → w'.S = S' → SRep G w' → ERep G w' env' σ' → D.ct σ' w'.H
  | .exc e env' S' => ∀ C dx σ' w', WExt w w' → w'.S = S' → SRep G w' → ERep G w' env' σ' → XRep G w' e C dx → Wx C dx σ' w'.H
  | .bad => False
def tS (G : GC) (m : SD) (Wx : WX) : TS := fun D σ H => ∃ w env, w.H = H ∧ SRep G w ∧ ERep G w env σ ∧ PostS G w (m env w.S) D Wx
theorem PostS.shift {G : GC} {w w' : Wd} {r : SR} {D : Ends} {Wx : WX} (x : WExt w w') (h : PostS G w r D Wx) : PostS G w' r D Wx := by
  cases r with
  | nx env S' => exact fun v w2 e hs sr rp => h v w2 (WX'.trans x e) hs sr rp
  | ret d S' => exact fun v w2 e hs sr rp => h v w2 (WX'.trans x e) hs sr rp
  | brk env S' => exact fun v w2 e hs sr rp => h v w2 (WX'.trans x e) hs sr rp
  | ct env S' => exact fun v w2 e hs sr rp => h v w2 (WX'.trans x e) hs sr rp
  | exc e env S' => exact fun C dx σ w2 e hs sr er rp => h C dx σ w2 (WX'.trans x e) hs sr er rp
  | bad => exact h
/-- an expression's result taken on by a statement -/
theorem PostS.ofR {α β : Type} {G : GC} {w : Wd} {r : R α} {Ra : Wd → α → β → Prop} {k : α → Store → SR} {D : Ends} {Wx : WX} {env : EnvD} {σ : L2.St} (er : ERep G w env σ) (h : PostS G w (r.toS env k) D Wx) :
    Post G w r Ra (Mid G w Ra fun w1 d => PostS G w1 (k d w1.S) D Wx) (fun C dx H' => Wx C dx σ H') := by
  cases r with
  | ok d S' =>
    intro v w1 e hs sr rp
    refine ⟨w1, d, rfl, e, sr, rp, ?_⟩
    subst hs
    exact PostS.shift e h
  | exc e S' => exact fun C dx w2 x hs sr rp => h C dx σ w2 x hs sr (er.mono x) rp
  | bad => exact h

/-! ### weaker readings -/
theorem peI {X : Cx} {e : Expr} {t t' : TE} (h : PE X e t) (i : ∀ σ H Q, t' σ H Q → t σ H Q) : PE X e t' := ⟨fun pins s σ H Q I q => h.run pins s σ H Q I (i _ _ _ q)⟩
theorem ptI {X : Cx} {e : Expr} {t t' : TT} (h : PT X e t) (i : ∀ σ H Q, t' σ H Q → t σ H Q) : PT X e t' := ⟨fun pins s σ H Q I q => h.run pins s σ H Q I (i _ _ _ q)⟩
theorem pwI {X : Cx} {e : Expr} {t t' : TT} (h : PW X e t) (i : ∀ σ H Q, t' σ H Q → t σ H Q) : PW X e t' := ⟨fun wh pins s σ H Q I q => h.run wh pins s σ H Q I (i _ _ _ q)⟩
theorem paI {X : Cx} {e : List Expr} {t t' : TA} (h : PA X e t) (i : ∀ σ H Q, t' σ H Q → t σ H Q) : PA X e t' := ⟨fun po pins s σ H Q I q => h.run po pins s σ H Q I (i _ _ _ q)⟩
theorem psI {X : Cx} {e : Stmt} {t t' : TS} (h : PS X e t) (i : ∀ D σ H, t' D σ H → t D σ H) : PS X e t' := ⟨fun pins s σ H D I q => h.run pins s σ H D I (i _ _ _ q)⟩
theorem pssI {X : Cx} {e : List Stmt} {t t' : TS} (h : PSs X e t) (i : ∀ D σ H, t' D σ H → t D σ H) : PSs X e t' := ⟨fun pins s σ H D I q => h.run pins s σ H D I (i _ _ _ q)⟩

abbrev WF : WX := fun _ _ _ _ => False

section
variable {G : GC} {X : Cx} {Wx : WX} {pos : Pos}
/-! ### expressions -/
theorem q_var {e : Expr} {i : Nat} (h : PE X e (tVar i)) : PE X e (tE G (eVar i) Wx) := peI h fun σ H Q q => by
  obtain ⟨w, env, rfl, sr, er, p⟩ := q
  unfold eVar at p
  cases hi : env[i]? with
  | none => rw [hi] at p; exact p.elim
  | some o =>
    cases o with
    | none => rw [hi] at p; exact p.elim
    | some d =>
      rw [hi] at p
      obtain ⟨v, e, r⟩ := er.at' i d hi
      exact ⟨v, e, Post.ret sr r p⟩
theorem q_const {e : Expr} {v : V} {d : D} (h : PE X e (tC v)) (r : ∀ w, Rep G w d v) : PE X e (tE G (eK d) Wx) := peI h fun σ H Q q => by
  obtain ⟨w, env, rfl, sr, er, p⟩ := q
  exact Post.ret sr (r w) p
theorem q_int {i j} : PE X (.Constant (.int i) j pos) (tE G (eK (.int i)) Wx) := q_const pe_int fun _ => by simp [Rep]
theorem q_bl {b j} : PE X (.Constant (.bool b) j pos) (tE G (eK (.bl b)) Wx) := q_const pe_bl fun _ => by simp [Rep]
theorem q_non {j} : PE X (.Constant .none j pos) (tE G (eK .non) Wx) := q_const pe_non fun _ => by simp [Rep]
theorem q_str {x j} : PE X (.Constant (.str x) j pos) (tE G (eK (.str x)) Wx) := q_const pe_str fun _ => by simp [Rep]

/-- an operation by values -/
def r2 (G : GC) (f : F2) : R2 := fun x y H Q => ∃ w d1 d2, w.H = H ∧ SRep G w ∧ Rep G w d1 x ∧ Rep G w d2 y ∧ Post G w (f d1 d2 w.S) (Rep G) Q (fun _ _ _ => False)
def r1 (G : GC) (f : F1) : V → Hp → VK → Prop := fun x H Q => ∃ w d1, w.H = H ∧ SRep G w ∧ Rep G w d1 x ∧ Post G w (f d1 w.S) (Rep G) Q (fun _ _ _ => False)
def rN (G : GC) (f : FN) : List V → Hp → VK → Prop := fun xs H Q => ∃ w ds, w.H = H ∧ SRep G w ∧ RepL G w ds xs ∧ Post G w (f ds w.S) (Rep G) Q (fun _ _ _ => False)
def rM (G : GC) (f : D → FN) : V → List V → Hp → VK → Prop := fun x xs H Q => ∃ w d ds, w.H = H ∧ SRep G w ∧ Rep G w d x ∧ RepL G w ds xs ∧ Post G w (f d ds w.S) (Rep G) Q (fun _ _ _ => False)
/-- no own exception comes of it -/
def R.calm {α : Type} : R α → Prop
  | .exc _ _ => False
  | _ => True
def Calm2 (f : F2) : Prop := ∀ x y S, (f x y S).calm
def Calm1 (f : F1) : Prop := ∀ x S, (f x S).calm
def CalmN (f : FN) : Prop := ∀ xs S, (f xs S).calm
def CalmM (f : D → FN) : Prop := ∀ x xs S, (f x xs S).calm
theorem Post.calm {α β : Type} {w : Wd} {r : R α} {Ra : Wd → α → β → Prop} {Q : β → Hp → Prop} {E E' : Value → Option Addr → Hp → Prop} (c : r.calm) (h : Post G w r Ra Q E) : Post G w r Ra Q E' := by
  cases r with
  | ok _ _ => exact h
  | exc _ _ => exact c.elim
  | bad => exact h

theorem imp_e2 {f : F2} {a b : ED} (c : Calm2 f) : ∀ σ H Q, tE G (e2 f a b) Wx σ H Q → tOp (r2 G f) (tE G a Wx) (tE G b Wx) σ H Q := by
  intro σ H Q q
  obtain ⟨w, env, rfl, sr, er, p⟩ := q
  refine ⟨w, env, rfl, sr, er, (Post.bind p).mono (fun x H1 m => ?_) fun _ _ _ h => h⟩
  obtain ⟨w1, d1, rfl, x1, s1, rp1, p1⟩ := m
  refine ⟨w1, env, rfl, s1, er.mono x1, (Post.bind p1).mono (fun y H2 m => ?_) fun _ _ _ h => h⟩
  obtain ⟨w2, d2, rfl, x2, s2, rp2, p2⟩ := m
  exact ⟨w2, d1, d2, rfl, s2, Rep.mono x2 _ _ rp1, rp2, p2.calm (c _ _ _)⟩
theorem q_op {op : Operator} {f : F2} {a b : Expr} {ma mb : ED} (ho : OpR X (binaryOp op) (r2 G f)) (c : Calm2 f) (ha : PE X a (tE G ma Wx)) (hb : PE X b (tE G mb Wx)) : PE X (.BinOp a op b pos) (tE G (e2 f ma mb) Wx) :=
  peI (pe_op ho ha hb) (imp_e2 c)
theorem q_cmp {op : CmpOp} {f : F2} {a b : Expr} {ma mb : ED} (ho : OpR X (compareOp op) (r2 G f)) (c : Calm2 f) (ha : PE X a (tE G ma Wx)) (hb : PE X b (tE G mb Wx)) (hm : behindInMarks op b = false) : PE X (.Compare a [op] [b] pos) (tE G (e2 f ma mb) Wx) :=
  peI (pe_cmpR ho ha hb hm) (imp_e2 c)
theorem q_ix {f : F2} {a b : Expr} {ma mb : ED} (ho : IxR X (r2 G f)) (c : Calm2 f) (ha : PE X a (tE G ma Wx)) (hb : PE X b (tE G mb Wx)) (hs : PlainIx b) : PE X (.Subscript a b pos) (tE G (e2 f ma mb) Wx) :=
  peI (pe_ix ho ha hb hs) (imp_e2 c)
theorem q_un {op : UnaryOp} {f : F1} {a : Expr} {ma : ED} (ho : UnR X (unaryOp op) (r1 G f)) (c : Calm1 f) (ha : PE X a (tE G ma Wx)) : PE X (.UnaryOp op a pos) (tE G (e1 f ma) Wx) :=
  peI (pe_un ho ha) fun σ H Q q => by
    obtain ⟨w, env, rfl, sr, er, p⟩ := q
    refine ⟨w, env, rfl, sr, er, (Post.bind p).mono (fun x H1 m => ?_) fun _ _ _ h => h⟩
    obtain ⟨w1, d1, rfl, x1, s1, rp1, p1⟩ := m
    exact ⟨w1, d1, rfl, s1, rp1, p1.calm (c _ _)⟩
/-! ### argument lists, displays, built-ins -/
theorem q_nil : PA X [] (tA G aNil Wx) := paI pa_nil fun σ H Q q => by
  obtain ⟨w, env, rfl, sr, er, p⟩ := q
  exact Post.ret (Ra := RepL G) sr (by simp [RepL]) p
theorem q_cons {e : Expr} {es : List Expr} {m : ED} {ms : AD} (ha : PE X e (tE G m Wx)) (hr : PA X es (tA G ms Wx)) (hs : starEach (e :: es) X.env = (false, eval e X.env) :: starEach es X.env := by rfl) : PA X (e :: es) (tA G (aCons m ms) Wx) :=
  paI (pa_cons ha hr hs) fun σ H Q q => by
    obtain ⟨w, env, rfl, sr, er, p⟩ := q
    refine ⟨w, env, rfl, sr, er, (Post.bind p).mono (fun x H1 m => ?_) fun _ _ _ h => h⟩
    obtain ⟨w1, d1, rfl, x1, s1, rp1, p1⟩ := m
    refine ⟨w1, env, rfl, s1, er.mono x1, (Post.bind p1).mono (fun y H2 m => ?_) fun _ _ _ h => h⟩
    obtain ⟨w2, d2, rfl, x2, s2, rp2, p2⟩ := m
    exact Post.ret (Ra := RepL G) (a := d1 :: d2) s2 (by simp only [RepL]; exact ⟨x, y, rfl, Rep.mono x2 _ _ rp1, rp2⟩) p2
theorem imp_eN {f : FN} {a : AD} (c : CalmN f) : ∀ σ H Q, tE G (eN f a) Wx σ H Q → tCB (rN G f) (tA G a Wx) σ H Q := by
  intro σ H Q q
  obtain ⟨w, env, rfl, sr, er, p⟩ := q
  refine ⟨w, env, rfl, sr, er, (Post.bind p).mono (fun x H1 m => ?_) fun _ _ _ h => h⟩
  obtain ⟨w1, d1, rfl, x1, s1, rp1, p1⟩ := m
  exact ⟨w1, d1, rfl, s1, rp1, p1.calm (c _ _)⟩
theorem q_callB {id : String} {x : Str} {p : Pos} {f : FN} {e : Expr} {es : List Expr} {m : AD} (hc : CallR X (.builtin id) (rN G f)) (c : CalmN f) (hg : Gl X x) (hm : X.mg x = none) (hv : bootBuiltins x = some (.builtin id)) (ha : PA X (e :: es) (tA G m Wx)) (hn : x ≠ "__name__" := by decide) (hdb : (x == ("__debug__" : Str)) = false := by decide)
    (he : starEach (e :: es) X.env = (false, eval e X.env) :: starEach es X.env := by rfl) (hpl : (backTo pos (starEach es X.env)).any (·.1) = false := by rfl) : PE X (.Call (.Name x p) (e :: es) [] pos) (tE G (eN f m) Wx) :=
  peI (pe_callB hc hg hm hv ha hn hdb he hpl) (imp_eN c)
theorem q_callTy {T : String} {x : Str} {p : Pos} {f : FN} {e : Expr} {es : List Expr} {m : AD} (hc : CallR X (.type T) (rN G f)) (c : CalmN f) (hg : Gl X x) (hm : X.mg x = none) (hv : bootBuiltins x = some (.type T)) (ha : PA X (e :: es) (tA G m Wx)) (hn : x ≠ "__name__" := by decide) (hdb : (x == ("__debug__" : Str)) = false := by decide)
    (he : starEach (e :: es) X.env = (false, eval e X.env) :: starEach es X.env := by rfl) (hpl : (backTo pos (starEach es X.env)).any (·.1) = false := by rfl) : PE X (.Call (.Name x p) (e :: es) [] pos) (tE G (eN f m) Wx) :=
  peI (pe_callTy hc hg hm hv ha hn hdb he hpl) (imp_eN c)
end
end L3
set_option Elab.async false
set_option linter.all false
set_option maxRecDepth 100000
/-! L3C: worlds that change; statements, loops, comprehensions. -/
namespace L3
open PySem PySem.Spec PyProof.Rows L2

section
variable {G : GC} {w : Wd} {p : Addr} {o : HO}
theorem RepL.length : ∀ {ds : List D} {vs : List V}, RepL G w ds vs → vs.length = ds.length
  | [], vs, h => by simp only [RepL] at h; subst h; rfl
  | d :: ds, vs, h => by
    simp only [RepL] at h
    obtain ⟨v, r, rfl, _, h2⟩ := h
    simp [RepL.length h2]
theorem RepL.get : ∀ {ds : List D} {vs : List V} {i : Nat} {d : D}, RepL G w ds vs → ds[i]? = some d → ∃ v, vs[i]? = some v ∧ Rep G w d v
  | [], _, _, _, _, e => by simp at e
  | d :: ds, vs, 0, d', h, e => by
    simp only [RepL] at h
    obtain ⟨v, r, rfl, h1, h2⟩ := h
    simp at e; subst e
    exact ⟨v, rfl, h1⟩
  | d :: ds, vs, i + 1, d', h, e => by
    simp only [RepL] at h
    obtain ⟨v, r, rfl, h1, h2⟩ := h
    obtain ⟨u, q1, q2⟩ := RepL.get (i := i) (d := d') h2 (by simpa using e)
    exact ⟨u, by simpa using q1, q2⟩
theorem RepL.append : ∀ {ds ds' : List D} {vs vs' : List V}, RepL G w ds vs → RepL G w ds' vs' → RepL G w (ds ++ ds') (vs ++ vs')
  | [], _, _, _, h, h' => by simp only [RepL] at h; subst h; exact h'
  | d :: ds, ds', vs, vs', h, h' => by
    simp only [RepL] at h
    obtain ⟨v, r, rfl, h1, h2⟩ := h
    show RepL G w (d :: (ds ++ ds')) (v :: (r ++ vs'))
    simp only [RepL]
    exact ⟨v, r ++ vs', rfl, h1, RepL.append h2 h'⟩
theorem RepL.one {d : D} {v : V} (h : Rep G w d v) : RepL G w [d] [v] := by
  simp only [RepL]; exact ⟨v, [], rfl, h, rfl⟩
theorem RepL.take : ∀ {ds : List D} {vs : List V} (n : Nat), RepL G w ds vs → RepL G w (ds.take n) (vs.take n)
  | _, _, 0, _ => by simp [RepL]
  | [], vs, n + 1, h => by simp only [RepL] at h; subst h; simp [RepL]
  | d :: ds, vs, n + 1, h => by
    simp only [RepL] at h
    obtain ⟨v, r, rfl, h1, h2⟩ := h
    simp only [List.take_succ_cons, RepL]
    exact ⟨v, _, rfl, h1, RepL.take n h2⟩
theorem RepL.drop : ∀ {ds : List D} {vs : List V} (n : Nat), RepL G w ds vs → RepL G w (ds.drop n) (vs.drop n)
  | _, _, 0, h => h
  | [], vs, n + 1, h => by simp only [RepL] at h; subst h; simp [RepL]
  | d :: ds, vs, n + 1, h => by
    simp only [RepL] at h
    obtain ⟨v, r, rfl, h1, h2⟩ := h
    simp only [List.drop_succ_cons]
    exact RepL.drop n h2
theorem RepL.set : ∀ {ds : List D} {vs : List V} (n : Nat) {d : D} {v : V}, RepL G w ds vs → Rep G w d v → RepL G w (ds.set n d) (vs.set n v)
  | [], vs, n, d, v, h, h' => by simp only [RepL] at h; subst h; simp [RepL]
  | d :: ds, vs, 0, d', v', h, h' => by
    simp only [RepL] at h
    obtain ⟨v, r, rfl, h1, h2⟩ := h
    simp only [List.set_cons_zero, RepL]
    exact ⟨_, _, rfl, h', h2⟩
  | d :: ds, vs, n + 1, d', v', h, h' => by
    simp only [RepL] at h
    obtain ⟨v, r, rfl, h1, h2⟩ := h
    simp only [List.set_cons_succ, RepL]
    exact ⟨_, _, rfl, h1, RepL.set n h2 h'⟩

theorem ORep.there {a : Addr} {ob : O} (h : ORep G w a ob) (lv : ob.live) : ∃ u, w.H a = some u := by
  cases ob with
  | lst l => obtain ⟨vs, e, _⟩ := h; exact ⟨_, e⟩
  | dK l => obtain ⟨vs, e, _⟩ := h; exact ⟨_, e⟩
  | dT l => obtain ⟨vs, e, _⟩ := h; exact ⟨_, e⟩
  | ins c l => obtain ⟨_, _, _, e, _⟩ := h; exact ⟨_, e⟩
  | dead => exact lv.elim
theorem MutS.there {a : Addr} (sr : SRep G w) (m : MutS w a) : ∃ u, w.H a = some u := by
  obtain ⟨n, ob, h1, lv, h2⟩ := m
  exact (sr.obj n ob a h1 h2).there lv
theorem ORep.keep {T : List Addr} {w' : Wd} {a : Addr} {ob : O} (x : WX' T w w') (hT : Tok T w) (h : ORep G w a ob) (e : ob.live → w'.H a = w.H a) : ORep G w' a ob := by
  cases ob with
  | lst l => obtain ⟨vs, h1, h2⟩ := h; exact ⟨vs, (e trivial).trans h1, RepL.monoT x hT _ _ h2⟩
  | dK l => obtain ⟨vs, h1, h2⟩ := h; exact ⟨vs, (e trivial).trans h1, RepKV.monoT x hT _ _ h2⟩
  | dT l => obtain ⟨vs, h1, h2⟩ := h; exact ⟨vs, (e trivial).trans h1, RepKV.monoT x hT _ _ h2⟩
  | ins c l => obtain ⟨C, dx, vs, h1, h2, h3⟩ := h; exact ⟨C, dx, vs, (e trivial).trans h1, RepKV.monoT x hT _ _ h2, h3⟩
  | dead => trivial

abbrev Wd.put (w : Wd) (p : Addr) (o : HO) : Wd := { w with H := upd w.H p o }
/-- a new object that the store does not hold -/
theorem new_ext (sr : SRep G w) (hp : w.H p = none) : WExt w (w.put p o) ∧ SRep G (w.put p o) ∧ ¬ Mut (w.put p o) p := by
  have x : WExt w (w.put p o) := ⟨fun _ _ h => h, fun a u h nm _ => ⟨(upd_ne (ne_of_none h hp)).trans h, nm⟩, fun _ h => .inl h, fun _ h => h⟩
  refine ⟨x, ⟨sr.len, sr.inj, fun n ob a h1 h2 => ?_, fun a ha => ?_⟩, fun m => m.elim (fun m => ?_) fun m => ?_⟩
  · have h := sr.obj n ob a h1 h2
    refine h.keep x noT fun lv => ?_
    obtain ⟨u, e⟩ := h.there lv
    exact upd_ne (ne_of_none e hp)
  · obtain ⟨⟨u, e⟩, nm⟩ := sr.tm a ha
    exact ⟨⟨u, (upd_ne (ne_of_none e hp)).trans e⟩, nm⟩
  · obtain ⟨u, e⟩ := MutS.there sr (show MutS w p from m)
    rw [hp] at e; cases e
  · obtain ⟨⟨u, e⟩, _⟩ := sr.tm p m
    rw [hp] at e; cases e
/-- a new object that the store holds -/
theorem new_obj {ob : O} (sr : SRep G w) (hp : w.H p = none) (hor : ∀ w', WExt w w' → w'.H p = some o → ORep G w' p ob) :
    WExt w ⟨w.mu ++ [p], w.S ++ [ob], upd w.H p o, w.tmp⟩ ∧ SRep G ⟨w.mu ++ [p], w.S ++ [ob], upd w.H p o, w.tmp⟩ := by
  have nmS : ∀ a u, w.H a = some u → ¬ MutS w a → ¬ MutS ⟨w.mu ++ [p], w.S ++ [ob], upd w.H p o, w.tmp⟩ a := fun a u h nm m => by
    obtain ⟨n, o', h1, lv, h2⟩ := m
    by_cases hn : n < w.S.length
    · refine nm ⟨n, o', ?_, lv, ?_⟩
      · simpa [List.getElem?_append_left hn] using h1
      · have : n < w.mu.length := by rw [sr.len]; exact hn
        simpa [List.getElem?_append_left this] using h2
    · have e : n = w.S.length := by
        have := (List.getElem?_eq_some_iff.mp h1).1
        simp at this; omega
      subst e
      have : (w.mu ++ [p])[w.mu.length]? = some p := by simp
      rw [← sr.len] at h2
      have e2 : p = a := Option.some.inj (this.symm.trans h2)
      rw [e2, h] at hp; cases hp
  have x : WExt w ⟨w.mu ++ [p], w.S ++ [ob], upd w.H p o, w.tmp⟩ :=
    ⟨fun n a h => by
        have hl := (List.getElem?_eq_some_iff.mp h).1
        show (w.mu ++ [p])[n]? = some a
        rw [List.getElem?_append_left hl]; exact h,
      fun a u h nm _ => ⟨(upd_ne (ne_of_none h hp)).trans h, nmS a u h nm⟩, fun _ h => .inl h, fun _ h => h⟩
  have split : ∀ (n : Nat) (o' : O), (w.S ++ [ob])[n]? = some o' → w.S[n]? = some o' ∨ (n = w.S.length ∧ o' = ob) := fun n o' h => by
    by_cases hn : n < w.S.length
    · rw [List.getElem?_append_left hn] at h; exact .inl h
    · have e : n = w.S.length := by
        have := (List.getElem?_eq_some_iff.mp h).1
        simp at this; omega
      subst e; simp at h; exact .inr ⟨rfl, h.symm⟩
  have mul : ∀ (n : Nat) (a : Addr), n < w.S.length → (w.mu ++ [p])[n]? = some a → w.mu[n]? = some a := fun n a hn h => by
    have : n < w.mu.length := by rw [sr.len]; exact hn
    rw [List.getElem?_append_left this] at h; exact h
  have mur : ∀ (a : Addr), (w.mu ++ [p])[w.S.length]? = some a → a = p := fun a h => by
    rw [← sr.len] at h; simp at h; exact h.symm
  have old : ∀ (n : Nat) (o' : O) (a : Addr), w.S[n]? = some o' → o'.live → (w.mu ++ [p])[n]? = some a → a ≠ p := fun n o' a h lv hm e => by
    have hn := (List.getElem?_eq_some_iff.mp h).1
    obtain ⟨u, q⟩ := (sr.obj n o' a h (mul n a hn hm)).there lv
    rw [e, hp] at q; cases q
  refine ⟨x, ⟨by simp [sr.len], fun n m a o1 o2 h1 h2 l1 l2 m1 m2 => ?_, fun n o' a h1 h2 => ?_, fun a ha => ?_⟩⟩
  · rcases split n o1 h1 with q1 | ⟨e1, q1⟩ <;> rcases split m o2 h2 with q2 | ⟨e2, q2⟩
    · exact sr.inj n m a o1 o2 q1 q2 l1 l2 (mul n a (List.getElem?_eq_some_iff.mp q1).1 m1) (mul m a (List.getElem?_eq_some_iff.mp q2).1 m2)
    · subst e2; exact absurd (mur a m2) (old n o1 a q1 l1 m1)
    · subst e1; exact absurd (mur a m1) (old m o2 a q2 l2 m2)
    · rw [e1, e2]
  · rcases split n o' h1 with q1 | ⟨e1, q1⟩
    · have hn := (List.getElem?_eq_some_iff.mp q1).1
      have h := sr.obj n o' a q1 (mul n a hn h2)
      refine h.keep x noT fun lv => ?_
      obtain ⟨u, e⟩ := h.there lv
      exact upd_ne (ne_of_none e hp)
    · subst e1 q1
      have e : a = p := mur a h2
      subst e
      exact hor _ x upd_same
  · obtain ⟨⟨u, e⟩, nm⟩ := sr.tm a ha
    exact ⟨⟨u, (upd_ne (ne_of_none e hp)).trans e⟩, nmS a u e nm⟩
/-- an object of the store changes -/
theorem set_obj {n : Nat} {a : Addr} {ob ob' : O} (sr : SRep G w) (hn : w.S[n]? = some ob) (lv : ob.live) (ha : w.mu[n]? = some a) (hor : ∀ w', WExt w w' → w'.H a = some o → ORep G w' a ob') :
    WExt w ⟨w.mu, w.S.set n ob', upd w.H a o, w.tmp⟩ ∧ SRep G ⟨w.mu, w.S.set n ob', upd w.H a o, w.tmp⟩ := by
  have hl := (List.getElem?_eq_some_iff.mp hn).1
  have back : ∀ (m : Nat) (o' : O), (w.S.set n ob')[m]? = some o' → (m = n ∧ o' = ob') ∨ (m ≠ n ∧ w.S[m]? = some o') := fun m o' h => by
    by_cases e : n = m
    · subst e; rw [List.getElem?_set_self hl] at h; exact .inl ⟨rfl, (Option.some.inj h).symm⟩
    · rw [List.getElem?_set_ne e] at h; exact .inr ⟨fun z => e z.symm, h⟩
  have mb : ∀ b, MutS ⟨w.mu, w.S.set n ob', upd w.H a o, w.tmp⟩ b → MutS w b := fun b ⟨m, o', h1, l1, h2⟩ => by
    rcases back m o' h1 with ⟨e, _⟩ | ⟨_, q⟩
    · subst e; exact ⟨m, ob, hn, lv, h2⟩
    · exact ⟨m, o', q, l1, h2⟩
  have nA : ∀ b, ¬ MutS w b → b ≠ a := fun b nm e => nm (by subst e; exact ⟨n, ob, hn, lv, ha⟩)
  have x : WExt w ⟨w.mu, w.S.set n ob', upd w.H a o, w.tmp⟩ := ⟨fun _ _ h => h, fun b u h nm _ => ⟨(upd_ne (nA b nm)).trans h, fun m => nm (mb b m)⟩, fun _ h => .inl h, fun _ h => h⟩
  have lvOf : ∀ (m : Nat) (o' : O), (w.S.set n ob')[m]? = some o' → o'.live → ∃ o2, w.S[m]? = some o2 ∧ o2.live := fun m o' h l => by
    rcases back m o' h with ⟨e, _⟩ | ⟨_, q⟩
    · subst e; exact ⟨ob, hn, lv⟩
    · exact ⟨o', q, l⟩
  refine ⟨x, ⟨by simp [sr.len], fun i j b o1 o2 h1 h2 l1 l2 m1 m2 => ?_, fun m o' b h1 h2 => ?_, fun b hb => ?_⟩⟩
  · obtain ⟨p1, q1, r1⟩ := lvOf i o1 h1 l1
    obtain ⟨p2, q2, r2⟩ := lvOf j o2 h2 l2
    exact sr.inj i j b p1 p2 q1 q2 r1 r2 m1 m2
  · rcases back m o' h1 with ⟨e, e2⟩ | ⟨ne, q⟩
    · subst e e2
      have e3 : b = a := Option.some.inj (h2.symm.trans ha)
      subst e3
      exact hor _ x upd_same
    · have h := sr.obj m o' b q h2
      refine h.keep x noT fun l => upd_ne fun e => ne ?_
      subst e
      exact sr.inj m n _ o' ob q hn l lv h2 ha
  · obtain ⟨⟨u, e⟩, nm⟩ := sr.tm b hb
    exact ⟨⟨u, (upd_ne (nA b nm)).trans e⟩, fun m => nm (mb b m)⟩
end
end L3
set_option Elab.async false
set_option linter.all false
set_option maxRecDepth 100000
/-! L3D: statements, loops. -/
namespace L3
open PySem PySem.Spec PyProof.Rows L2

section
variable {G : GC} {X : Cx} {Wx : WX} {pos : Pos}
/-! ### tests -/
theorem q_val {e : Expr} {m : ED} (h : PE X e (tE G m Wx)) (he : ∀ whole, isTrue e X.env whole = (do let v ← whole; standAt e.pos; holding [v] (truthy v)) := by intro _; rfl) : PT X e (tT G (tOfE m) Wx) := ptI (pt_val h he) fun σ H Q q => by
  obtain ⟨w, env, rfl, sr, er, p⟩ := q
  refine ⟨w, env, rfl, sr, er, (Post.bind p).mono (fun x H1 m => ?_) fun _ _ _ h => h⟩
  obtain ⟨w1, d1, rfl, x1, s1, rp1, p1⟩ := m
  cases d1 with
  | bl k =>
    simp only [Rep] at rp1; subst rp1
    exact ⟨k, rfl, Post.ret (Ra := fun _ (a b : Bool) => a = b) s1 rfl p1⟩
  | _ => exact p1.elim
theorem q_tnot {c : Expr} {m : TD} (h : PT X c (tT G m Wx)) : PT X (.UnaryOp .Not c pos) (tT G (tNot m) Wx) := ptI (pt_not h) fun σ H Q q => by
  obtain ⟨w, env, rfl, sr, er, p⟩ := q
  refine ⟨w, env, rfl, sr, er, (Post.bind (Ra := fun _ (a b : Bool) => a = b) p).mono (fun x H1 m => ?_) fun _ _ _ h => h⟩
  obtain ⟨w1, d1, rfl, x1, s1, rp1, p1⟩ := m
  subst rp1
  exact Post.ret (Ra := fun _ (a b : Bool) => a = b) s1 rfl p1
theorem imp_and {a b : TD} : ∀ σ H Q, tT G (tAnd a b) Wx σ H Q → L2.tAnd (tT G a Wx) (tT G b Wx) σ H Q := by
  intro σ H Q q
  obtain ⟨w, env, rfl, sr, er, p⟩ := q
  refine ⟨w, env, rfl, sr, er, (Post.bind (Ra := fun _ (a b : Bool) => a = b) p).mono (fun x H1 m => ?_) fun _ _ _ h => h⟩
  obtain ⟨w1, d1, rfl, x1, s1, rp1, p1⟩ := m
  subst rp1
  cases d1 with
  | true => exact iteT ⟨w1, env, rfl, s1, er.mono x1, p1⟩
  | false => exact iteF (Post.ret (Ra := fun _ (a b : Bool) => a = b) s1 rfl p1)
theorem imp_or {a b : TD} : ∀ σ H Q, tT G (tOr a b) Wx σ H Q → L2.tOr (tT G a Wx) (tT G b Wx) σ H Q := by
  intro σ H Q q
  obtain ⟨w, env, rfl, sr, er, p⟩ := q
  refine ⟨w, env, rfl, sr, er, (Post.bind (Ra := fun _ (a b : Bool) => a = b) p).mono (fun x H1 m => ?_) fun _ _ _ h => h⟩
  obtain ⟨w1, d1, rfl, x1, s1, rp1, p1⟩ := m
  subst rp1
  cases d1 with
  | true => exact iteT (Post.ret (Ra := fun _ (a b : Bool) => a = b) s1 rfl p1)
  | false => exact iteF ⟨w1, env, rfl, s1, er.mono x1, p1⟩

/-! ### small statements -/
theorem q_pass : PS X (.Pass pos) (tS G sSkip Wx) := psI ps_pass fun D σ H q => by
  obtain ⟨w, env, rfl, sr, er, p⟩ := q
  exact p σ w (.refl w) rfl sr er
theorem q_break : PS X (.Break pos) (tS G sBrk Wx) := psI ps_break fun D σ H q => by
  obtain ⟨w, env, rfl, sr, er, p⟩ := q
  exact p σ w (.refl w) rfl sr er
theorem q_cont : PS X (.Continue pos) (tS G sCt Wx) := psI ps_continue fun D σ H q => by
  obtain ⟨w, env, rfl, sr, er, p⟩ := q
  exact p σ w (.refl w) rfl sr er
theorem q_expr {e : Expr} {m : ED} (h : PE X e (tE G m Wx)) (hs : swapsWith e none pos.line X.env = pure false := by rfl) : PS X (.Expr e pos) (tS G (sExpr m) Wx) := psI (ps_expr h hs) fun D σ H q => by
  obtain ⟨w, env, rfl, sr, er, p⟩ := q
  refine ⟨w, env, rfl, sr, er, (PostS.ofR (Ra := Rep G) er p).mono (fun x H1 m => ?_) fun _ _ _ h => h⟩
  obtain ⟨w1, d1, rfl, x1, s1, rp1, p1⟩ := m
  exact p1 σ w1 (.refl w1) rfl s1 (er.mono x1)
theorem q_ret {e : Expr} {m : ED} (h : PE X e (tE G m Wx)) : PS X (.Return (some e) pos) (tS G (sRet m) Wx) := psI (ps_ret h) fun D σ H q => by
  obtain ⟨w, env, rfl, sr, er, p⟩ := q
  refine ⟨w, env, rfl, sr, er, (PostS.ofR (Ra := Rep G) er p).mono (fun x H1 m => ?_) fun _ _ _ h => h⟩
  obtain ⟨w1, d1, rfl, x1, s1, rp1, p1⟩ := m
  exact p1 x w1 (.refl w1) rfl s1 rp1
theorem q_retN : PS X (.Return none pos) (tS G (sRet (eK .non)) Wx) := psI ps_retN fun D σ H q => by
  obtain ⟨w, env, rfl, sr, er, p⟩ := q
  exact p _ w (.refl w) rfl sr (by simp [Rep])
theorem q_if {c : Expr} {a b : List Stmt} {mc : TD} {ma mb : SD} (hc : PT X c (tT G mc Wx)) (ha : PSs X a (tS G ma Wx)) (hb : PSs X b (tS G mb Wx)) : PS X (.If c a b pos) (tS G (sIf mc ma mb) Wx) := psI (ps_if hc ha hb) fun D σ H q => by
  obtain ⟨w, env, rfl, sr, er, p⟩ := q
  refine ⟨w, env, rfl, sr, er, (PostS.ofR (Ra := fun _ (a b : Bool) => a = b) er p).mono (fun x H1 m => ?_) fun _ _ _ h => h⟩
  obtain ⟨w1, d1, rfl, x1, s1, rp1, p1⟩ := m
  subst rp1
  cases d1 with
  | true => exact iteT ⟨w1, env, rfl, s1, er.mono x1, p1⟩
  | false => exact iteF ⟨w1, env, rfl, s1, er.mono x1, p1⟩
theorem q_snil : PSs X [] (tS G sSkip Wx) := pssI pss_nil fun D σ H q => by
  obtain ⟨w, env, rfl, sr, er, p⟩ := q
  exact p σ w (.refl w) rfl sr er
theorem q_scons {st : Stmt} {rest : List Stmt} {a b : SD} (h1 : PS X st (tS G a Wx)) (h2 : PSs X rest (tS G b Wx)) : PSs X (st :: rest) (tS G (sSeq a b) Wx) := pssI (pss_cons h1 h2) fun D σ H q => by
  obtain ⟨w, env, rfl, sr, er, p⟩ := q
  refine ⟨w, env, rfl, sr, er, ?_⟩
  unfold sSeq at p
  cases h : a env w.S with
  | nx env1 S1 =>
    rw [h] at p
    intro σ' w' e hs s' er'
    subst hs
    exact ⟨w', env1, rfl, s', er', PostS.shift e p⟩
  | ret d S1 => rw [h] at p; exact p
  | brk env1 S1 => rw [h] at p; exact p
  | ct env1 S1 => rw [h] at p; exact p
  | exc e env1 S1 => rw [h] at p; exact p
  | bad => rw [h] at p; exact p.elim
theorem q_sone {st : Stmt} {a : SD} (h1 : PS X st (tS G a Wx)) : PSs X [st] (tS G a Wx) := pss_one h1

/-! ### targets -/
def tG (G : GC) (g : GD) : TG := fun v σ H Q => ∃ w env d, w.H = H ∧ SRep G w ∧ ERep G w env σ ∧ Rep G w d v ∧
  match g d env w.S with
  | .nx env' S' => ∀ σ' w', WExt w w' → w'.S = S' → SRep G w' → ERep G w' env' σ' → Q σ' w'.H
  | _ => False
theorem pgI {e : Expr} {t t' : TG} (h : PG X e t) (i : ∀ v σ H Q, t' v σ H Q → t v σ H Q) : PG X e t' := ⟨fun pins s σ H v u Q I r q => h.run pins s σ H v u Q I r (i _ _ _ _ q)⟩
theorem q_gname {e : Expr} {i : Nat} (h : PG X e (L2.gName i)) : PG X e (tG G (gName i)) := pgI h fun v σ H Q q => by
  obtain ⟨w, env, d, rfl, sr, er, rp, p⟩ := q
  exact p _ w (.refl w) rfl sr (er.set i rp)
/-- a target stores, or the way is not told -/
def GOk (g : GD) : Prop := ∀ d env S, (∃ env' S', g d env S = .nx env' S') ∨ g d env S = .bad
theorem q_asg {tg e : Expr} {m : ED} {g : GD} (he : PE X e (tE G m Wx)) (hg : PG X tg (tG G g)) (hs : swapsWithSole [tg] e pos.line X.env = pure false := by rfl) (hw : swappedStores [tg] e X.env = pure none := by rfl)
    (h1 : (assignEach [tg] X.env).map (·.2) = [assign tg X.env] := by rfl) (gn : GOk g) : PS X (.Assign [tg] e pos) (tS G (sAsg m g) Wx) := psI (ps_asg he hg hs hw h1) fun D σ H q => by
  obtain ⟨w, env, rfl, sr, er, p⟩ := q
  refine ⟨w, env, rfl, sr, er, (PostS.ofR (Ra := Rep G) er p).mono (fun x H1 m => ?_) fun _ _ _ h => h⟩
  obtain ⟨w1, d1, rfl, x1, s1, rp1, p1⟩ := m
  refine ⟨w1, env, d1, rfl, s1, er.mono x1, rp1, ?_⟩
  rcases gn d1 env w1.S with ⟨env', S', h⟩ | h
  · rw [h] at p1 ⊢; exact p1
  · rw [h] at p1; exact p1.elim
theorem q_set {i : Nat} {x : Str} {e : Expr} {m : ED} {pos' : Pos} (hN : X.N.Nodup) (hi : X.N[i]? = some x) (hx : Loc X.env.scope x) (he : PE X e (tE G m Wx)) (hs : swapsWith e (some (.Name x pos')) pos.line X.env = pure false := by rfl) (hf : X.fn x = true ∨ X.env.scope.names.lookup x = some .local := by first | exact .inl rfl | exact .inr rfl | assumption) :
    PS X (.Assign [.Name x pos'] e pos) (tS G (sAsg m (gName i)) Wx) := psI (ps_set hN hi hx he hs hf) fun D σ H q => by
  obtain ⟨w, env, rfl, sr, er, p⟩ := q
  refine ⟨w, env, rfl, sr, er, (PostS.ofR (Ra := Rep G) er p).mono (fun x H1 m => ?_) fun _ _ _ h => h⟩
  obtain ⟨w1, d1, rfl, x1, s1, rp1, p1⟩ := m
  exact p1 _ w1 (.refl w1) rfl s1 ((er.mono x1).set i rp1)

/-! ### what a loop walks -/
structure ItOk (G : GC) (w : Wd) (J : It) (xs : List D) : Prop where
  go : ∀ (T : List Addr) w', (∀ a ∈ T, w.H a = none) → WX' T w w' → SRep G w' → ∀ (i : Nat) (d : D), xs[i]? = some d → J.go i w'.H ∧ ∀ x H'', J.yld i w'.H x H'' → ∃ w'', w''.H = H'' ∧ WExt w' w'' ∧ w''.S = w'.S ∧ SRep G w'' ∧ Rep G w'' d x
  stop : ∀ (T : List Addr) w', (∀ a ∈ T, w.H a = none) → WX' T w w' → SRep G w' → J.stop xs.length w'.H
/-- an iterable: what it gives -/
abbrev ID := EnvD → Store → R (List D)
def tI (G : GC) (m : ID) (Wx : WX) : TI := fun σ H Rr => ∃ w env, w.H = H ∧ SRep G w ∧ ERep G w env σ ∧ Post G w (m env w.S) (fun w' xs (J : It) => ItOk G w' J xs) Rr (fun C dx H' => Wx C dx σ H')
end
end L3
set_option Elab.async false
set_option linter.all false
set_option maxRecDepth 100000
/-! L3E: what is walked; for, while, comprehensions. -/
namespace L3
open PySem PySem.Spec PyProof.Rows L2

/-- one sign -/
def sgn (c : Nat) : D := .str ⟨#[c]⟩
def itemsD (x : D) (S : Store) : R (List D) := match x with
  | .tup l => .ok l S
  | .lst l => .ok l S
  | .str s => .ok (s.cps.toList.map sgn) S
  | .scr ns => .ok (ns.map .int) S
  | _ => .bad
def iSeq (a : ED) : ID := fun env S => (a env S).bind fun x S1 => itemsD x S1
def rangeD (lo hi : Int) : List D := (List.range (hi - lo).toNat).map fun i => .int (lo + (i : Nat))
def okRng (i : Int) : Bool := decide (-(2 ^ 62) ≤ i ∧ i < 2 ^ 62)
def range1 : List D → Store → R (List D) := fun xs S => match xs with
  | [.int j] => if okRng j then .ok (rangeD 0 j) S else .bad
  | _ => .bad
def range2 : List D → Store → R (List D) := fun xs S => match xs with
  | [.int i, .int j] => if okRng i && okRng j then .ok (rangeD i j) S else .bad
  | _ => .bad
def iArgs (f : List D → Store → R (List D)) (a : AD) : ID := fun env S => (a env S).bind fun xs S1 => f xs S1

theorem piI {X : Cx} {tg e : Expr} {t t' : TI} (h : PI X tg e t) (i : ∀ σ H R, t' σ H R → t σ H R) : PI X tg e t' := ⟨fun pins s σ H R I q => h.run pins s σ H R I (i _ _ _ q)⟩

section
variable {G : GC} {X : Cx} {Wx : WX} {pos : Pos}
theorem RepL_ints {w : Wd} : ∀ {ns : List Int} {vs : List V}, RepL G w (ns.map .int) vs ↔ vs = ns.map V.int
  | [], vs => by simp [RepL]
  | n :: ns, vs => by
    simp only [List.map_cons, RepL, Rep]
    constructor
    · rintro ⟨v, r, rfl, rfl, h⟩; rw [RepL_ints.mp h]
    · rintro rfl; exact ⟨_, _, rfl, rfl, RepL_ints.mpr rfl⟩
theorem fr_tok {T : List Addr} {w : Wd} (h : ∀ a ∈ T, w.H a = none) : Tok T w := fun a ha => .inr (h a ha)
theorem it_list {w : Wd} {a : Addr} {vs : List V} {l : List D} (h : (w.H a = some (.lst vs) ∧ ¬ Mut w a) ∨ Fz w a (.lst vs) ∨ KL G.K a vs) (r : RepL G w l vs) : ItOk G w (Itl G.K a) l := by
  have sq : ∀ (T : List Addr) w', (∀ a ∈ T, w.H a = none) → WX' T w w' → SqL G.K w'.H a vs := fun T w' hT x => by
    rcases h with ⟨h, nm⟩ | h | h
    · exact .inl (.inl (x.keepM (fr_tok hT) h nm).1)
    · exact .inl (Fz.monoT x (fr_tok hT) h).1
    · exact .inr h
  have inj : ∀ (T : List Addr) w', (∀ a ∈ T, w.H a = none) → WX' T w w' → ∀ (i : Nat) (d : D), l[i]? = some d → ∃ v, vs[i]? = some v ∧ Rep G w' d v := fun T w' hT x i d e => by
    obtain ⟨v, q1, q2⟩ := r.get e
    exact ⟨v, q1, Rep.monoT x (fr_tok hT) _ _ q2⟩
  refine ⟨fun T w' hT x s i d e => ?_, fun T w' hT x s => ⟨vs, sq T w' hT x, by rw [r.length]; exact Nat.le_refl _⟩⟩
  obtain ⟨v, q1, q2⟩ := inj T w' hT x i d e
  refine ⟨⟨vs, v, sq T w' hT x, q1⟩, fun y H'' hy => ?_⟩
  obtain ⟨rfl, hy⟩ := hy
  have e2 := hy vs (sq T w' hT x)
  rw [q1] at e2; cases e2
  exact ⟨w', rfl, .refl w', rfl, s, q2⟩
theorem it_tup {w : Wd} {a : Addr} {vs : List V} {l : List D} (h : Fz w a (.tup vs) ∨ KT G.K a vs) (r : RepL G w l vs) : ItOk G w (Itt G.K a) l := by
  have sq : ∀ (T : List Addr) w', (∀ a ∈ T, w.H a = none) → WX' T w w' → SqT G.K w'.H a vs := fun T w' hT x => by
    rcases h with h | h
    · exact .inl (Fz.monoT x (fr_tok hT) h).1
    · exact .inr h
  refine ⟨fun T w' hT x s i d e => ?_, fun T w' hT x s => ⟨vs, sq T w' hT x, by rw [r.length]; exact Nat.le_refl _⟩⟩
  obtain ⟨v, q1, q2⟩ := r.get e
  refine ⟨⟨vs, v, sq T w' hT x, q1⟩, fun y H'' hy => ?_⟩
  obtain ⟨rfl, hy⟩ := hy
  have e2 := hy vs (sq T w' hT x)
  rw [q1] at e2; cases e2
  exact ⟨w', rfl, .refl w', rfl, s, Rep.monoT x (fr_tok hT) _ _ q2⟩
theorem it_rng {w : Wd} {lo : Int} {n : Nat} : ItOk G w (Itr lo n) ((List.range n).map fun i => .int (lo + (i : Nat))) := by
  refine ⟨fun T w' hT x s i d e => ?_, fun T w' hT x s => by simp [Itr]⟩
  rw [List.getElem?_map] at e
  by_cases hi : i < n
  · rw [List.getElem?_range hi] at e
    cases e
    refine ⟨hi, fun y H'' hy => ?_⟩
    obtain ⟨rfl, rfl⟩ := hy
    exact ⟨w', rfl, .refl w', rfl, s, by simp [Rep]⟩
  · rw [List.getElem?_eq_none (by simpa using hi)] at e; cases e
theorem it_str {w : Wd} {z : Str} : ItOk G w (Its z) (z.cps.toList.map sgn) := by
  refine ⟨fun T w' hT x s i d e => ?_, fun T w' hT x s => by simp [Its]⟩
  rw [List.getElem?_map] at e
  cases q : z.cps.toList[i]? with
  | none => rw [q] at e; cases e
  | some c =>
    rw [q] at e
    cases e
    have hi : i < z.cps.size := by simpa using (List.getElem?_eq_some_iff.mp q).1
    refine ⟨hi, fun y H'' hy => ?_⟩
    obtain ⟨rfl, c', h1, rfl⟩ := hy
    have : c' = c := by
      have h2 : z.cps.toList[i]? = some c' := by simpa using h1
      rw [h2] at q; exact Option.some.inj q
    subst this
    exact ⟨w', rfl, .refl w', rfl, s, by simp [Rep, sgn]⟩
/-- a list, a tuple, a text -/
theorem q_iter {tg e : Expr} {m : ED} (hK : X.K = G.K) (h : PE X e (tE G m Wx)) : PI X tg e (tI G (iSeq m) Wx) := by
  refine ⟨fun pins s σ H R I q => ?_⟩
  obtain ⟨w, env, rfl, sr, er, p⟩ := q
  refine thn (h.run pins s σ w.H _ I ⟨w, env, rfl, sr, er, Post.bind p⟩) fun v s1 ⟨x, H1, I1, r1, q1⟩ => ?_
  obtain ⟨w1, d1, rfl, x1, sr1, rp1, p1⟩ := q1
  have lst : ∀ {a : Addr} {vs : List V}, SqL X.K w1.H a vs → R (Itl G.K a) w1.H → wpAny (model X.prog X.w) X.A (pyIter (.ref a)) (PIE X pins σ tg R) X.xe s1 := fun {a vs} hq q => by
    obtain ⟨its, rv, p, hz⟩ := I1.list hq
    refine wpAny_pyIter_list p.isList ?_
    refine ⟨s1.heap.objs.size, [s1.heap.objs.size], _, _, w1.H, rfl, I1.kept (t' := s1.toks) fun b o e => Heap.get?_push_of_some _ e, turn_list a _, ⟨_, Heap.get?_push_size _ rfl, rfl, rfl⟩, fun b hb => ?_, by rw [hK]; exact q⟩
    have e : b = s1.heap.objs.size := by simpa using hb
    subst e
    exact I1.fpOk (Nat.le_refl _) (I1.hok.fresh (Nat.le_refl _))
  cases d1 with
  | tup l =>
    simp only [Rep] at rp1
    obtain ⟨a, vs, rfl, hq, rl⟩ := rp1
    cases r1
    have q := p1 (Itt G.K a) w1 (.refl _) rfl sr1 (it_tup hq rl)
    have hq' : SqT X.K w1.H a vs := by rw [hK]; exact hq.imp (fun z => z.1) id
    obtain ⟨its, rv, p, hz⟩ := I1.tuple hq'
    refine wpAny_pyIter_tuple (show s1.heap.IsTuple a its.toArray from p) ?_
    refine ⟨s1.heap.objs.size, [s1.heap.objs.size], _, _, w1.H, rfl, I1.kept (t' := s1.toks) fun b o e => Heap.get?_push_of_some _ e, turn_tuple a _, ⟨_, Heap.get?_push_size _ rfl, rfl, rfl⟩, fun b hb => ?_, by rw [hK]; exact q⟩
    have e : b = s1.heap.objs.size := by simpa using hb
    subst e
    exact I1.fpOk (Nat.le_refl _) (I1.hok.fresh (Nat.le_refl _))
  | lst l =>
    simp only [Rep] at rp1
    obtain ⟨a, vs, rfl, hq, nm, rl⟩ := rp1
    cases r1
    exact lst (vs := vs) (.inl (.inl hq)) (p1 (Itl G.K a) w1 (.refl _) rfl sr1 (it_list (.inl ⟨hq, nm⟩) rl))
  | scr ns =>
    simp only [Rep] at rp1
    obtain ⟨a, rfl, hq⟩ := rp1
    cases r1
    exact lst (vs := ns.map V.int) (by rw [hK]; exact hq.imp (fun z => z.1) id) (p1 (Itl G.K a) w1 (.refl _) rfl sr1 (it_list (.inr hq) (RepL_ints.mpr rfl)))
  | str z =>
    simp only [Rep] at rp1
    subst rp1
    obtain ⟨t, rfl⟩ := r1
    have q := p1 (Its z) w1 (.refl _) rfl sr1 it_str
    cases ha : z.cps.all (· < 128)
    · exact wpAny_pyIter_wide ha (pi_one (tk := s1.toks) I1 _ (turn_str _ z t "str_iterator" (.inr rfl)) ⟨_, Heap.get?_push_size _ rfl, rfl, rfl⟩ q)
    · exact wpAny_pyIter_ascii ha (pi_one (tk := s1.toks) I1 _ (turn_str _ z t "str_ascii_iterator" (.inl rfl)) ⟨_, Heap.get?_push_size _ rfl, rfl, rfl⟩ q)
  | _ => exact p1.elim
theorem q_range1 {tg a : Expr} {m : AD} {p : Pos} (hg : Gl X "range") (hm : X.mg "range" = none) (ha : PA X [a] (tA G m Wx)) (hs : starEach [a] X.env = [(false, eval a X.env)] := by rfl) : PI X tg (.Call (.Name "range" p) [a] [] pos) (tI G (iArgs range1 m) Wx) := piI (pi_range1 hg hm ha hs) fun σ H R q => by
  obtain ⟨w, env, rfl, sr, er, p⟩ := q
  refine ⟨w, env, rfl, sr, er, (Post.bind p).mono (fun x H1 m => ?_) fun _ _ _ h => h⟩
  obtain ⟨w1, d1, rfl, x1, s1, rp1, p1⟩ := m
  unfold range1 at p1
  split at p1
  · rename_i j
    split at p1
    · rename_i hj
      have hj : -(2 ^ 62) ≤ j ∧ j < 2 ^ 62 := by simpa [okRng] using hj
      simp only [RepL, Rep] at rp1
      obtain ⟨v, r, rfl, rfl, rfl⟩ := rp1
      refine ⟨j, rfl, hj.1, hj.2, ?_⟩
      have q := p1 (Itr 0 j.toNat) w1 (.refl _) rfl s1 (by have := it_rng (G := G) (w := w1) (lo := 0) (n := j.toNat); simpa [rangeD] using this)
      exact q
    · exact p1.elim
  · exact p1.elim
theorem q_range2 {tg a b : Expr} {m : AD} {p : Pos} (hg : Gl X "range") (hm : X.mg "range" = none) (ha : PA X [a, b] (tA G m Wx)) (hs : starEach [a, b] X.env = [(false, eval a X.env), (false, eval b X.env)] := by rfl) (hs2 : starEach [b] X.env = [(false, eval b X.env)] := by rfl) :
    PI X tg (.Call (.Name "range" p) [a, b] [] pos) (tI G (iArgs range2 m) Wx) := piI (pi_range2 hg hm ha hs hs2) fun σ H R q => by
  obtain ⟨w, env, rfl, sr, er, p⟩ := q
  refine ⟨w, env, rfl, sr, er, (Post.bind p).mono (fun x H1 m => ?_) fun _ _ _ h => h⟩
  obtain ⟨w1, d1, rfl, x1, s1, rp1, p1⟩ := m
  unfold range2 at p1
  split at p1
  · rename_i i j
    split at p1
    · rename_i hj
      have hj : (-(2 ^ 62) ≤ i ∧ i < 2 ^ 62) ∧ (-(2 ^ 62) ≤ j ∧ j < 2 ^ 62) := by simpa [okRng] using hj
      simp only [RepL, Rep] at rp1
      obtain ⟨v, r, rfl, rfl, v', r', rfl, rfl, rfl⟩ := rp1
      refine ⟨i, j, rfl, ⟨hj.1.1, hj.1.2, hj.2.1, hj.2.2⟩, ?_⟩
      exact p1 (Itr i (j - i).toNat) w1 (.refl _) rfl s1 it_rng
    · exact p1.elim
  · exact p1.elim

/-! ### for -/
def sFor (mi : ID) (g : GD) (body : SD) : SD := fun env S => (mi env S).toS env fun xs S1 => forL g body xs env S1
theorem q_for {tg iter : Expr} {body : List Stmt} {mi : ID} {g : GD} {mb : SD} (hp : PassesOwn (model X.prog X.w) X.A X.env X.xe) (hc : X.calm = true) (hi : PI X tg iter (tI G mi Wx)) (hg : PG X tg (tG G g)) (hb : PSs X body (tS G mb Wx))
    (hs : ∀ x, foldedSetIterable iter X.env x = pure x := by intro _; rfl) : PS X (.For tg iter body [] pos) (tS G (sFor mi g mb) Wx) := psI (ps_for hp hc hi hg hb hs) fun D σ H q => by
  obtain ⟨w, env, rfl, sr, er, p⟩ := q
  refine ⟨w, env, rfl, sr, er, (PostS.ofR (Ra := fun w' xs (J : It) => ItOk G w' J xs) er p).mono (fun J H1 m => ?_) fun _ _ _ h => h⟩
  obtain ⟨w1, xs, rfl, x1, s1, io, p1⟩ := m
  refine ⟨fun i m σ H => ∃ w env, w.H = H ∧ SRep G w ∧ ERep G w env σ ∧ WExt w1 w ∧ i + m = xs.length ∧ PostS G w (forL g mb (xs.drop i) env w.S) D Wx, ⟨xs.length, w1, env, rfl, s1, er.mono x1, .refl _, by omega, by simpa using p1⟩, fun i m σ H hW => ?_⟩
  obtain ⟨w2, env2, rfl, s2, er2, x2, em, p2⟩ := hW
  by_cases hi : i < xs.length
  · have e : xs[i]? = some xs[i] := List.getElem?_eq_getElem hi
    rw [List.drop_eq_getElem_cons hi] at p2
    obtain ⟨go, yl⟩ := io.go [] w2 (fun a h => by simp at h) x2 s2 i xs[i] e
    refine .inr ⟨go, fun σ' H' => ∃ w env, w.H = H' ∧ SRep G w ∧ ERep G w env σ' ∧ WExt w1 w ∧ (i + 1) + (m - 1) = xs.length ∧ PostS G w (forL g mb (xs.drop (i + 1)) env w.S) D Wx, fun σ' H' hN => ⟨m - 1, by omega, hN⟩, fun x H' hy => ?_⟩
    obtain ⟨w3, rfl, x3, eS, s3, rp3⟩ := yl x H' hy
    refine ⟨w3, env2, xs[i], rfl, s3, er2.mono x3, rp3, ?_⟩
    rw [forL] at p2
    rw [eS]
    cases hg2 : g xs[i] env2 w2.S with
    | nx env4 S4 =>
      rw [hg2] at p2
      intro σ4 w4 x4 e4 s4 er4
      subst e4
      refine ⟨w4, env4, rfl, s4, er4, ?_⟩
      have x24 : WExt w1 w4 := WX'.trans (WX'.trans x2 x3) x4
      have p3 := PostS.shift (WX'.trans x3 x4) p2
      cases hb4 : mb env4 w4.S with
      | nx env5 S5 =>
        simp only [hb4] at p3
        intro σ5 w5 x5 e5 s5 er5
        subst e5
        exact ⟨w5, env5, rfl, s5, er5, WX'.trans x24 x5, by omega, PostS.shift x5 p3⟩
      | ct env5 S5 =>
        simp only [hb4] at p3
        intro σ5 w5 x5 e5 s5 er5
        subst e5
        exact ⟨w5, env5, rfl, s5, er5, WX'.trans x24 x5, by omega, PostS.shift x5 p3⟩
      | brk env5 S5 => simp only [hb4] at p3; exact p3
      | ret d S5 => simp only [hb4] at p3; exact p3
      | exc e env5 S5 => simp only [hb4] at p3; exact p3
      | bad => simp only [hb4] at p3; exact p3.elim
    | ret _ _ => rw [hg2] at p2; exact p2.elim
    | brk _ _ => rw [hg2] at p2; exact p2.elim
    | ct _ _ => rw [hg2] at p2; exact p2.elim
    | exc _ _ _ => rw [hg2] at p2; exact p2.elim
    | bad => rw [hg2] at p2; exact p2.elim
  · have ei : i = xs.length := by omega
    subst ei
    refine .inl ⟨io.stop [] w2 (fun a h => by simp at h) x2 s2, ?_⟩
    rw [List.drop_length] at p2
    exact p2 σ w2 (.refl _) rfl s2 er2

/-! ### while -/
theorem q_while {c : Expr} {body : List Stmt} {mc : TD} {mb : SD} (n : Nat) (hp : PassesOwn (model X.prog X.w) X.A X.env X.xe) (hc : PT X c (tT G mc Wx)) (hb : PSs X body (tS G mb Wx)) : PS X (.While c body [] pos) (tS G (sWhile mc mb n) Wx) := psI (ps_while hp hc hb) fun D σ H q => by
  refine ⟨fun m σ H => tS G (sWhile mc mb m) Wx D σ H, ⟨n, q⟩, fun m σ H hW => ?_⟩
  obtain ⟨w, env, rfl, sr, er, p⟩ := hW
  cases m with
  | zero => exact p.elim
  | succ m =>
    refine ⟨w, env, rfl, sr, er, (PostS.ofR (Ra := fun _ (a b : Bool) => a = b) er p).mono (fun x H1 m => ?_) fun _ _ _ h => h⟩
    obtain ⟨w1, d1, rfl, x1, s1, rp1, p1⟩ := m
    subst rp1
    cases d1 with
    | false => exact iteF (p1 σ w1 (.refl _) rfl s1 (er.mono x1))
    | true =>
      refine iteT ⟨fun σ' H' => tS G (sWhile mc mb m) Wx D σ' H', fun σ' H' h => ⟨m, by omega, h⟩, w1, env, rfl, s1, er.mono x1, ?_⟩
      cases hb4 : mb env w1.S with
      | nx env5 S5 =>
        simp only [hb4] at p1
        intro σ5 w5 x5 e5 s5 er5
        subst e5
        exact ⟨w5, env5, rfl, s5, er5, PostS.shift x5 p1⟩
      | ct env5 S5 =>
        simp only [hb4] at p1
        intro σ5 w5 x5 e5 s5 er5
        subst e5
        exact ⟨w5, env5, rfl, s5, er5, PostS.shift x5 p1⟩
      | brk env5 S5 => simp only [hb4] at p1; exact p1
      | ret d S5 => simp only [hb4] at p1; exact p1
      | exc e env5 S5 => simp only [hb4] at p1; exact p1
      | bad => simp only [hb4] at p1; exact p1.elim
end
end L3
set_option Elab.async false
set_option linter.all false
set_option maxRecDepth 100000
/-! L3F: list comprehensions. -/
namespace L3
open PySem PySem.Spec PyProof.Rows L2

def R.nox {α : Type} (r : R α) : R α := match r with
  | .ok a S => .ok a S
  | _ => .bad
def wipeD (env : EnvD) : List Nat → EnvD
  | [] => env
  | v :: vs => (wipeD env vs).set v none
def tYesD : TD := fun _ S => .ok true S
def lcL (g : GD) (tt : TD) (te : ED) (env : EnvD) : List D → Store → R (List D)
  | [], S => .ok [] S
  | x :: xs, S => match g x env S with
    | .nx env1 S1 => (tt env1 S1).nox.bind fun k S2 => match k with
      | true => (te env1 S2).nox.bind fun y S3 => (lcL g tt te env xs S3).bind fun ys S4 => .ok (y :: ys) S4
      | false => lcL g tt te env xs S2
    | _ => .bad
def eLc (mi : ID) (vs : List Nat) (g : GD) (tt : TD) (te : ED) : ED := fun env S => (mi env S).bind fun xs S1 =>
  if xs.length ≤ sizeLine then (lcL g tt te (wipeD env vs) xs S1).bind fun ys S2 => .ok (.lst ys) S2 else .bad

theorem R.bind_assoc {α β γ : Type} (r : R α) (f : α → Store → R β) (g : β → Store → R γ) : (r.bind f).bind g = r.bind fun a S => (f a S).bind g := by
  cases r <;> rfl
theorem R.bind_ok {α : Type} (r : R α) : (r.bind fun a S => .ok a S) = r := by cases r <;> rfl

section
variable {G : GC} {X : Cx} {Wx : WX} {pos : Pos}
theorem ERep.unset {w : Wd} {env : EnvD} {σ : L2.St} (i : Nat) (h : ERep G w env σ) : ERep G w (env.set i none) (σ.set i none) := by
  refine ⟨by simp [h.len], fun j d' e => ?_⟩
  by_cases hj : i = j
  · subst hj
    by_cases hi : i < env.length
    · rw [List.getElem?_set_self hi] at e; cases e
    · rw [List.getElem?_eq_none (by simpa using hi)] at e; cases e
  · rw [List.getElem?_set_ne hj] at e ⊢
    exact h.at' j d' e
theorem ERep.wipe {w : Wd} {env : EnvD} {σ : L2.St} (h : ERep G w env σ) : ∀ vs : List Nat, ERep G w (wipeD env vs) (L2.wipe σ vs)
  | [] => h
  | v :: vs => (ERep.wipe h vs).unset v
theorem wipe_set {σ : L2.St} {i : Nat} {x : Option V} : ∀ {vs : List Nat}, i ∈ vs → L2.wipe (σ.set i x) vs = L2.wipe σ vs
  | [], h => by simp at h
  | v :: vs, h => by
    show (L2.wipe (σ.set i x) vs).set v none = (L2.wipe σ vs).set v none
    by_cases hi : i ∈ vs
    · rw [wipe_set hi]
    · have hv : i = v := by simpa [hi] using h
      subst hv
      have : ∀ {us : List Nat} {τ : L2.St}, i ∉ us → L2.wipe (τ.set i x) us = (L2.wipe τ us).set i x := by
        intro us
        induction us with
        | nil => intro τ _; rfl
        | cons u us ih =>
          intro τ hu
          have h1 : i ≠ u := fun e => hu (by simp [e])
          have h2 : i ∉ us := fun e => hu (by simp [e])
          show (L2.wipe (τ.set i x) us).set u none = ((L2.wipe τ us).set u none).set i x
          rw [ih h2, List.set_comm _ _ h1]
      rw [this hi, List.set_set]

theorem wipe_sub {σ : L2.St} {vs : List Nat} : ∀ {us : List Nat}, (∀ i ∈ us, i ∈ vs) → L2.wipe (L2.wipe σ us) vs = L2.wipe σ vs
  | [], _ => rfl
  | u :: us, h => by
    show L2.wipe ((L2.wipe σ us).set u none) vs = _
    rw [wipe_set (h u (by simp)), wipe_sub fun i hi => h i (by simp [hi])]
mutual
theorem Rep.untmp {w : Wd} {t : List Addr} (ht : ∀ a ∈ t, a ∈ w.tmp) : ∀ (d : D) (v : V), Rep G w d v → Rep G { w with tmp := t } d v
  | .non, v, h => by simpa only [Rep] using h
  | .bl b, v, h => by simpa only [Rep] using h
  | .int i, v, h => by simpa only [Rep] using h
  | .str s, v, h => by simpa only [Rep] using h
  | .tup l, v, h => by
    simp only [Rep] at h ⊢
    obtain ⟨a, vs, e, h1, h2⟩ := h
    exact ⟨a, vs, e, h1.imp (fun z => ⟨z.1, fun m => z.2 (m.imp id (ht a))⟩) id, RepL.untmp ht l vs h2⟩
  | .lst l, v, h => by
    simp only [Rep] at h ⊢
    obtain ⟨a, vs, e, h1, nm, h2⟩ := h
    exact ⟨a, vs, e, h1, fun m => nm (m.imp id (ht a)), RepL.untmp ht l vs h2⟩
  | .dic ks l, v, h => by
    simp only [Rep] at h ⊢
    obtain ⟨a, vs, e, h1, nm, hl, h2⟩ := h
    exact ⟨a, vs, e, h1, fun m => nm (m.imp id (ht a)), hl, RepL.untmp ht l vs h2⟩
  | .obj n, v, h => by simpa only [Rep] using h
  | .glb y, v, h => by simpa only [Rep] using h
  | .ty n, v, h => by simpa only [Rep] using h
  | .scr ns, v, h => by
    simp only [Rep] at h ⊢
    obtain ⟨a, e, h1⟩ := h
    exact ⟨a, e, h1.imp (fun z => ⟨z.1, fun m => z.2 (m.imp id (ht a))⟩) id⟩
  | .kd ks l, v, h => by
    simp only [Rep] at h ⊢
    obtain ⟨a, es, n, vs, us, e, h1, h2, h3, h4, h5⟩ := h
    exact ⟨a, es, n, vs, us, e, h1, h2, h3, h4, RepL.untmp ht l vs h5⟩
theorem RepL.untmp {w : Wd} {t : List Addr} (ht : ∀ a ∈ t, a ∈ w.tmp) : ∀ (d : List D) (v : List V), RepL G w d v → RepL G { w with tmp := t } d v
  | [], v, h => by simpa only [RepL] using h
  | d :: ds, v, h => by
    simp only [RepL] at h ⊢
    obtain ⟨y, r, e, h1, h2⟩ := h
    exact ⟨y, r, e, Rep.untmp ht d y h1, RepL.untmp ht ds r h2⟩
end
theorem RepKV.untmp {κ : Type} {w : Wd} {t : List Addr} (ht : ∀ a ∈ t, a ∈ w.tmp) : ∀ (d : List (κ × D)) (v : List (κ × V)), RepKV G w d v → RepKV G { w with tmp := t } d v
  | [], v, h => h
  | d :: ds, v, h => by
    obtain ⟨y, r, e, h1, h2⟩ := h
    exact ⟨y, r, e, Rep.untmp ht _ y h1, RepKV.untmp ht ds r h2⟩
theorem ORep.untmp {w : Wd} {t : List Addr} (ht : ∀ a ∈ t, a ∈ w.tmp) {a : Addr} : ∀ {ob : O}, ORep G w a ob → ORep G { w with tmp := t } a ob
  | .lst _, ⟨vs, h1, h2⟩ => ⟨vs, h1, RepL.untmp ht _ _ h2⟩
  | .dK _, ⟨vs, h1, h2⟩ => ⟨vs, h1, RepKV.untmp ht _ _ h2⟩
  | .dT _, ⟨vs, h1, h2⟩ => ⟨vs, h1, RepKV.untmp ht _ _ h2⟩
  | .ins _ _, ⟨C, dx, vs, h1, h2, h3⟩ => ⟨C, dx, vs, h1, RepKV.untmp ht _ _ h2, h3⟩
  | .dead, _ => trivial
theorem SRep.untmp {w : Wd} {t : List Addr} (ht : ∀ a ∈ t, a ∈ w.tmp) (s : SRep G w) : SRep G { w with tmp := t } :=
  ⟨s.len, s.inj, fun n ob a h1 h2 => ORep.untmp ht (s.obj n ob a h1 h2), fun a ha => s.tm a (ht a ha)⟩

/-- a target of a comprehension, that stores at vs alone -/
def tGW (G : GC) (g : GD) (vs : List Nat) : TG := fun v σ H Q => ∃ w env d, w.H = H ∧ SRep G w ∧ ERep G w env σ ∧ Rep G w d v ∧
  match g d env w.S with
  | .nx env' S' => ∀ σ' w', WExt w w' → w'.S = S' → SRep G w' → ERep G w' env' σ' → L2.wipe σ' vs = L2.wipe σ vs → Q σ' w'.H
  | _ => False
theorem q_gnameW {e : Expr} {i : Nat} {vs : List Nat} (h : PG X e (L2.gName i)) (hv : i ∈ vs) : PG X e (tGW G (gName i) vs) := pgI h fun v σ H Q q => by
  obtain ⟨w, env, d, rfl, sr, er, rp, p⟩ := q
  exact p _ w (.refl w) rfl sr (er.set i rp) (wipe_set hv)
theorem q_gof {e : Expr} {g : GD} {vs : List Nat} (h : PG X e (tGW G g vs)) : PG X e (tG G g) := pgI h fun v σ H Q q => by
  obtain ⟨w, env, d, rfl, sr, er, rp, p⟩ := q
  refine ⟨w, env, d, rfl, sr, er, rp, ?_⟩
  cases h : g d env w.S with
  | nx env' S' => rw [h] at p; exact fun σ' w' x e s er _ => p σ' w' x e s er
  | ret _ _ => rw [h] at p; exact p.elim
  | brk _ _ => rw [h] at p; exact p.elim
  | ct _ _ => rw [h] at p; exact p.elim
  | exc _ _ _ => rw [h] at p; exact p.elim
  | bad => rw [h] at p; exact p.elim

def tTs (G : GC) (m : TD) : TT := tT G m WF
theorem imp_lc {mi : ID} {vs : List Nat} {g : GD} {tt : TD} {te : ED} : ∀ σ H Q, tE G (eLc mi vs g tt te) Wx σ H Q → tLc (tI G mi Wx) (tGW G g vs) (tT G tt WF) (tE G te WF) vs σ H Q := by
  intro σ H Q q
  obtain ⟨w, env, rfl, sr, er, p⟩ := q
  refine ⟨w, env, rfl, sr, er, (Post.bind (Ra := fun w' xs (J : It) => ItOk G w' J xs) p).mono (fun J H1 m => ?_) fun _ _ _ h => h⟩
  obtain ⟨w1, xs, rfl, x1, s1, io, p1⟩ := m
  intro L hL
  have hfr : ∀ a ∈ [L], w1.H a = none := fun a h => by have : a = L := by simpa using h
                                                       rw [this]; exact hL
  by_cases hz : xs.length ≤ sizeLine
  · rw [if_pos hz] at p1
    have er1 := (er.mono x1).wipe vs
    have h0 : WX' [L] w1 ⟨w1.mu, w1.S, upd w1.H L (.lst []), L :: w1.tmp⟩ :=
      ⟨fun _ _ h => h, fun a o h nm ha => ⟨(upd_ne (by simpa using ha)).trans h, nm⟩, fun a h => by
        rcases List.mem_cons.mp h with e | h
        · exact .inr (by simp [e])
        · exact .inl h, fun a h => List.mem_cons_of_mem _ h⟩
    have nL : ¬ MutS w1 L := fun m => by obtain ⟨u, e⟩ := MutS.there s1 m; rw [hL] at e; cases e
    have sW : SRep G ⟨w1.mu, w1.S, upd w1.H L (.lst []), L :: w1.tmp⟩ := by
      refine ⟨s1.len, s1.inj, fun n ob a h1 h2 => ?_, fun a ha => ?_⟩
      · have h := s1.obj n ob a h1 h2
        refine h.keep h0 (fr_tok hfr) fun lv => ?_
        obtain ⟨u, e⟩ := h.there lv
        exact upd_ne (ne_of_none e hL)
      · rcases List.mem_cons.mp ha with e | ha
        · subst e; exact ⟨⟨_, upd_same⟩, nL⟩
        · obtain ⟨⟨u, e⟩, nm⟩ := s1.tm a ha
          exact ⟨⟨u, (upd_ne (ne_of_none e hL)).trans e⟩, nm⟩
    refine ⟨fun i m H => ∃ w3 acc us, w3.H = H ∧ SRep G w3 ∧ WX' [L] w1 w3 ∧ L ∈ w3.tmp ∧ w3.H L = some (.lst us) ∧ RepL G w3 acc us ∧ acc.length ≤ i ∧ i + m = xs.length ∧
        (lcL g tt te (wipeD env vs) xs w1.S) = (lcL g tt te (wipeD env vs) (xs.drop i) w3.S).bind fun ys S2 => .ok (acc ++ ys) S2,
      ⟨xs.length, _, [], [], rfl, sW, h0, by simp, upd_same, by simp [RepL], Nat.le_refl _, by omega, ?_⟩, fun i m H hW => ?_⟩
    · simp only [List.drop_zero, List.nil_append, R.bind_ok]
    obtain ⟨w3, acc, us, rfl, s3, x3, tm3, hL3, ra3, hlen, em, eq⟩ := hW
    rw [eq] at p1
    by_cases hi : i < xs.length
    · have e : xs[i]? = some xs[i] := List.getElem?_eq_getElem hi
      obtain ⟨go, yl⟩ := io.go [L] w3 hfr x3 s3 i xs[i] e
      refine .inr ⟨go, fun H' => ∃ w5 acc us, w5.H = H' ∧ SRep G w5 ∧ WX' [L] w1 w5 ∧ L ∈ w5.tmp ∧ w5.H L = some (.lst us) ∧ RepL G w5 acc us ∧ acc.length ≤ i + 1 ∧ (i + 1) + (m - 1) = xs.length ∧
        (lcL g tt te (wipeD env vs) xs w1.S) = (lcL g tt te (wipeD env vs) (xs.drop (i + 1)) w5.S).bind fun ys S2 => .ok (acc ++ ys) S2, fun H' hN => ⟨m - 1, by omega, hN⟩, fun x H' hy => ?_⟩
      obtain ⟨w4, rfl, x4, eS4, s4, rp4⟩ := yl x H' hy
      have x14 : WX' [L] w1 w4 := WX'.trans x3 (WX'.wide x4)
      refine ⟨w4, wipeD env vs, xs[i], rfl, s4, er1.monoT x14 (fr_tok hfr), rp4, ?_⟩
      rw [List.drop_eq_getElem_cons hi, lcL] at eq p1
      rw [eS4]
      cases hg : g xs[i] (wipeD env vs) w3.S with
      | nx env5 S5 =>
        rw [hg] at eq p1
        simp only at eq p1
        intro σ5 w5 x5 e5 s5 er5 hw
        subst e5
        refine ⟨hw.trans (wipe_sub fun _ h => h), w5, env5, rfl, s5, er5, ?_⟩
        cases ht : tt env5 w5.S with
        | ok k S6 =>
          rw [ht] at eq p1
          simp only [R.nox, R.bind] at eq p1
          intro b w6 x6 e6 s6 hb
          subst hb e6
          have x46 : WExt w4 w6 := WX'.trans x5 x6
          have x16 : WX' [L] w1 w6 := WX'.trans x14 (WX'.wide x46)
          have hL6 : w6.H L = some (.lst us) := (x46.keep L _ ((x4.keep L _ hL3 ((s3.tm L tm3).2) (by simp)).1) ((s4.tm L (x4.tmp' L tm3)).2) (by simp)).1
          have tm6 : L ∈ w6.tmp := x46.tmp' L (x4.tmp' L tm3)
          have ra6 : RepL G w6 acc us := RepL.mono (WX'.trans x4 x46) _ _ ra3
          cases k with
          | false =>
            refine iteF ⟨w6, acc, us, rfl, s6, x16, tm6, hL6, ra6, by omega, by omega, ?_⟩
            simpa using eq
          | true =>
            refine iteT ⟨w6, env5, rfl, s6, er5.mono x6, ?_⟩
            simp only at eq p1
            cases hte : te env5 w6.S with
            | ok y S7 =>
              rw [hte] at eq p1
              simp only [R.nox, R.bind] at eq p1
              intro v w7 x7 e7 s7 r7
              subst e7
              have hL7 : w7.H L = some (.lst us) := (x7.keep L _ hL6 ((s6.tm L tm6).2) (by simp)).1
              have tm7 : L ∈ w7.tmp := x7.tmp' L tm6
              have nm7 : ¬ MutS w7 L := (s7.tm L tm7).2
              have lu : us.length = acc.length := ra3.length
              refine ⟨us, hL7, by omega, ?_⟩
              have x8 : WX' [L] w7 (w7.put L (.lst (us ++ [v]))) := ⟨fun _ _ h => h, fun a o h nm ha => ⟨(upd_ne (by simpa using ha)).trans h, nm⟩, fun a h => .inl h, fun a h => h⟩
              have t8 : Tok [L] w7 := fun a h => .inl (by have : a = L := by simpa using h
                                                          rw [this]; exact tm7)
              have s8 : SRep G (w7.put L (.lst (us ++ [v]))) := by
                refine ⟨s7.len, s7.inj, fun n ob a h1 h2 => ?_, fun a ha => ?_⟩
                · have h := s7.obj n ob a h1 h2
                  exact h.keep x8 t8 fun lv => upd_ne fun e => nm7 (by subst e; exact ⟨n, ob, h1, lv, h2⟩)
                · obtain ⟨⟨u, e⟩, nm⟩ := s7.tm a ha
                  by_cases ea : a = L
                  · subst ea; exact ⟨⟨_, upd_same⟩, nm⟩
                  · exact ⟨⟨u, (upd_ne ea).trans e⟩, nm⟩
              refine ⟨_, acc ++ [y], us ++ [v], rfl, s8, WX'.trans (WX'.trans x16 (WX'.wide x7)) x8, tm7, upd_same, ?_, by simp; omega, by omega, ?_⟩
              · exact (RepL.monoT x8 t8 _ _ (RepL.mono x7 _ _ ra6)).append (RepL.one (Rep.monoT x8 t8 _ _ r7))
              · rw [eq]
                show _ = (lcL g tt te (wipeD env vs) (List.drop (i + 1) xs) w7.S).bind _
                cases lcL g tt te (wipeD env vs) (List.drop (i + 1) xs) w7.S <;> simp [R.bind]
            | exc ee S7 => rw [hte] at p1; exact p1.elim
            | bad => rw [hte] at p1; exact p1.elim
        | exc ee S6 => rw [ht] at p1; exact p1.elim
        | bad => rw [ht] at p1; exact p1.elim
      | ret _ _ => rw [hg] at p1; exact p1.elim
      | brk _ _ => rw [hg] at p1; exact p1.elim
      | ct _ _ => rw [hg] at p1; exact p1.elim
      | exc _ _ _ => rw [hg] at p1; exact p1.elim
      | bad => rw [hg] at p1; exact p1.elim
    · have ei : i = xs.length := by omega
      subst ei
      refine .inl ⟨io.stop [L] w3 hfr x3 s3, ?_⟩
      rw [List.drop_length] at p1
      have we : WExt w1 { w3 with tmp := w1.tmp } := ⟨x3.mu, fun a o h nm _ => x3.keep a o h nm (by
        intro ha
        have : a = L := by simpa using ha
        rw [this, hL] at h; cases h), fun a h => .inl h, fun a h => h⟩
      have tinc : ∀ a, a ∈ w1.tmp → a ∈ w3.tmp := x3.tmp'
      have se : SRep G { w3 with tmp := w1.tmp } := s3.untmp tinc
      have nmL : ¬ Mut { w3 with tmp := w1.tmp } L := fun m => m.elim (s3.tm L tm3).2 fun z => by
        obtain ⟨⟨u, e⟩, _⟩ := s1.tm L z
        rw [hL] at e; cases e
      have hr : Rep G { w3 with tmp := w1.tmp } (.lst (acc ++ [])) (.ref L) := by
        simp only [Rep, List.append_nil]
        exact ⟨L, us, rfl, hL3, nmL, RepL.untmp tinc _ _ ra3⟩
      exact p1 (.ref L) { w3 with tmp := w1.tmp } we rfl se hr
  · rw [if_neg hz] at p1; exact p1.elim
/-- [elt for target in iter if ..] -/
theorem q_lc {elt tg iter : Expr} {ifs : List Expr} {scope : Scope} {own : List (Str × Nat)} {mi : ID} {g : GD} {mt : TD} {me : ED} (hc : X.calm = true) (hN : X.N.Nodup) (hi : PI X tg iter (tI G mi Wx)) (ok : BlkOk X.N X.env.scope scope own)
    (hg : ∀ (s : Shared) (H : Hp) (C : Addr) (cl : List (Str × Addr)) (fp : List Addr), PG (X.blk s H scope (compEnvC scope cl C X.env) fp) tg (tGW G g (own.map (·.2))))
    (ht : ∀ (s : Shared) (H : Hp) (C : Addr) (cl : List (Str × Addr)) (fp : List Addr), PTs (X.blk s H scope (compEnvC scope cl C X.env) fp) ifs (tT G mt WF))
    (he : ∀ (s : Shared) (H : Hp) (C : Addr) (cl : List (Str × Addr)) (fp : List Addr), PE (X.blk s H scope (compEnvC scope cl C X.env) fp) elt (tE G me WF)) (hs : ∀ x, foldedSetIterable iter X.env x = pure x := by intro _; rfl) :
    PE X (.ListComp elt [⟨tg, iter, ifs, 0⟩] scope pos) (tE G (eLc mi (own.map (·.2)) g mt me) Wx) := peI (pe_lc hc hN hi ok hg ht he hs) imp_lc
theorem q_setLc {i : Nat} {y : Str} {py : Pos} {elt tg iter : Expr} {ifs : List Expr} {scope : Scope} {own : List (Str × Nat)} {spos : Pos} {mi : ID} {g : GD} {mt : TD} {me : ED} (hc : X.calm = true) (hN : X.N.Nodup) (hy : X.N[i]? = some y) (hyl : X.env.scope.names.lookup y = some .local)
    (hsw : swapsWith (.ListComp elt [⟨tg, iter, ifs, 0⟩] scope pos) (some (.Name y py)) spos.line X.env = pure true) (hi : PI X tg iter (tI G mi Wx)) (ok : BlkOk X.N X.env.scope scope own)
    (hg : ∀ (s : Shared) (H : Hp) (C : Addr) (cl : List (Str × Addr)) (fp : List Addr), PG (X.blk s H scope (compEnvC scope cl C X.env) fp) tg (tGW G g (own.map (·.2))))
    (ht : ∀ (s : Shared) (H : Hp) (C : Addr) (cl : List (Str × Addr)) (fp : List Addr), PTs (X.blk s H scope (compEnvC scope cl C X.env) fp) ifs (tT G mt WF))
    (he : ∀ (s : Shared) (H : Hp) (C : Addr) (cl : List (Str × Addr)) (fp : List Addr), PE (X.blk s H scope (compEnvC scope cl C X.env) fp) elt (tE G me WF)) (hs : ∀ x, foldedSetIterable iter X.env x = pure x := by intro _; rfl) :
    PS X (.Assign [.Name y py] (.ListComp elt [⟨tg, iter, ifs, 0⟩] scope pos) spos) (tS G (sAsg (eLc mi (own.map (·.2)) g mt me) (gName i)) Wx) := psI (ps_setLc hc hN hy hyl hsw hi ok hg ht he hs) fun D σ H q => by
  obtain ⟨w, env, rfl, sr, er, p⟩ := q
  refine imp_lc (Wx := Wx) σ w.H _ ⟨w, env, rfl, sr, er, (PostS.ofR (Ra := Rep G) er p).mono (fun x H1 m => ?_) fun _ _ _ h => h⟩
  obtain ⟨w1, d1, rfl, x1, s1, rp1, p1⟩ := m
  exact p1 _ w1 (.refl w1) rfl s1 ((er.mono x1).set i rp1)
theorem q_tnil : PTs X [] (tT G tYesD WF) := ⟨fun pins s σ H Q I q => by
  obtain ⟨w, env, rfl, sr, er, p⟩ := q
  exact pts_nil.run pins s σ w.H Q I (Post.ret (Ra := fun _ (a b : Bool) => a = b) sr rfl p)⟩
theorem q_tone {c : Expr} {m : TD} (h : PT X c (tT G m WF)) : PTs X [c] (tT G m WF) := pts_one h
end
end L3
set_option Elab.async false
set_option linter.all false
set_option maxRecDepth 100000
/-! L3G: calls of own defs; a def by its body. -/
namespace L3
open PySem PySem.Spec PyProof.Rows L2

/-! ### calls where nothing is being shown (repr asks that) -/
structure RoomG (k : Nat) (A : Around) : Prop where
  rm : Room k A
  gd : A.guards = some []
theorem RoomG.deeper {k : Nat} {A : Around} (r : RoomG (k + 1) A) (env : Env) : RoomG k (A.deeper env) := ⟨r.rm.deeper env, r.gd⟩
theorem RoomG.units {k : Nat} {A : Around} (r : RoomG k A) : A.units + 64 < cLine := r.rm.units
theorem RoomG.mono {j k : Nat} {A : Around} (r : RoomG k A) (h : j ≤ k) : RoomG j A := ⟨r.rm.mono h, r.gd⟩
structure FnG (P : Program) (w : World) (K : PySem.W.Frag) (mg : Str → Option Value) (base : Heap) (k : Nat) (f : Addr) (fd : FuncData) (ps : List Str) (sp : Sp) : Prop where
  len : ∀ vs H Q E, sp vs H Q E → vs.length = ps.length
  go : ∀ (A : Around) (outer : List Env) (s : Shared) (H : Hp) (args : Args) (us : List Value) (vs : List V) (Q : VK) (E : XK),
    RoomG k A → Env0 P w K mg base A outer s H → BindsTo s fd args (ps.zip us) → Vals vs us → sp vs H Q E → codeAny (model P w) A (.call (.ref f) args) (CR (L2.CX P w) outer P w H s Q E) s
theorem FnG.imp {P : Program} {w : World} {K : PySem.W.Frag} {mg : Str → Option Value} {base : Heap} {k : Nat} {f : Addr} {fd : FuncData} {ps : List Str} {sp sp' : Sp} (F : FnG P w K mg base k f fd ps sp) (i : ∀ vs H Q E, sp' vs H Q E → sp vs H Q E) :
    FnG P w K mg base k f fd ps sp' :=
  ⟨fun _ _ _ _ h => F.len _ _ _ _ (i _ _ _ _ h), fun A outer s H args us vs Q E r e b v h => F.go A outer s H args us vs Q E r e b v (i _ _ _ _ h)⟩
/-- what a def's own body does, in every entry -/
theorem FnG.of_def {P : Program} {w : World} {K : PySem.W.Frag} {mg : Str → Option Value} {base : Heap} {x qual : Str} {params : Arguments} {body : List Stmt} {scope : Scope} {dvs : List V} {kws : List (Str × V)} {f : Addr} {fd : FuncData} {N ps : List Str} {k : Nat} {sp : Sp}
    (F : FunD K x qual params body scope dvs kws f fd) (Sc : FnScope N ps scope) (len : ∀ vs H Q E, sp vs H Q E → vs.length = ps.length)
    (inner : ∀ (cdv : Value) (A : Around) (outer : List Env) (s : Shared) (H : Hp) (vs : List V) (Q : VK) (E : XK), RoomG k (A.deeper (envOfC qual scope s.heap.objs.size f cdv)) → sp vs H Q E →
      ∃ t : TS, PSs (cxOf (L2.CX P w) P w K mg base N qual scope f cdv A outer s H E) body t ∧ t { nx := fun _ H' => Q .non H', rt := Q } (start N vs) H) : FnG P w K mg base (k + 1) f fd ps sp := by
  obtain ⟨_, _, _, _, _, _, _, cdv, _, _, rfl, place, code, _, _⟩ := F.ex
  refine ⟨len, fun A outer s H args us vs Q E room e0 bound rel want => ?_⟩
  have size := len _ _ _ _ want
  have inK : K.In s.heap := e0.mod.kin.keeps fun b o h => (e0.bs b o h).1
  refine codeAny_call_function room.rm.depth (inK _ _ place) rfl Sc.co Sc.gen rfl (PySem.W.codeRec_of inK code) (bound _ _ _ _ ?_)
  refine wpAny_newFunctionEnv_cells Sc.kind (fun y hy => ?_) fun env made s2 entered => ?_
  · obtain ⟨n, v⟩ := y
    refine (Sc.par n (List.of_mem_zip hy).1).imp id fun c => ⟨c, PySem.W.cellsFrom_some _ _ _ (.inl c)⟩
  subst made
  have nl : s.heap.NoLimit := e0.mod.nolimit.keeps fun b o h => (e0.bs b o h).1
  refine ⟨nl.keeps entered.toInCall.keep, codeAny_func ?_⟩
  obtain ⟨t, runs, holds⟩ := inner cdv A outer s H vs Q E (room.deeper _) want
  have I0 : Inv (cxOf (L2.CX P w) P w K mg base N qual scope f cdv A outer s H E) [] (start N vs) H s2 := inv_start Sc room.rm.hd e0 size rel entered
  refine wpAny_mono (runs.run [] s2 (start N vs) H _ I0 holds) (fun fl s' done => ?_) fun _ _ z => z
  have told : ∀ {σ' : L2.St} {H' : Hp} {v : V} {u : Value}, Inv (cxOf (L2.CX P w) P w K mg base N qual scope f cdv A outer s H E) [] σ' H' s' → RelV v u → Q v H' → CE outer P w H s Q u s' := fun {_ H' v _} J q q' => ⟨v, H', J.os, J.bare, J.base, J.hok, q, q'⟩
  match fl, done with
  | .ret u, ⟨v, σ', H', J, q, q'⟩ => exact told J q q'
  | .next, ⟨σ', H', J, q'⟩ => exact told (v := V.non) (u := Value.none) J rfl q'
  | .brk, ⟨_, _, _, z⟩ => exact False.elim z
  | .cont, ⟨_, _, _, z⟩ => exact False.elim z
section
variable {X : Cx} {k : Nat} {f : Addr} {fd : FuncData} {ps : List Str} {sp : Sp} {dvs : List V} {ds : List Value} {E : L2.St → XK}
/-- a call of it, its arguments known -/
theorem FnG.called {pins : List (Addr × Obj)} {σ : L2.St} {H : Hp} {s : Shared} {Q : VK} {args : Args} {zs : List Value} {ys : List V} (F : FnG X.prog X.w X.K X.mg X.base k f fd ps sp) (room : RoomG k X.A) (hx : PassesAt (L2.CX X.prog X.w) X σ (E σ)) (I : Inv X pins σ H s)
    (bound : BindsTo s fd args (ps.zip zs)) (rel : Vals ys zs) (want : sp ys H Q (E σ)) : codeAny (model X.prog X.w) X.A (.call (.ref f) args) (fun r s' => match r with
      | .ok (.ret u) => EP X pins σ Q u s'
      | .error e => X.xe e s'
      | _ => False) s := by
  refine codeAny_mono (F.go X.A X.stack s H args zs ys Q (E σ) room I.env0 bound rel want) fun r s' q => ?_
  match r, q with
  | .error e, q => exact hx pins H s e s' I q
  | .ok (.ret u), q => exact I.after q
theorem FnG.byPlace {pins : List (Addr × Obj)} {σ : L2.St} {H : Hp} {s : Shared} {Q : VK} {us : List Value} {vs : List V} (F : FnG X.prog X.w X.K X.mg X.base k f fd ps sp) (room : RoomG k X.A) (bs : Binds X.K fd ps ds) (dv : Vals dvs ds) (hx : PassesAt (L2.CX X.prog X.w) X σ (E σ))
    (I : Inv X pins σ H s) (rel : Vals vs us) (want : sp (vs ++ dvs) H Q (E σ)) : wpAny (model X.prog X.w) X.A (call (.ref f) us) (EP X pins σ Q) X.xe s := by
  have all := rel.append dv
  refine wpAny_call (codeAny_mono (F.called room hx I (bs s us I.kIn (by rw [← all.length]; exact F.len _ _ _ _ want)) all want) fun r s' q => ?_)
  match r, q with
  | .error _, q => exact q
  | .ok (.ret _), q => exact q
end
/-- a def's promise -/
def spOf (G : GC) (F : FN) : Sp := fun vs H Q E => ∃ w ds, w.H = H ∧ SRep G w ∧ RepL G w ds vs ∧ Post G w (F ds w.S) (Rep G) Q E
abbrev WE0 (E : XK) : WX := fun C d _ H => E C d H
/-- the arguments, then defaults -/
def callK (F : FN) (dds : List D) : FN := fun xs S => F (xs ++ dds) S

section
variable {G : GC} {X : Cx} {Wx : WX} {pos p : Pos} {k : Nat} {f : Addr} {fd : FuncData} {ps : List Str} {F : FN} {x : Str} {e : Expr} {es : List Expr} {dvs : List V} {ds : List Value} {dds : List D} {m : AD}
theorem imp_call (hdd : ∀ w, RepL G w dds dvs) : ∀ σ H Q, tE G (eN (callK F dds) m) Wx σ H Q → tCallSD (spOf G F) dvs (WE Wx) (tA G m Wx) σ H Q := by
  intro σ H Q q
  obtain ⟨w, env, rfl, sr, er, p⟩ := q
  refine ⟨w, env, rfl, sr, er, (Post.bind p).mono (fun x H1 m => ?_) fun _ _ _ h => h⟩
  obtain ⟨w1, d1, rfl, x1, s1, rp1, p1⟩ := m
  exact ⟨w1, d1 ++ dds, rfl, s1, rp1.append (hdd w1), p1⟩
theorem q_call (hF : FnG X.prog X.w X.K X.mg X.base k f fd ps (spOf G F)) (hr : RoomG k X.A) (hg : Gl X x) (hm : X.mg x = some (.ref f)) (hk : PySem.W.keepIn X.K (.ref f) = true) (hb : Binds X.K fd ps ds) (hd : Vals dvs ds) (hdd : ∀ w, RepL G w dds dvs) (tk : Takes X Wx)
    (ha : PA X (e :: es) (tA G m Wx)) (hdb : (x == ("__debug__" : Str)) = false := by decide) (he : starEach (e :: es) X.env = (false, eval e X.env) :: starEach es X.env := by rfl) (hpl : (backTo pos (starEach es X.env)).any (·.1) = false := by rfl) :
    PE X (.Call (.Name x p) (e :: es) [] pos) (tE G (eN (callK F dds) m) Wx) :=
  peI (t := tCallSD (spOf G F) dvs (WE Wx) (tA G m Wx)) ⟨fun pins s σ H Q I h => wpAny_Call_Name_kw (ld_glob I hg hm (PySem.W.callWith_K (h₀ := X.base) I.ok.mod.kin hk
    (thn (ha.run pos pins s σ H _ I h) fun us s1 ⟨vs, H1, I1, r, q⟩ => ⟨I1.kIn, FnG.byPlace (E := WE Wx) hF hr hb hd (passAt tk σ) I1 r q⟩) he hpl) hdb)⟩ (imp_call hdd)
theorem RepL.nil {w : Wd} : RepL G w [] [] := by simp [RepL]
/-- f() -/
theorem q_call0 (hF : FnG X.prog X.w X.K X.mg X.base k f fd ps (spOf G F)) (hr : RoomG k X.A) (hg : Gl X x) (hm : X.mg x = some (.ref f)) (hk : PySem.W.keepIn X.K (.ref f) = true) (hb : Binds X.K fd ps ds) (hd : Vals dvs ds) (hdd : ∀ w, RepL G w dds dvs) (tk : Takes X Wx)
    (hdb : (x == ("__debug__" : Str)) = false := by decide) : PE X (.Call (.Name x p) [] [] pos) (tE G (eN (callK F dds) aNil) Wx) := by
  refine ⟨fun pins s σ H Q I h => ?_⟩
  obtain ⟨w, env, rfl, sr, er, pp⟩ := h
  refine wpAny_Call_Name_kw (ld_glob I hg hm ?_ hdb)
  exact PySem.W.callWith_K0 I.kIn hk (FnG.byPlace (E := WE Wx) (us := []) (vs := []) hF hr hb hd (passAt tk σ) I .nil ⟨w, dds, rfl, sr, by simpa using hdd w, pp⟩)
end

section
variable {P : Program} {w : World} {G : GC} {base : Heap} {x qual : Str} {params : Arguments} {body : List Stmt} {scope : Scope} {dvs : List V} {kws : List (Str × V)} {f : Addr} {fd : FuncData} {k n : Nat} {N ps : List Str} {m : SD}
theorem len_spOf {vs : List V} {H : Hp} {Q : VK} {E : XK} {F : FN} {n : Nat} (ar : ∀ ds S, ds.length ≠ n → F ds S = .bad) (h : spOf G F vs H Q E) : vs.length = n := by
  obtain ⟨w, ds, rfl, sr, rp, p⟩ := h
  rw [rp.length]
  by_cases e : ds.length = n
  · exact e
  · rw [ar ds w.S e] at p; exact p.elim
theorem run_ar : ∀ (ds : List D) (S : Store), ds.length ≠ n → run n k m ds S = .bad := fun ds S h => by unfold run; rw [if_neg h]
theorem ERep.start {wd : Wd} {ds : List D} {vs : List V} (h : RepL G wd ds vs) : ERep G wd (ds.map some ++ List.replicate (n - ds.length) none) (vs.map some ++ List.replicate (n - vs.length) none) := by
  have hl := h.length
  refine ⟨by simp [hl], fun i d e => ?_⟩
  by_cases hi : i < ds.length
  · rw [List.getElem?_append_left (by simpa using hi), List.getElem?_map] at e
    cases q : ds[i]? with
    | none => rw [q] at e; cases e
    | some d' =>
      rw [q] at e
      cases e
      obtain ⟨v, h1, h2⟩ := h.get q
      refine ⟨v, ?_, h2⟩
      rw [List.getElem?_append_left (by simp [hl]; exact hi), List.getElem?_map, h1]
      rfl
  · rw [List.getElem?_append_right (by simpa using hi)] at e
    have := (List.getElem?_eq_some_iff.mp e).2
    simp at this
/-- THE RULE for a def: its body's reading in every entry -/
theorem fn_ok (F : FunD G.K x qual params body scope dvs kws f fd) (S : FnScope N ps scope)
    (hb : ∀ (cdv : Value) (A : Around) (outer : List Env) (s : Shared) (H : Hp) (E : XK), RoomG k (A.deeper (envOfC qual scope s.heap.objs.size f cdv)) →
      PSs (cxOf (L2.CX P w) P w G.K G.mg base N qual scope f cdv A outer s H E) body (tS G m (WE0 E))) :
    FnG P w G.K G.mg base (k + 1) f fd ps (spOf G (run ps.length N.length m)) := by
  refine FnG.of_def F S (fun vs H Q E h => len_spOf run_ar h) fun cdv A outer s H vs Q E hr h => ⟨_, hb cdv A outer s H E hr, ?_⟩
  obtain ⟨wd, ds, rfl, sr, rp, p⟩ := h
  by_cases hl : ds.length = ps.length
  · unfold run at p
    rw [if_pos hl] at p
    refine ⟨wd, _, rfl, sr, ERep.start rp, ?_⟩
    cases hm : m (ds.map some ++ List.replicate (N.length - ds.length) none) wd.S with
    | nx env S => rw [hm] at p; exact fun σ' w' x hs s er => p .non w' x hs s (by simp [Rep])
    | ret d S => rw [hm] at p; exact p
    | brk _ _ => rw [hm] at p; exact p.elim
    | ct _ _ => rw [hm] at p; exact p.elim
    | exc e env S => rw [hm] at p; exact fun C dx σ' w' x hs s er xr => p C dx w' x hs s xr
    | bad => rw [hm] at p; exact p.elim
  · rw [run_ar ds wd.S hl] at p; exact p.elim
theorem fn_none {nn : Nat} : FnG P w G.K G.mg base nn f fd ps (spOf G fun _ _ => .bad) :=
  ⟨fun vs H Q E ⟨w, ds, _, _, _, p⟩ => p.elim, fun A outer s H args us vs Q E _ _ _ _ ⟨w, ds, _, _, _, p⟩ => p.elim⟩
/-- in a def's own body -/
theorem tk_body {K : PySem.W.Frag} {mg : Str → Option Value} {qual : Str} {scope : Scope} {cdv : Value} {A : Around} {outer : List Env} {s : Shared} {H : Hp} {E : XK} : Takes (cxOf (L2.CX P w) P w K mg base N qual scope f cdv A outer s H E) (WE0 E) := takes_of rfl rfl rfl rfl
theorem po_body {K : PySem.W.Frag} {mg : Str → Option Value} {qual : Str} {scope : Scope} {cdv : Value} {A : Around} {outer : List Env} {s : Shared} {H : Hp} {E : XK} : PassesOwn (model P w) (cxOf (L2.CX P w) P w K mg base N qual scope f cdv A outer s H E).A (cxOf (L2.CX P w) P w K mg base N qual scope f cdv A outer s H E).env (cxOf (L2.CX P w) P w K mg base N qual scope f cdv A outer s H E).xe := passes_of (X := cxOf (L2.CX P w) P w K mg base N qual scope f cdv A outer s H E) rfl
/-- in a comprehension's block nothing is let out -/
theorem tk_blk {X : Cx} {s : Shared} {H : Hp} {sc : Scope} {ce : Env} {fp : List Addr} : Takes (X.blk s H sc ce fp) WF := fun u s' h => by
  obtain ⟨_, _, _, _, _, _, _, _, _, _, _, _, _, _, _, _, z⟩ := h
  exact z.elim
end
end L3
set_option Elab.async false
set_option linter.all false
set_option maxRecDepth 100000
/-! L3H: operations by values. -/
namespace L3
open PySem PySem.Spec PyProof.Rows L2

theorem opI2 {X : Cx} {f : Value → Value → Sem Value} {r r' : R2} (h : OpR X f r) (i : ∀ x y H Q, r' x y H Q → r x y H Q) : OpR X f r' := fun pins s σ H x y v u Q I rx ry q => h pins s σ H x y v u Q I rx ry (i _ _ _ _ q)
theorem unI2 {X : Cx} {f : Value → Sem Value} {r r' : V → Hp → VK → Prop} (h : UnR X f r) (i : ∀ x H Q, r' x H Q → r x H Q) : UnR X f r' := fun pins s σ H x v Q I rx q => h pins s σ H x v Q I rx (i _ _ _ q)
theorem ixI2 {X : Cx} {r r' : R2} (h : IxR X r) (i : ∀ x y H Q, r' x y H Q → r x y H Q) : IxR X r' := fun a b pins s σ H x y v u Q I rx ry q => h a b pins s σ H x y v u Q I rx ry (i _ _ _ _ q)
theorem caI2 {X : Cx} {f : Value} {r r' : List V → Hp → VK → Prop} (h : CallR X f r) (i : ∀ xs H Q, r' xs H Q → r xs H Q) : CallR X f r' := fun pins s σ H xs us Q I rs q => h pins s σ H xs us Q I rs (i _ _ _ q)
theorem mtI2 {X : Cx} {id : String} {r r' : V → List V → Hp → VK → Prop} (h : MtR X id r) (i : ∀ x xs H Q, r' x xs H Q → r x xs H Q) : MtR X id r' := fun pins s σ H x xs v us Q I rx rs q => h pins s σ H x xs v us Q I rx rs (i _ _ _ _ q)

section
variable {G : GC} {w : Wd}
/-- a list, however it is kept -/
def asL (x : D) (S : Store) : Option (List D) := match x with
  | .lst l => some l
  | .obj n => match S[n]? with
    | some (.lst l) => some l
    | _ => none
  | _ => none
theorem asL_rep {x : D} {v : V} {l : List D} (sr : SRep G w) (h : Rep G w x v) (e : asL x w.S = some l) : ∃ a vs, v = .ref a ∧ w.H a = some (.lst vs) ∧ RepL G w l vs := by
  cases x with
  | lst l' =>
    cases e
    simp only [Rep] at h
    obtain ⟨a, vs, rfl, h1, _, h2⟩ := h
    exact ⟨a, vs, rfl, h1, h2⟩
  | obj n =>
    simp only [Rep] at h
    obtain ⟨a, h1, rfl⟩ := h
    unfold asL at e
    dsimp only at e
    cases hn : w.S[n]? with
    | none => rw [hn] at e; cases e
    | some o =>
      rw [hn] at e
      cases o with
      | lst l' =>
        cases e
        obtain ⟨vs, q1, q2⟩ := sr.obj n _ a hn h1
        exact ⟨a, vs, rfl, q1, q2⟩
      | _ => cases e
  | _ => cases e
/-- a new list, a new tuple -/
theorem new_lst {l : List D} {vs : List V} {S : Store} {Q : VK} {E : Value → Option Addr → Hp → Prop} (sr : SRep G w) (rl : RepL G w l vs) (p : Post G w (.ok (.lst l) w.S) (Rep G) Q E) (a : Addr) (ha : w.H a = none) : Q (.ref a) (upd w.H a (.lst vs)) := by
  obtain ⟨x, s, nm⟩ := new_ext (o := .lst vs) sr ha
  exact p (.ref a) _ x rfl s (by simp only [Rep]; exact ⟨a, vs, rfl, upd_same, nm, RepL.mono x _ _ rl⟩)
theorem new_tup {l : List D} {vs : List V} {Q : VK} {E : Value → Option Addr → Hp → Prop} (sr : SRep G w) (rl : RepL G w l vs) (p : Post G w (.ok (.tup l) w.S) (Rep G) Q E) (a : Addr) (ha : w.H a = none) : Q (.ref a) (upd w.H a (.tup vs)) := by
  obtain ⟨x, s, nm⟩ := new_ext (o := .tup vs) sr ha
  exact p (.ref a) _ x rfl s (by simp only [Rep]; exact ⟨a, vs, rfl, .inl ⟨.inl upd_same, nm⟩, RepL.mono x _ _ rl⟩)
theorem new_lobj {l : List D} {vs : List V} {Q : VK} {E : Value → Option Addr → Hp → Prop} (sr : SRep G w) (rl : RepL G w l vs) (p : Post G w (.ok (.obj w.S.length) (w.S ++ [.lst l])) (Rep G) Q E) (a : Addr) (ha : w.H a = none) : Q (.ref a) (upd w.H a (.lst vs)) := by
  obtain ⟨x, s⟩ := new_obj (ob := .lst l) (o := .lst vs) sr ha fun w' x e => ⟨vs, e, RepL.mono x _ _ rl⟩
  exact p (.ref a) _ x rfl s (by simp only [Rep]; exact ⟨a, by rw [← sr.len]; simp, rfl⟩)
theorem SqT_of {a : Addr} {vs : List V} (h : Fz w a (.tup vs) ∨ KT G.K a vs) : SqT G.K w.H a vs := h.imp (fun z => z.1) id
end

/-! ### a text times an int -/
def repS (z : Str) (k : Int) : Str := ⟨(List.replicate k.toNat z.cps.toList).flatten.toArray⟩
theorem fold_app : ∀ (l : List (Array Nat)) (a : Array Nat), (l.foldl (· ++ ·) a).toList = a.toList ++ (l.map Array.toList).flatten
  | [], a => by simp
  | x :: l, a => by simp [fold_app l]
theorem repS_fold (z : Str) (k : Int) : (⟨(List.replicate k.toNat z.cps).foldl (· ++ ·) #[]⟩ : Str) = repS z k := by
  unfold repS
  congr 1
  apply Array.ext'
  rw [fold_app]; simp
theorem repS_one (z : Str) : repS z 1 = z := by
  unfold repS; simp
theorem repS_nil {z : Str} (k : Int) (h : z.length = 0) : repS z k = z := by
  have e : z.cps = #[] := Array.eq_empty_of_size_eq_zero h
  obtain ⟨c⟩ := z
  simp only at e; subst e
  unfold repS; simp
theorem repS_lt {z : Str} {k : Int} (h : k < 1) : repS z k = Str.empty := by
  unfold repS
  rw [show k.toNat = 0 by omega]; rfl
theorem repS_len (z : Str) (k : Int) : (repS z k).length = k.toNat * z.length := by
  show (repS z k).cps.size = k.toNat * z.cps.size
  unfold repS; simp
theorem op_repS {X : Cx} : OpR X (binaryOp .Mult) (fun x y H Q => ∃ z k, x = .str z ∧ y = .int k ∧ -(2 ^ 63) ≤ k ∧ k < 2 ^ 63 ∧ z.length * k.toNat ≤ sizeLine ∧ Q (.str (repS z k)) H) := by
  intro pins s σ H x y v u Q I rx ry h
  obtain ⟨z, k, rfl, rfl, h1, h2, h3, q⟩ := h
  obtain ⟨t, rfl⟩ := rx
  obtain ⟨t', rfl⟩ := ry
  refine P.mul_str (by simp; omega) (fun h _ => ?_) (fun _ _ => ?_) ?_
  · intro c
    have : (z.length : Int) * k ≤ 2 ^ 24 := by
      have h4 : ((z.length * k.toNat : Nat) : Int) ≤ ((2 ^ 24 : Nat) : Int) := Int.ofNat_le.mpr h3
      rw [Int.natCast_mul, Int.toNat_of_nonneg (by omega)] at h4
      exact h4
    have c2 := (Int.ediv_lt_iff_lt_mul (by omega : 0 < k)).mp c
    omega
  · exact decide_eq_false (Nat.not_lt.mpr h3)
  · split
    · rename_i hk
      rw [repS_lt hk] at q
      exact ⟨by decide, .str Str.empty, H, I.tok _, ⟨_, rfl⟩, q⟩
    · split
      · rename_i hk
        have e : repS z k = z := by
          rw [Bool.or_eq_true] at hk
          rcases hk with hk | hk
          · have := beq_iff_eq.mp hk; subst this; exact repS_one z
          · exact repS_nil k (beq_iff_eq.mp hk)
        rw [e] at q
        exact ⟨.str z, H, I, ⟨_, rfl⟩, q⟩
      · rw [repS_fold]
        refine ⟨?_, .str (repS z k), H, I.tok _, ⟨_, rfl⟩, q⟩
        rw [repS_len]; rw [Nat.mul_comm]; exact h3
/-! ### arithmetic -/
def mulOk (i j : Int) : Bool := decide (((-(2 ^ 64) < i ∧ i < 2 ^ 64) ∨ (-(2 ^ 64) < j ∧ j < 2 ^ 64)) ∨ i.natAbs.log2 + j.natAbs.log2 < 1000000)
def addD : F2 := fun x y S => match x, y with
  | .int i, .int j => .ok (.int (i + j)) S
  | .str a, .str b => if a.length + b.length ≤ sizeLine then .ok (.str (a ++ b)) S else .bad
  | .tup a, .tup b => if a.length + b.length ≤ sizeLine then .ok (.tup (a ++ b)) S else .bad
  | x, y => match asL x S, asL y S with
    | some a, some b => if a.length + b.length ≤ sizeLine then .ok (.lst (a ++ b)) S else .bad
    | _, _ => .bad
def subD : F2 := fun x y S => match x, y with
  | .int i, .int j => .ok (.int (i - j)) S
  | _, _ => .bad
def mulD : F2 := fun x y S => match x, y with
  | .int i, .int j => if mulOk i j then .ok (.int (i * j)) S else .bad
  | .str z, .int k => if -(2 ^ 63) ≤ k ∧ k < 2 ^ 63 ∧ z.length * k.toNat ≤ sizeLine then .ok (.str (repS z k)) S else .bad
  | x, .int k => match asL x S with
    | some a => if -(2 ^ 63) ≤ k ∧ k < 2 ^ 63 ∧ a.length * k.toNat ≤ sizeLine then .ok (.lst (List.replicate k.toNat a).flatten) S else .bad
    | _ => .bad
  | _, _ => .bad
def fdivD : F2 := fun x y S => match x, y with
  | .int i, .int j => if 0 < j ∧ j.natAbs.log2 < 9000 then .ok (.int (i / j)) S else .bad
  | _, _ => .bad
def modD : F2 := fun x y S => match x, y with
  | .int i, .int j => if 0 < j then .ok (.int (i % j)) S else .bad
  | _, _ => .bad
def powD : F2 := fun x y S => match x, y with
  | .int i, .int j => if 0 ≤ j ∧ (Builtin.Int.intBits i : Int) * j ≤ 2 ^ 27 then .ok (.int (i ^ j.toNat)) S else .bad
  | _, _ => .bad
def negD : F1 := fun x S => match x with
  | .int i => .ok (.int (-i)) S
  | _ => .bad
section
variable {G : GC} {X : Cx}
theorem c_add : Calm2 addD := fun x y S => by unfold addD; repeat' split
                                              all_goals trivial
theorem c_sub : Calm2 subD := fun x y S => by unfold subD; repeat' split
                                              all_goals trivial
theorem c_mul : Calm2 mulD := fun x y S => by unfold mulD; repeat' split
                                              all_goals trivial
theorem c_fdiv : Calm2 fdivD := fun x y S => by unfold fdivD; repeat' split
                                                all_goals trivial
theorem c_mod : Calm2 modD := fun x y S => by unfold modD; repeat' split
                                              all_goals trivial
theorem c_pow : Calm2 powD := fun x y S => by unfold powD; repeat' split
                                              all_goals trivial
theorem c_neg : Calm1 negD := fun x S => by unfold negD; repeat' split
                                            all_goals trivial
theorem o_add (hK : X.K = G.K) : OpR X (binaryOp .Add) (r2 G addD) := by
  refine opI2 (op_add.or (op_add_str.or (op_catA.or op_cat))) fun x y H Q q => ?_
  obtain ⟨w, d1, d2, rfl, sr, r1, r2, p⟩ := q
  unfold addD at p
  split at p
  · simp only [Rep] at r1 r2
    exact .inl ⟨_, _, r1, r2, Post.ret (Ra := Rep G) sr (by simp [Rep]) p⟩
  · split at p
    · rename_i hz
      simp only [Rep] at r1 r2
      exact .inr (.inl ⟨_, _, r1, r2, hz, Post.ret (Ra := Rep G) sr (by simp [Rep]) p⟩)
    · exact p.elim
  · split at p
    · rename_i hz
      have r1' := r1
      have r2' := r2
      simp only [Rep] at r1 r2
      obtain ⟨a, vs, rfl, h1, l1⟩ := r1
      obtain ⟨b, us, rfl, h2, l2⟩ := r2
      have e1 := l1.length
      have e2 := l2.length
      refine .inr (.inr (.inl ⟨a, b, vs, us, rfl, rfl, by rw [hK]; exact SqT_of h1, by rw [hK]; exact SqT_of h2, by omega, fun e => ?_, fun _ e => ?_, fun _ _ p' hp' => ?_⟩))
      · have e' := List.eq_nil_of_length_eq_zero (by rw [← e1, e]; rfl)
        rw [e', List.nil_append] at p
        exact Post.ret (Ra := Rep G) sr r2' p
      · have e' := List.eq_nil_of_length_eq_zero (by rw [← e2, e]; rfl)
        rw [e', List.append_nil] at p
        exact Post.ret (Ra := Rep G) sr r1' p
      · exact new_tup sr (l1.append l2) p p' hp'
    · exact p.elim
  · split at p
    · rename_i l1 l2 h1 h2
      split at p
      · rename_i hz
        obtain ⟨a, vs, rfl, e1, q1⟩ := asL_rep sr r1 h1
        obtain ⟨b, us, rfl, e2, q2⟩ := asL_rep sr r2 h2
        refine .inr (.inr (.inr ⟨a, b, vs, us, rfl, rfl, e1, e2, by rw [q1.length, q2.length]; exact hz, fun p' hp' => new_lst (S := w.S) sr (q1.append q2) p p' hp'⟩))
      · exact p.elim
    · exact p.elim
theorem o_sub : OpR X (binaryOp .Sub) (r2 G subD) := by
  refine opI2 op_sub fun x y H Q q => ?_
  obtain ⟨w, d1, d2, rfl, sr, r1, r2, p⟩ := q
  unfold subD at p
  split at p
  · simp only [Rep] at r1 r2
    exact ⟨_, _, r1, r2, Post.ret (Ra := Rep G) sr (by simp [Rep]) p⟩
  · exact p.elim
theorem RepL.rep {w : Wd} {ds : List D} {vs : List V} (h : RepL G w ds vs) : ∀ k : Nat, RepL G w (List.replicate k ds).flatten (List.replicate k vs).flatten
  | 0 => by simp [RepL]
  | k + 1 => by
    simp only [List.replicate_succ, List.flatten_cons]
    exact h.append (RepL.rep h k)
theorem o_mul : OpR X (binaryOp .Mult) (r2 G mulD) := by
  refine opI2 ((op_mul.or op_mulW).or (op_rep.or op_repS)) fun x y H Q q => ?_
  obtain ⟨w, d1, d2, rfl, sr, r1, r2, p⟩ := q
  unfold mulD at p
  split at p
  · simp only [Rep] at r1 r2
    split at p
    · rename_i hz
      rcases of_decide_eq_true hz with hz | hz
      · exact .inl (.inl ⟨_, _, r1, r2, (by unfold CMul; exact hz), Post.ret (Ra := Rep G) sr (by simp [Rep]) p⟩)
      · exact .inl (.inr ⟨_, _, r1, r2, hz, Post.ret (Ra := Rep G) sr (by simp [Rep]) p⟩)
    · exact p.elim
  · simp only [Rep] at r1 r2
    split at p
    · rename_i hz
      exact .inr (.inr ⟨_, _, r1, r2, hz.1, hz.2.1, hz.2.2, Post.ret (Ra := Rep G) sr (by simp [Rep]) p⟩)
    · exact p.elim
  · split at p
    · rename_i l hl
      split at p
      · rename_i hz
        obtain ⟨a, vs, rfl, e1, q1⟩ := asL_rep sr r1 hl
        simp only [Rep] at r2
        refine .inr (.inl ⟨a, _, vs, rfl, r2, e1, hz.1, hz.2.1, by rw [q1.length]; exact hz.2.2, fun p' hp' => new_lst (S := w.S) sr (q1.rep _) p p' hp'⟩)
      · exact p.elim
    · exact p.elim
  · exact p.elim
theorem o_fdiv : OpR X (binaryOp .FloorDiv) (r2 G fdivD) := by
  refine opI2 op_fdivW fun x y H Q q => ?_
  obtain ⟨w, d1, d2, rfl, sr, r1, r2, p⟩ := q
  unfold fdivD at p
  split at p
  · simp only [Rep] at r1 r2
    split at p
    · rename_i hz
      exact ⟨_, _, r1, r2, hz, Post.ret (Ra := Rep G) sr (by simp [Rep]) p⟩
    · exact p.elim
  · exact p.elim
theorem o_mod : OpR X (binaryOp .Mod) (r2 G modD) := by
  refine opI2 op_mod fun x y H Q q => ?_
  obtain ⟨w, d1, d2, rfl, sr, r1, r2, p⟩ := q
  unfold modD at p
  split at p
  · simp only [Rep] at r1 r2
    split at p
    · rename_i hz
      exact ⟨_, _, r1, r2, hz, Post.ret (Ra := Rep G) sr (by simp [Rep]) p⟩
    · exact p.elim
  · exact p.elim
theorem o_pow : OpR X (binaryOp .Pow) (r2 G powD) := by
  refine opI2 (opI (C := fun i j => 0 ≤ j ∧ (Builtin.Int.intBits i : Int) * j ≤ 2 ^ 27) (g := fun i j => i ^ j.toNat) fun _ _ _ _ _ _ _ hc q => pow_int hc.1 hc.2 q) fun x y H Q q => ?_
  obtain ⟨w, d1, d2, rfl, sr, r1, r2, p⟩ := q
  unfold powD at p
  split at p
  · simp only [Rep] at r1 r2
    split at p
    · rename_i hz
      exact ⟨_, _, r1, r2, hz, Post.ret (Ra := Rep G) sr (by simp [Rep]) p⟩
    · exact p.elim
  · exact p.elim
theorem o_neg : UnR X (unaryOp .USub) (r1 G negD) := by
  refine unI2 un_neg fun x H Q q => ?_
  obtain ⟨w, d1, rfl, sr, r1, p⟩ := q
  unfold negD at p
  split at p
  · simp only [Rep] at r1
    exact ⟨_, r1, Post.ret (Ra := Rep G) sr (by simp [Rep]) p⟩
  · exact p.elim
end

/-! ### comparisons of numbers -/
def ltD : F2 := fun x y S => match x, y with
  | .int i, .int j => .ok (.bl (decide (i < j))) S
  | .str a, .str b => .ok (.bl (decide (a.cps.toList < b.cps.toList))) S
  | _, _ => .bad
def leD : F2 := fun x y S => match x, y with
  | .int i, .int j => .ok (.bl (decide (i ≤ j))) S
  | .str a, .str b => .ok (.bl (!decide (b.cps.toList < a.cps.toList))) S
  | _, _ => .bad
def gtD : F2 := fun x y S => match x, y with
  | .int i, .int j => .ok (.bl (decide (j < i))) S
  | .str a, .str b => .ok (.bl (decide (b.cps.toList < a.cps.toList))) S
  | _, _ => .bad
def geD : F2 := fun x y S => match x, y with
  | .int i, .int j => .ok (.bl (decide (j ≤ i))) S
  | .str a, .str b => .ok (.bl (!decide (a.cps.toList < b.cps.toList))) S
  | _, _ => .bad
section
variable {G : GC} {X : Cx}
theorem c_lt : Calm2 ltD := fun x y S => by unfold ltD; repeat' split
                                            all_goals trivial
theorem c_le : Calm2 leD := fun x y S => by unfold leD; repeat' split
                                            all_goals trivial
theorem c_gt : Calm2 gtD := fun x y S => by unfold gtD; repeat' split
                                            all_goals trivial
theorem c_ge : Calm2 geD := fun x y S => by unfold geD; repeat' split
                                            all_goals trivial
theorem o_lt : OpR X (compareOp .Lt) (r2 G ltD) := by
  refine opI2 (op_lt.or L2.op_lt_str) fun x y H Q q => ?_
  obtain ⟨w, d1, d2, rfl, sr, r1, r2, p⟩ := q
  unfold ltD at p
  split at p
  · simp only [Rep] at r1 r2
    exact .inl ⟨_, _, r1, r2, Post.ret (Ra := Rep G) sr (by simp [Rep]) p⟩
  · simp only [Rep] at r1 r2
    exact .inr ⟨_, _, r1, r2, Post.ret (Ra := Rep G) sr (by simp [Rep]) p⟩
  · exact p.elim
theorem o_le : OpR X (compareOp .LtE) (r2 G leD) := by
  refine opI2 (op_le.or L2.op_le_str) fun x y H Q q => ?_
  obtain ⟨w, d1, d2, rfl, sr, r1, r2, p⟩ := q
  unfold leD at p
  split at p
  · simp only [Rep] at r1 r2
    exact .inl ⟨_, _, r1, r2, Post.ret (Ra := Rep G) sr (by simp [Rep]) p⟩
  · simp only [Rep] at r1 r2
    exact .inr ⟨_, _, r1, r2, Post.ret (Ra := Rep G) sr (by simp [Rep]) p⟩
  · exact p.elim
theorem o_gt : OpR X (compareOp .Gt) (r2 G gtD) := by
  refine opI2 (op_gt.or L2.op_gt_str) fun x y H Q q => ?_
  obtain ⟨w, d1, d2, rfl, sr, r1, r2, p⟩ := q
  unfold gtD at p
  split at p
  · simp only [Rep] at r1 r2
    exact .inl ⟨_, _, r1, r2, Post.ret (Ra := Rep G) sr (by simp [Rep]) p⟩
  · simp only [Rep] at r1 r2
    exact .inr ⟨_, _, r1, r2, Post.ret (Ra := Rep G) sr (by simp [Rep]) p⟩
  · exact p.elim
theorem o_ge : OpR X (compareOp .GtE) (r2 G geD) := by
  refine opI2 (op_ge.or L2.op_ge_str) fun x y H Q q => ?_
  obtain ⟨w, d1, d2, rfl, sr, r1, r2, p⟩ := q
  unfold geD at p
  split at p
  · simp only [Rep] at r1 r2
    exact .inl ⟨_, _, r1, r2, Post.ret (Ra := Rep G) sr (by simp [Rep]) p⟩
  · simp only [Rep] at r1 r2
    exact .inr ⟨_, _, r1, r2, Post.ret (Ra := Rep G) sr (by simp [Rep]) p⟩
  · exact p.elim
end

/-! ### data: ==, in -/
mutual
def toPy : D → Option PyData
  | .non => some .none
  | .bl b => some (.bool b)
  | .int i => some (.int i)
  | .str s => if PyData.strOk s = true then some (.str s) else none
  | .tup l => (toPyL l).map .tuple
  | .lst l => (toPyL l).map .list
  | .dic _ _ => none
  | .obj _ => none
  | .glb _ => none
  | .ty _ => none
  | .scr ns => some (.list (ns.map .int))
  | .kd _ _ => none
def toPyL : List D → Option (List PyData)
  | [] => some []
  | d :: ds => match toPy d, toPyL ds with
    | some x, some xs => some (x :: xs)
    | _, _ => none
end
/-- an object of the store as it stands -/
def deref (x : D) (S : Store) : D := match x with
  | .obj n => match S[n]? with
    | some (.lst l) => .lst l
    | _ => x
  | _ => x
def eqD : F2 := fun x y S => match x, y with
  | .str a, .str b => .ok (.bl (a == b)) S
  | .tup l, .tup [] => .ok (.bl l.isEmpty) S
  | x, y => match toPy (deref x S), toPy (deref y S) with
    | some a, some b => if min a.depth b.depth ≤ 64 then .ok (.bl (PyData.eqv a b)) S else .bad
    | _, _ => .bad
def neD : F2 := fun x y S => match x, y with
  | .str a, .str b => .ok (.bl (!(a == b))) S
  | .tup l, .tup [] => .ok (.bl (!l.isEmpty)) S
  | x, y => match toPy (deref x S), toPy (deref y S) with
    | some a, some b => if min a.depth b.depth ≤ 64 then .ok (.bl (!PyData.eqv a b)) S else .bad
    | _, _ => .bad
/-- by what both are -/
theorem eqD_py {x y : D} {S : Store} {a b : PyData} (h1 : toPy (deref x S) = some a) (h2 : toPy (deref y S) = some b) (h : min a.depth b.depth ≤ 64) : eqD x y S = .ok (.bl (PyData.eqv a b)) S := by
  unfold eqD
  split
  · simp only [deref, toPy] at h1 h2
    split at h1 <;> cases h1
    split at h2 <;> cases h2
    simp [PyData.eqv]
  · rename_i l
    simp only [deref, toPy, Option.map_eq_some_iff] at h1 h2
    obtain ⟨xs, e1, rfl⟩ := h1
    obtain ⟨ys, e2, rfl⟩ := h2
    cases e2
    cases l with
    | nil => cases e1; simp [PyData.eqv, PyData.eqvAll]
    | cons d ds =>
      simp only [toPyL] at e1
      split at e1 <;> cases e1
      simp [PyData.eqv, PyData.eqvAll]
  · rw [h1, h2]; simp only; rw [if_pos h]
theorem neD_py {x y : D} {S : Store} {a b : PyData} (h1 : toPy (deref x S) = some a) (h2 : toPy (deref y S) = some b) (h : min a.depth b.depth ≤ 64) : neD x y S = .ok (.bl (!PyData.eqv a b)) S := by
  unfold neD
  split
  · simp only [deref, toPy] at h1 h2
    split at h1 <;> cases h1
    split at h2 <;> cases h2
    simp [PyData.eqv]
  · rename_i l
    simp only [deref, toPy, Option.map_eq_some_iff] at h1 h2
    obtain ⟨xs, e1, rfl⟩ := h1
    obtain ⟨ys, e2, rfl⟩ := h2
    cases e2
    cases l with
    | nil => cases e1; simp [PyData.eqv, PyData.eqvAll]
    | cons d ds =>
      simp only [toPyL] at e1
      split at e1 <;> cases e1
      simp [PyData.eqv, PyData.eqvAll]
  · rw [h1, h2]; simp only; rw [if_pos h]
section
variable {G : GC} {X : Cx} {w : Wd}
theorem c_eq : Calm2 eqD := fun x y S => by unfold eqD; repeat' split
                                            all_goals trivial
theorem c_ne : Calm2 neD := fun x y S => by unfold neD; repeat' split
                                            all_goals trivial
theorem dpI : ∀ (ns : List Int), DpAll G.K w.H (ns.map V.int) (ns.map PyData.int)
  | [] => .nil
  | n :: ns => .cons (.int n) (dpI ns)
mutual
theorem dp_of : ∀ (d : D) (v : V) (x : PyData), Rep G w d v → toPy d = some x → Dp G.K w.H v x ∧ x.canLay0 = true
  | .non, v, x, r, e => by simp only [Rep] at r; cases e; subst r; exact ⟨.non, rfl⟩
  | .bl b, v, x, r, e => by simp only [Rep] at r; cases e; subst r; exact ⟨.bl b, rfl⟩
  | .int i, v, x, r, e => by simp only [Rep] at r; cases e; subst r; exact ⟨.int i, rfl⟩
  | .str s, v, x, r, e => by
    simp only [Rep] at r
    simp only [toPy] at e
    split at e
    · rename_i h
      cases e; subst r; exact ⟨.str s, h⟩
    · cases e
  | .tup l, v, x, r, e => by
    simp only [Rep] at r
    obtain ⟨a, vs, rfl, h1, h2⟩ := r
    simp only [toPy, Option.map_eq_some_iff] at e
    obtain ⟨xs, e1, rfl⟩ := e
    obtain ⟨q1, q2⟩ := dpL_of l vs xs h2 e1
    exact ⟨.tup (SqT_of h1) q1, by simpa [PyData.canLay0] using q2⟩
  | .lst l, v, x, r, e => by
    simp only [Rep] at r
    obtain ⟨a, vs, rfl, h1, _, h2⟩ := r
    simp only [toPy, Option.map_eq_some_iff] at e
    obtain ⟨xs, e1, rfl⟩ := e
    obtain ⟨q1, q2⟩ := dpL_of l vs xs h2 e1
    exact ⟨.lst (SqL.of h1) q1, by simpa [PyData.canLay0] using q2⟩
  | .dic _ _, _, _, _, e => by simp [toPy] at e
  | .obj _, _, _, _, e => by simp [toPy] at e
  | .glb _, _, _, _, e => by simp [toPy] at e
  | .ty _, _, _, _, e => by simp [toPy] at e
  | .kd _ _, _, _, _, e => by simp [toPy] at e
  | .scr ns, v, x, r, e => by
    simp only [Rep] at r
    obtain ⟨a, rfl, h1⟩ := r
    simp only [toPy, Option.some.injEq] at e
    subst e
    refine ⟨.lst (h1.imp (fun z => z.1) id) (dpI ns), ?_⟩
    simp only [PyData.canLay0]
    exact PyProof.Rows.canLayAll_ints ns
theorem dpL_of : ∀ (ds : List D) (vs : List V) (xs : List PyData), RepL G w ds vs → toPyL ds = some xs → DpAll G.K w.H vs xs ∧ PyData.canLayAll0 xs = true
  | [], vs, xs, r, e => by simp only [RepL] at r; simp only [toPyL, Option.some.injEq] at e; subst r e; exact ⟨.nil, rfl⟩
  | d :: ds, vs, xs, r, e => by
    simp only [RepL] at r
    obtain ⟨v, r', rfl, h1, h2⟩ := r
    simp only [toPyL] at e
    split at e
    · rename_i x xs' e1 e2
      cases e
      obtain ⟨q1, q2⟩ := dp_of d v x h1 e1
      obtain ⟨q3, q4⟩ := dpL_of ds r' xs' h2 e2
      exact ⟨.cons q1 q3, by simp [PyData.canLayAll0, q2, q4]⟩
    · cases e
end
theorem deref_rep {x : D} {v : V} (sr : SRep G w) (r : Rep G w x v) {y : PyData} (e : toPy (deref x w.S) = some y) : Dp G.K w.H v y ∧ y.canLay0 = true := by
  cases x with
  | obj n =>
    unfold deref at e
    cases hn : w.S[n]? with
    | none => simp [hn, toPy] at e
    | some o =>
      cases o with
      | lst l =>
        simp only [hn] at e
        obtain ⟨a, vs, rfl, h1, h2⟩ := asL_rep (l := l) sr r (by simp [asL, hn])
        simp only [toPy, Option.map_eq_some_iff] at e
        obtain ⟨xs, e1, rfl⟩ := e
        obtain ⟨q1, q2⟩ := dpL_of l vs xs h2 e1
        exact ⟨.lst (SqL.of h1) q1, by simpa [PyData.canLay0] using q2⟩
      | _ => simp [hn, toPy] at e
  | _ => exact dp_of _ v y r e
end
end L3
set_option Elab.async false
set_option linter.all false
set_option maxRecDepth 100000
/-! L3I: ==, in, is, subscripts, isinstance, built-ins. -/
namespace L3
open PySem PySem.Spec PyProof.Rows L2

section
variable {G : GC} {X : Cx}
theorem o_eq (hK : X.K = G.K) (hu : X.A.units + 64 < cLine) : OpR X (compareOp .Eq) (r2 G eqD) := by
  intro pins s σ H x y v u Q I rx ry q
  obtain ⟨w, d1, d2, rfl, sr, r1, r2, p⟩ := q
  unfold eqD at p
  split at p
  · simp only [Rep] at r1 r2
    subst r1 r2
    exact L2.op_eq pins s σ w.H _ _ v u Q I rx ry ⟨rfl, by rw [L2.dec_str]; exact Post.ret (Ra := Rep G) sr (by simp [Rep]) p⟩
  · rename_i l
    simp only [Rep, RepL] at r1 r2
    obtain ⟨a, vs, rfl, h1, l1⟩ := r1
    obtain ⟨b, us, rfl, h2, rfl⟩ := r2
    cases rx
    cases ry
    obtain ⟨its, rv, tp, _⟩ := I.tuple (xs := vs) (by rw [hK]; exact SqT_of h1)
    obtain ⟨its2, rv2, tp2, _⟩ := I.tuple (xs := []) (by rw [hK]; exact SqT_of h2)
    cases rv2
    have hl := rv.length
    have hl2 := l1.length
    refine SeqAt.RcAt.tuples (e := fun _ => true) tp tp2 (by omega) (fun j h1 h2 => absurd h2 (by simp)) X.prog X.w X.xe (EP X pins σ Q) ?_
    refine ⟨.bl _, w.H, I, rfl, ?_⟩
    have e : ((List.range (min its.toArray.size ([] : List Value).toArray.size)).all (fun _ => true) && its.toArray.size == ([] : List Value).toArray.size) = l.isEmpty := by
      simp only [List.size_toArray, List.length_nil, Nat.min_zero, List.range_zero, List.all_nil, Bool.true_and]
      rw [← hl, hl2]
      cases l <;> rfl
    rw [e]
    exact Post.ret (Ra := Rep G) sr (by simp [Rep]) p
  · split at p
    · rename_i a b h1 h2
      split at p
      · rename_i hm
        obtain ⟨p1, c1⟩ := deref_rep sr r1 h1
        obtain ⟨p2, c2⟩ := deref_rep sr r2 h2
        rw [← hK] at p1 p2
        obtain ⟨as, q1⟩ := Dp.reads I a x v p1 rx
        obtain ⟨bs, q2⟩ := Dp.reads I b y u p2 ry
        exact SeqAt.compareEq_reads q1 q2 c1 c2 (by omega) ⟨.bl _, w.H, I, rfl, Post.ret (Ra := Rep G) sr (by simp [Rep]) p⟩
      · exact p.elim
    · exact p.elim
theorem o_ne (hK : X.K = G.K) (hu : X.A.units + 64 < cLine) : OpR X (compareOp .NotEq) (r2 G neD) := by
  intro pins s σ H x y v u Q I rx ry q
  obtain ⟨w, d1, d2, rfl, sr, r1, r2, p⟩ := q
  unfold neD at p
  split at p
  · simp only [Rep] at r1 r2
    subst r1 r2
    exact L2.op_ne pins s σ w.H _ _ v u Q I rx ry ⟨rfl, by rw [L2.dec_str]; exact Post.ret (Ra := Rep G) sr (by simp [Rep]) p⟩
  · rename_i l
    simp only [Rep, RepL] at r1 r2
    obtain ⟨a, vs, rfl, h1, l1⟩ := r1
    obtain ⟨b, us, rfl, h2, rfl⟩ := r2
    cases rx
    cases ry
    obtain ⟨its, rv, tp, _⟩ := I.tuple (xs := vs) (by rw [hK]; exact SqT_of h1)
    obtain ⟨its2, rv2, tp2, _⟩ := I.tuple (xs := []) (by rw [hK]; exact SqT_of h2)
    cases rv2
    have hl := rv.length
    have hl2 := l1.length
    refine SeqAt.RcNeAt.tuples (e := fun _ => true) tp tp2 (by omega) (fun j h1 h2 => absurd h2 (by simp)) X.prog X.w X.xe (EP X pins σ Q) ?_
    refine ⟨.bl _, w.H, I, rfl, ?_⟩
    have e : ((List.range (min its.toArray.size ([] : List Value).toArray.size)).all (fun _ => true) && its.toArray.size == ([] : List Value).toArray.size) = l.isEmpty := by
      simp only [List.size_toArray, List.length_nil, Nat.min_zero, List.range_zero, List.all_nil, Bool.true_and]
      rw [← hl, hl2]
      cases l <;> rfl
    rw [e]
    exact Post.ret (Ra := Rep G) sr (by simp [Rep]) p
  · split at p
    · rename_i a b h1 h2
      split at p
      · rename_i hm
        obtain ⟨p1, c1⟩ := deref_rep sr r1 h1
        obtain ⟨p2, c2⟩ := deref_rep sr r2 h2
        rw [← hK] at p1 p2
        obtain ⟨as, q1⟩ := Dp.reads I a x v p1 rx
        obtain ⟨bs, q2⟩ := Dp.reads I b y u p2 ry
        exact SeqAt.compareNe_reads q1 q2 c1 c2 (by omega) ⟨.bl _, w.H, I, rfl, Post.ret (Ra := Rep G) sr (by simp [Rep]) p⟩
      · exact p.elim
    · exact p.elim
/-! is -/
def isD : F2 := fun x y S => match y with
  | .non => match x with
    | .non => .ok (.bl true) S
    | _ => .ok (.bl false) S
  | .bl b => match x with
    | .bl a => .ok (.bl (decide (a = b))) S
    | _ => .bad
  | _ => .bad
def isNotD : F2 := fun x y S => match y with
  | .non => match x with
    | .non => .ok (.bl false) S
    | _ => .ok (.bl true) S
  | .bl b => match x with
    | .bl a => .ok (.bl (!decide (a = b))) S
    | _ => .bad
  | _ => .bad
theorem c_is : Calm2 isD := fun x y S => by unfold isD; repeat' split
                                            all_goals trivial
theorem c_isNot : Calm2 isNotD := fun x y S => by unfold isNotD; repeat' split
                                                  all_goals trivial
/-- only None stands for None -/
theorem Rep.non_iff {w : Wd} {d : D} {v : V} (r : Rep G w d v) (hg : ∀ x u, G.mg x = some u → u ≠ Value.none) : v = .non ↔ d = .non := by
  constructor
  · intro e
    subst e
    cases d with
    | non => rfl
    | glb x =>
      simp only [Rep] at r
      obtain ⟨u, h1, h2⟩ := r
      exact absurd h2 (hg x u h1)
    | bl _ => simp [Rep] at r
    | int _ => simp [Rep] at r
    | str _ => simp [Rep] at r
    | tup _ => simp [Rep] at r
    | lst _ => simp [Rep] at r
    | dic _ _ => simp [Rep] at r
    | obj _ => simp [Rep] at r
    | ty _ => simp [Rep] at r
    | scr _ => simp [Rep] at r
    | kd _ _ => simp [Rep] at r
  · rintro rfl; simpa [Rep] using r

/-! in -/
/-- a written dict's item -/
def kdAt : List Str → List D → Str → Option D
  | k :: ks, d :: ds, z => if z = k then some d else kdAt ks ds z
  | _, _, _ => none
/-- the entry of a dict of keys -/
def keyOf : D → Option Key
  | .int i => some (.inl i)
  | .str s => some (.inr s)
  | _ => none
def dGet {κ : Type} [DecidableEq κ] (kvs : List (κ × D)) (k : κ) : Option D := (kvs.find? fun kv => decide (kv.1 = k)).map (·.2)
def memData (x : Option PyData) (y : Option PyData) : Option Bool := match x, y with
  | some a, some (.list xs) => if a.depth ≤ 64 then some (xs.any fun z => PyData.eqv z a) else none
  | some a, some (.tuple xs) => if a.depth ≤ 64 then some (xs.any fun z => PyData.eqv z a) else none
  | _, _ => none
def memKey (x : D) (kvs : List (Key × D)) : Option Bool := match keyOf x with
  | some k => some (dGet kvs k).isSome
  | none => none
def memStr (x : D) (z : Str) : Option Bool := match x with
  | .str c => if c.cps.size = 1 then some (decide (c.cps.getD 0 0 ∈ z.cps.toList)) else none
  | _ => none
def memKd (x : D) (ks : List Str) (l : List D) : Option Bool := match x with
  | .str z => some (kdAt ks l z).isSome
  | _ => none
def memD (x y : D) (S : Store) : Option Bool := match y with
  | .str z => memStr x z
  | .kd ks l => memKd x ks l
  | .dic ks l => memKey x (ks.zip l)
  | .tup l => memData (toPy x) (toPy (.tup l))
  | .lst l => memData (toPy x) (toPy (.lst l))
  | .obj n => match S[n]? with
    | some (.lst l) => memData (toPy x) (toPy (.lst l))
    | some (.dK kvs) => memKey x kvs
    | _ => none
  | _ => none
def inD : F2 := fun x y S => match memD x y S with
  | some b => .ok (.bl b) S
  | none => .bad
def notInD : F2 := fun x y S => match memD x y S with
  | some b => .ok (.bl (!b)) S
  | none => .bad
theorem c_in : Calm2 inD := fun x y S => by unfold inD; split <;> trivial
theorem c_notIn : Calm2 notInD := fun x y S => by unfold notInD; split <;> trivial
theorem str1 {c : Str} (h : c.cps.size = 1) : c = ⟨#[c.cps.getD 0 0]⟩ := by
  obtain ⟨⟨l⟩⟩ := c
  match l, h with
  | [a], _ => rfl
theorem kdAt_look {w : Wd} : ∀ {ks : List Str} {l : List D} {vs : List V} {us : List Value} (z : Str), ks.length = l.length → Vals vs us → RepL G w l vs →
    (match kdAt ks l z with
      | some d => ∃ v u, (ks.zip us).lookup z = some u ∧ RelV v u ∧ Rep G w d v
      | none => (ks.zip us).lookup z = none)
  | [], [], vs, us, z, _, r, h => by simp [kdAt]
  | k :: ks, d :: ds, vs, us, z, hl, r, h => by
    simp only [RepL] at h
    obtain ⟨v, r', rfl, h1, h2⟩ := h
    cases r with
    | cons ru rr =>
      rename_i u us'
      unfold kdAt
      by_cases e : z = k
      · subst e
        rw [if_pos rfl]
        exact ⟨v, u, by simp [List.lookup], ru, h1⟩
      · rw [if_neg e]
        have := kdAt_look z (by simpa using hl) rr h2
        have e2 : ((k :: ks).zip (u :: us')).lookup z = (ks.zip us').lookup z := by
          simp only [List.zip_cons_cons, List.lookup]
          have : (z == k) = false := by simpa using e
          rw [this]
        rw [e2]
        exact this
theorem dGet_rep {κ : Type} [DecidableEq κ] {w : Wd} : ∀ {kvs : List (κ × D)} {vs : List (κ × V)} (k : κ), RepKV G w kvs vs →
    (match dGet kvs k with
      | some d => ∃ v, valV vs k = some v ∧ Rep G w d v
      | none => valV vs k = none)
  | [], vs, k, h => by
    have : vs = [] := h
    subst this; rfl
  | p :: r, vs, k, h => by
    obtain ⟨v, y, rfl, h1, h2⟩ := h
    have ih := dGet_rep k h2
    by_cases e : p.1 = k
    · have e1 : dGet (p :: r) k = some p.2 := by simp [dGet, List.find?_cons, e]
      rw [e1, L2.valV_pos (p := (p.1, v)) e]
      exact ⟨v, rfl, h1⟩
    · have e1 : dGet (p :: r) k = dGet r k := by simp [dGet, List.find?_cons, e]
      rw [e1, L2.valV_neg (p := (p.1, v)) e]
      exact ih
theorem zip_kv {κ : Type} {w : Wd} : ∀ {ks : List κ} {l : List D} {vs : List V}, ks.length = l.length → RepL G w l vs → RepKV G w (ks.zip l) (ks.zip vs)
  | [], [], vs, _, h => by simp only [RepL] at h; subst h; rfl
  | k :: ks, d :: ds, vs, hl, h => by
    simp only [RepL] at h
    obtain ⟨v, r, rfl, h1, h2⟩ := h
    exact ⟨v, _, rfl, h1, zip_kv (by simpa using hl) h2⟩
theorem keyOf_rep {w : Wd} {d : D} {v : V} {k : Key} (r : Rep G w d v) (e : keyOf d = some k) : v = kV k := by
  cases d with
  | int i => cases e; simp only [Rep] at r; exact r
  | str s => cases e; simp only [Rep] at r; exact r
  | _ => cases e
/-- what a membership's answer rests on -/
theorem mem_ok (hK : X.K = G.K) (hw : X.w = G.w) (hu : X.A.units + 65 < cLine) {neg : Bool} {op : CmpOp} (ho : op = if neg then .NotIn else .In) {pins : List (Addr × Obj)} {s : Shared} {σ : L2.St} {w : Wd} {x y : V} {v u : Value} {Q : VK} {d1 d2 : D} {b : Bool}
    (I : Inv X pins σ w.H s) (rx : RelV x v) (ry : RelV y u) (sr : SRep G w) (r1 : Rep G w d1 x) (r2 : Rep G w d2 y) (e : memD d1 d2 w.S = some b) (q : Q (.bl (if neg then !b else b)) w.H) :
    wpAny (model X.prog X.w) X.A (compareOp op v u) (EP X pins σ Q) X.xe s := by
  have data : ∀ {a : PyData} {xs : List PyData} {isL : Bool}, toPy d1 = some a → toPy (deref d2 w.S) = some (if isL then .list xs else .tuple xs) → a.depth ≤ 64 → b = (xs.any fun z => PyData.eqv z a) →
      wpAny (model X.prog X.w) X.A (compareOp op v u) (EP X pins σ Q) X.xe s := fun {a xs isL} h1 h2 hd hb => by
    obtain ⟨p1, c1⟩ := dp_of d1 x a r1 h1
    obtain ⟨p2, c2⟩ := deref_rep sr r2 h2
    rw [← hK] at p1 p2
    obtain ⟨as, q1⟩ := Dp.reads I a x v p1 rx
    obtain ⟨bs, q2⟩ := Dp.reads I _ y u p2 ry
    have room : X.A.units + 1 + min (PyData.depthAll xs) a.depth < cLine := by omega
    subst hb
    cases isL <;> cases neg <;> simp only [if_true, Bool.false_eq_true, if_false, PyData.canLay0] at q2 c2 ho q <;> subst ho
    · exact SeqAt.in_tuple_reads q2 q1 c2 c1 room ⟨.bl _, w.H, I, rfl, q⟩
    · exact SeqAt.notIn_tuple_reads q2 q1 c2 c1 room ⟨.bl _, w.H, I, rfl, q⟩
    · exact SeqAt.in_list_reads q2 q1 c2 c1 room ⟨.bl _, w.H, I, rfl, q⟩
    · exact SeqAt.notIn_list_reads q2 q1 c2 c1 room ⟨.bl _, w.H, I, rfl, q⟩
  have dK : ∀ {a : Addr} {kvs : List (Key × D)} {vs : List (Key × V)} {k : Key}, y = .ref a → w.H a = some (.dK vs) → RepKV G w kvs vs → keyOf d1 = some k → b = (dGet kvs k).isSome → wpAny (model X.prog X.w) X.A (compareOp op v u) (EP X pins σ Q) X.xe s := fun {a kvs vs k} ey h1 h2 hk hb => by
    subst ey
    cases ry
    have ex := keyOf_rep r1 hk
    subst ex
    have g : DGet w.H a (kV k) (valV vs k) := DGet.k h1
    have eb : (valV vs k).isSome = b := by
      have := dGet_rep k h2
      rw [hb]
      cases hg : dGet kvs k with
      | none => rw [hg] at this; simp only at this; rw [this]; rfl
      | some d => rw [hg] at this; simp only at this; obtain ⟨z, e1, _⟩ := this; rw [e1]; rfl
    cases neg <;> simp only [if_true, Bool.false_eq_true, if_false] at ho q <;> subst ho
    · exact L2.d_in (by omega) I g rx fun s' I' => ⟨.bl _, w.H, I', rfl, by rw [eb]; exact q⟩
    · exact L2.d_notIn (by omega) I g rx fun s' I' => ⟨.bl _, w.H, I', rfl, by rw [eb]; exact q⟩
  have data' : ∀ {l : List D} {isL : Bool}, (if isL then (toPy (.lst l)) else toPy (.tup l)) = toPy (deref d2 w.S) → memData (toPy d1) (if isL then (toPy (.lst l)) else toPy (.tup l)) = some b → wpAny (model X.prog X.w) X.A (compareOp op v u) (EP X pins σ Q) X.xe s := fun {l isL} h e => by
    rw [h] at e
    unfold memData at e
    split at e
    · rename_i a xs h1 h2
      split at e
      · cases e; exact data (isL := true) h1 h2 (by assumption) rfl
      · cases e
    · rename_i a xs h1 h2
      split at e
      · cases e; exact data (isL := false) h1 h2 (by assumption) rfl
      · cases e
    · cases e
  cases d2 with
  | str z =>
    simp only [memD, memStr] at e
    split at e
    · split at e
      · rename_i c hc
        simp only [Rep] at r1 r2
        subst r1 r2
        cases e
        cases neg <;> simp only [if_true, Bool.false_eq_true, if_false] at ho q <;> subst ho
        · exact L2.op_in_sign pins s σ w.H _ _ v u Q I rx ry ⟨_, z, by rw [← str1 hc], rfl, q⟩
        · exact L2.op_notIn_sign pins s σ w.H _ _ v u Q I rx ry ⟨_, z, by rw [← str1 hc], rfl, q⟩
      · cases e
    · cases e
  | kd ks l =>
    simp only [memD, memKd] at e
    split at e
    · rename_i z
      simp only [Rep] at r1 r2
      subst r1
      obtain ⟨a, es, n, vs, us, rfl, kd, hn, hl, rv, rl⟩ := r2
      cases e
      have look := kdAt_look z hl rv rl
      have hb : ((ks.zip us).lookup z).isSome = (kdAt ks l z).isSome := by
        cases hk : kdAt ks l z with
        | none => rw [hk] at look; simp only at look; rw [look]; rfl
        | some d => rw [hk] at look; simp only at look; obtain ⟨_, u', e1, _⟩ := look; rw [e1]; rfl
      rw [← hb] at q
      have kd' : KDict X.K X.w a es n := by rw [hK, hw]; exact kd
      cases neg <;> simp only [if_true, Bool.false_eq_true, if_false] at ho q <;> subst ho
      · exact L2.op_in_kd kd' pins s σ w.H _ _ v u Q I rx ry ⟨z, _, rfl, rfl, by rw [hK]; exact hn z, q⟩
      · exact L2.op_notIn_kd kd' pins s σ w.H _ _ v u Q I rx ry ⟨z, _, rfl, rfl, by rw [hK]; exact hn z, q⟩
    · cases e
  | dic ks l =>
    simp only [memD, memKey] at e
    split at e
    · rename_i k hk
      simp only [Rep] at r2
      obtain ⟨a, vs, rfl, h1, nm, hl, h2⟩ := r2
      cases e
      exact dK rfl h1 (zip_kv hl h2) hk rfl
    · cases e
  | tup l => exact data' (l := l) (isL := false) rfl e
  | lst l => exact data' (l := l) (isL := true) rfl e
  | obj n =>
    simp only [memD] at e
    split at e
    · rename_i l hn
      exact data' (l := l) (isL := true) (by simp [deref, hn]) e
    · rename_i kvs hn
      unfold memKey at e
      split at e
      · rename_i k hk
        cases e
        simp only [Rep] at r2
        obtain ⟨a, hm, rfl⟩ := r2
        obtain ⟨vs, h1, h2⟩ := sr.obj n _ a hn hm
        exact dK rfl h1 h2 hk rfl
      · cases e
    · cases e
  | _ => simp [memD] at e
theorem o_in (hK : X.K = G.K) (hw : X.w = G.w) (hu : X.A.units + 65 < cLine) : OpR X (compareOp .In) (r2 G inD) := by
  intro pins s σ H x y v u Q I rx ry q
  obtain ⟨w, d1, d2, rfl, sr, r1, r2, p⟩ := q
  unfold inD at p
  split at p
  · rename_i b e
    exact mem_ok (neg := false) hK hw hu rfl I rx ry sr r1 r2 e (Post.ret (Ra := Rep G) sr (by simp [Rep]) p)
  · exact p.elim
theorem o_notIn (hK : X.K = G.K) (hw : X.w = G.w) (hu : X.A.units + 65 < cLine) : OpR X (compareOp .NotIn) (r2 G notInD) := by
  intro pins s σ H x y v u Q I rx ry q
  obtain ⟨w, d1, d2, rfl, sr, r1, r2, p⟩ := q
  unfold notInD at p
  split at p
  · rename_i b e
    exact mem_ok (neg := true) hK hw hu rfl I rx ry sr r1 r2 e (Post.ret (Ra := Rep G) sr (by simp [Rep]) p)
  · exact p.elim
end
end L3
set_option Elab.async false
set_option linter.all false
set_option maxRecDepth 100000
/-! L3J: subscripts, isinstance, built-ins, stores. -/
namespace L3
open PySem PySem.Spec PyProof.Rows L2

/-! ### subscripts -/
def ixD : F2 := fun x y S => match x with
  | .tup l => match y with
    | .int i => match atI l i with
      | some d => .ok d S
      | none => .bad
    | _ => .bad
  | .str z => match y with
    | .int i => if z.length ≤ sizeLine then match atI z.cps.toList i with
        | some c => .ok (sgn c) S
        | none => .bad
      else .bad
    | _ => .bad
  | .scr ns => match y with
    | .int i => match atI ns i with
      | some n => .ok (.int n) S
      | none => .bad
    | _ => .bad
  | .kd ks l => match y with
    | .str z => match kdAt ks l z with
      | some d => .ok d S
      | none => .bad
    | _ => .bad
  | .dic ks l => match keyOf y with
    | some k => match dGet (ks.zip l) k with
      | some d => .ok d S
      | none => .bad
    | none => .bad
  | .lst l => match y with
    | .int i => match atI l i with
      | some d => .ok d S
      | none => .bad
    | _ => .bad
  | .obj n => match S[n]? with
    | some (.lst l) => match y with
      | .int i => match atI l i with
        | some d => .ok d S
        | none => .bad
      | _ => .bad
    | some (.dK kvs) => match keyOf y with
      | some k => match dGet kvs k with
        | some d => .ok d S
        | none => .bad
      | none => .bad
    | _ => .bad
  | _ => .bad
section
variable {G : GC} {X : Cx} {w : Wd}
theorem c_ix : Calm2 ixD := fun x y S => by unfold ixD; repeat' split
                                            all_goals trivial
theorem RepL.at {l : List D} {vs : List V} {i : Int} {d : D} (r : RepL G w l vs) (e : atI l i = some d) : ∃ v, atI vs i = some v ∧ Rep G w d v := by
  unfold atI at e ⊢
  rw [r.length]
  cases h : ixN l.length i with
  | none => rw [h] at e; cases e
  | some j =>
    rw [h] at e
    exact r.get e
/-- a list's, a tuple's, a text's, a dict's -/
theorem ix_dk (hu : X.A.units + 1 < cLine) : IxR X (fun x y H Q => ∃ a v, x = .ref a ∧ DGet H a y (some v) ∧ Q v H) := by
  intro value slice pins s σ H x y v u Q I rx ry h hs
  obtain ⟨a, z, rfl, g, q⟩ := h
  cases rx
  exact tail_any (dict_typeIs I g) PySem.F.slot_dict_getitem.lookup (d_getItem hu I g ry fun w' s' I' r' => ⟨z, H, I', r', q⟩) hs
theorem o_ix (hK : X.K = G.K) (hw : X.w = G.w) (hu : X.A.units + 1 < cLine) : IxR X (r2 G ixD) := by
  refine ixI2 ((ix_seq (X := X)).or (ix_kdict.or (ix_dk hu))) fun x y H Q q => ?_
  obtain ⟨w, d1, d2, rfl, sr, r1, r2, p⟩ := q
  have dk : ∀ {a : Addr} {kvs : List (Key × D)} {vs : List (Key × V)} {k : Key} {d : D}, x = .ref a → w.H a = some (.dK vs) → RepKV G w kvs vs → keyOf d2 = some k → dGet kvs k = some d → Post G w (.ok d w.S) (Rep G) Q (fun _ _ _ => False) →
      ∃ a v, x = V.ref a ∧ DGet w.H a y (some v) ∧ Q v w.H := fun {a kvs vs k d} ex h1 h2 hk hd p => by
    have ey := keyOf_rep r2 hk
    have := dGet_rep k h2
    rw [hd] at this
    obtain ⟨v, e1, e2⟩ := this
    exact ⟨a, v, ex, by rw [ey, ← e1]; exact DGet.k h1, Post.ret sr e2 p⟩
  have lst : ∀ {l : List D} {i : Int} {d : D}, asL d1 w.S = some l → atI l i = some d → d2 = .int i → Post G w (.ok d w.S) (Rep G) Q (fun _ _ _ => False) → rIx X.K x y w.H Q := fun {l i d} h1 h2 h3 p' => by
    subst h3
    simp only [Rep] at r2
    obtain ⟨a, vs, rfl, e1, rl⟩ := asL_rep sr r1 h1
    obtain ⟨v, e2, rv⟩ := rl.at h2
    exact .inl ⟨a, vs, i, v, rfl, r2, SqL.of e1, e2, Post.ret sr rv p'⟩
  cases d1 with
  | tup l =>
    simp only [ixD] at p
    split at p
    · rename_i i
      split at p
      · rename_i d hd
        simp only [Rep] at r1 r2
        obtain ⟨a, vs, rfl, h1, rl⟩ := r1
        obtain ⟨v, e2, rv⟩ := rl.at hd
        exact .inl (.inr (.inl ⟨a, vs, i, v, rfl, r2, by rw [hK]; exact SqT_of h1, e2, Post.ret sr rv p⟩))
      · exact p.elim
    · exact p.elim
  | str z =>
    simp only [ixD] at p
    split at p
    · rename_i i
      split at p
      · rename_i hz
        split at p
        · rename_i c hc
          simp only [Rep] at r1 r2
          exact .inl (.inr (.inr ⟨z, i, c, r1, r2, hz, hc, Post.ret (Ra := Rep G) sr (by simp [Rep, sgn]) p⟩))
        · exact p.elim
      · exact p.elim
    · exact p.elim
  | scr ns =>
    simp only [ixD] at p
    split at p
    · rename_i i
      split at p
      · rename_i n hn
        simp only [Rep] at r1 r2
        obtain ⟨a, rfl, h1⟩ := r1
        refine .inl (.inl ⟨a, ns.map V.int, i, .int n, rfl, r2, by rw [hK]; exact h1.imp (fun z => z.1) id, ?_, Post.ret (Ra := Rep G) sr (by simp [Rep]) p⟩)
        unfold atI at hn ⊢
        rw [List.length_map]
        cases h : ixN ns.length i with
        | none => rw [h] at hn; cases hn
        | some j => rw [h] at hn; simp only [Option.bind] at hn ⊢; rw [List.getElem?_map, hn]; rfl
      · exact p.elim
    · exact p.elim
  | kd ks l =>
    simp only [ixD] at p
    split at p
    · rename_i z
      split at p
      · rename_i d hd
        simp only [Rep] at r1 r2
        obtain ⟨a, es, n, vs, us, rfl, kd, hn, hl, rv, rl⟩ := r1
        have look := kdAt_look z hl rv rl
        rw [hd] at look
        obtain ⟨v, u, e1, e2, e3⟩ := look
        refine .inr (.inl ⟨a, z, v, rfl, r2, ⟨es, n, u, by rw [hK]; exact kd.at_, by rw [hw]; exact kd.lit, by rw [hK, hn z, e1], e2⟩, Post.ret sr e3 p⟩)
      · exact p.elim
    · exact p.elim
  | dic ks l =>
    simp only [ixD] at p
    split at p
    · rename_i k hk
      split at p
      · rename_i d hd
        simp only [Rep] at r1
        obtain ⟨a, vs, rfl, h1, nm, hl, h2⟩ := r1
        exact .inr (.inr (dk rfl h1 (zip_kv hl h2) hk hd p))
      · exact p.elim
    · exact p.elim
  | lst l =>
    simp only [ixD] at p
    split at p
    · split at p
      · rename_i d hd
        exact .inl (lst rfl hd rfl p)
      · exact p.elim
    · exact p.elim
  | obj n =>
    simp only [ixD] at p
    split at p
    · rename_i l hn
      split at p
      · split at p
        · rename_i d hd
          exact .inl (lst (by simp [asL, hn]) hd rfl p)
        · exact p.elim
      · exact p.elim
    · rename_i kvs hn
      split at p
      · rename_i k hk
        split at p
        · rename_i d hd
          simp only [Rep] at r1
          obtain ⟨a, hm, rfl⟩ := r1
          obtain ⟨vs, h1, h2⟩ := sr.obj n _ a hn hm
          exact .inr (.inr (dk rfl h1 h2 hk hd p))
        · exact p.elim
      · exact p.elim
    · exact p.elim
  | _ => exact p.elim

/-! ### isinstance -/
def tyD (x : D) (S : Store) : Option String := match x with
  | .non => some "NoneType"
  | .bl _ => some "bool"
  | .int _ => some "int"
  | .str _ => some "str"
  | .tup _ => some "tuple"
  | .lst _ => some "list"
  | .dic _ _ => some "dict"
  | .kd _ _ => some "dict"
  | .obj n => match S[n]? with
    | some (.lst _) => some "list"
    | some (.dK _) => some "dict"
    | some (.dT _) => some "dict"
    | _ => none
  | _ => none
def isiD : FN := fun xs S => match xs with
  | [x, .ty T] => match tyD x S with
    | some t => match kitB t T with
      | some b => .ok (.bl b) S
      | none => .bad
    | none => .bad
  | _ => .bad
theorem c_isi : CalmN isiD := fun xs S => by unfold isiD; repeat' split
                                             all_goals trivial
theorem tyx {x : D} {v : V} {t : String} (sr : SRep G w) (r : Rep G w x v) (e : tyD x w.S = some t) : TyX G.K w.H v (.type t) := by
  cases x with
  | non => simp only [Rep] at r; cases e; subst r; exact .base .non
  | bl b => simp only [Rep] at r; cases e; subst r; exact .base (.bl b)
  | int i => simp only [Rep] at r; cases e; subst r; exact .base (.int i)
  | str s => simp only [Rep] at r; cases e; subst r; exact .base (.str s)
  | tup l =>
    simp only [Rep] at r
    cases e
    obtain ⟨a, vs, rfl, h1, _⟩ := r
    rcases h1 with ⟨h | ⟨o, h⟩, _⟩ | ⟨o, its, n, h, hc, _⟩
    · exact .base (.tup h)
    · exact .fTuple h
    · exact .kTuple h hc
  | lst l =>
    simp only [Rep] at r
    cases e
    obtain ⟨a, vs, rfl, h1, _⟩ := r
    exact .base (.lst h1)
  | dic ks l =>
    simp only [Rep] at r
    cases e
    obtain ⟨a, vs, rfl, h1, _⟩ := r
    exact .base (.dK h1)
  | kd ks l =>
    simp only [Rep] at r
    cases e
    obtain ⟨a, es, n, vs, us, rfl, kd, _⟩ := r
    exact .kDict kd.at_ rfl
  | obj n =>
    simp only [Rep] at r
    obtain ⟨a, hm, rfl⟩ := r
    simp only [tyD] at e
    split at e
    · rename_i l hn
      cases e
      obtain ⟨vs, h1, _⟩ := sr.obj n _ a hn hm
      exact .base (.lst h1)
    · rename_i l hn
      cases e
      obtain ⟨vs, h1, _⟩ := sr.obj n _ a hn hm
      exact .base (.dK h1)
    · rename_i l hn
      cases e
      obtain ⟨vs, h1, _⟩ := sr.obj n _ a hn hm
      exact .base (.dT h1)
    · cases e
  | _ => cases e
theorem o_isi (hK : X.K = G.K) : CallR X (.builtin "isinstance") (rN G isiD) := by
  refine caI2 call_isi fun xs H Q q => ?_
  obtain ⟨w, ds, rfl, sr, rl, p⟩ := q
  unfold isiD at p
  split at p
  · rename_i x T
    split at p
    · rename_i t ht
      split at p
      · rename_i b hb
        simp only [RepL, Rep] at rl
        obtain ⟨v, r', rfl, r1, v2, r'', rfl, rfl, rfl⟩ := rl
        exact ⟨v, .ty T, .type t, .type T, b, rfl, .ty T, by rw [hK]; exact tyx sr r1 ht, kit_ty hb, Post.ret (Ra := Rep G) sr (by simp [Rep]) p⟩
      · exact p.elim
    · exact p.elim
  · exact p.elim

/-! ### len -/
def lenD : FN := fun xs S => match xs with
  | [.tup l] => .ok (.int l.length) S
  | [.str s] => if s.length ≤ sizeLine then .ok (.int s.length) S else .bad
  | [.scr ns] => .ok (.int ns.length) S
  | [x] => match asL x S with
    | some l => .ok (.int l.length) S
    | none => .bad
  | _ => .bad
theorem c_len : CalmN lenD := fun xs S => by unfold lenD; repeat' split
                                             all_goals trivial
theorem o_len (hK : X.K = G.K) : CallR X (.builtin "len") (rN G lenD) := by
  refine caI2 call_len fun xs H Q q => ?_
  obtain ⟨w, ds, rfl, sr, rl, p⟩ := q
  unfold lenD at p
  split at p
  · rename_i l
    simp only [RepL, Rep] at rl
    obtain ⟨v, r', rfl, ⟨a, vs, rfl, h1, r1⟩, rfl⟩ := rl
    exact ⟨.ref a, l.length, rfl, .inr ⟨vs, by rw [hK]; exact SqT_of h1, r1.length.symm⟩, Post.ret (Ra := Rep G) sr (by simp [Rep]) p⟩
  · split at p
    · rename_i s hs
      simp only [RepL, Rep] at rl
      obtain ⟨v, r', rfl, rfl, rfl⟩ := rl
      exact ⟨.str s, s.length, rfl, ⟨hs, rfl⟩, Post.ret (Ra := Rep G) sr (by simp [Rep]) p⟩
    · exact p.elim
  · rename_i ns
    simp only [RepL, Rep] at rl
    obtain ⟨v, r', rfl, ⟨a, rfl, h1⟩, rfl⟩ := rl
    exact ⟨.ref a, ns.length, rfl, .inl ⟨ns.map V.int, by rw [hK]; exact h1.imp (fun z => z.1) id, by simp⟩, Post.ret (Ra := Rep G) sr (by simp [Rep]) p⟩
  · split at p
    · rename_i l hl
      simp only [RepL] at rl
      obtain ⟨v, r', rfl, r1, rfl⟩ := rl
      obtain ⟨a, vs, rfl, h1, r2⟩ := asL_rep sr r1 hl
      exact ⟨.ref a, l.length, rfl, .inl ⟨vs, SqL.of h1, r2.length.symm⟩, Post.ret (Ra := Rep G) sr (by simp [Rep]) p⟩
    · exact p.elim
  · exact p.elim

/-! ### all, any, sum, min, max, abs, int, tuple, list -/
def allBls : List D → Option (List Bool)
  | [] => some []
  | .bl b :: r => (allBls r).map (b :: ·)
  | _ => none
def allInts : List D → Option (List Int)
  | [] => some []
  | .int b :: r => (allInts r).map (b :: ·)
  | _ => none
theorem allBls_rep : ∀ {l : List D} {vs : List V} {bs : List Bool}, RepL G w l vs → allBls l = some bs → vs = bs.map V.bl
  | [], vs, bs, r, e => by simp only [RepL] at r; cases e; exact r
  | d :: ds, vs, bs, r, e => by
    simp only [RepL] at r
    obtain ⟨v, r', rfl, h1, h2⟩ := r
    cases d with
    | bl b =>
      simp only [allBls, Option.map_eq_some_iff] at e
      obtain ⟨bs', e1, rfl⟩ := e
      simp only [Rep] at h1
      rw [h1, allBls_rep h2 e1]
      rfl
    | _ => simp [allBls] at e
theorem allInts_rep : ∀ {l : List D} {vs : List V} {bs : List Int}, RepL G w l vs → allInts l = some bs → vs = bs.map V.int
  | [], vs, bs, r, e => by simp only [RepL] at r; cases e; exact r
  | d :: ds, vs, bs, r, e => by
    simp only [RepL] at r
    obtain ⟨v, r', rfl, h1, h2⟩ := r
    cases d with
    | int b =>
      simp only [allInts, Option.map_eq_some_iff] at e
      obtain ⟨bs', e1, rfl⟩ := e
      simp only [Rep] at h1
      rw [h1, allInts_rep h2 e1]
      rfl
    | _ => simp [allInts] at e
def allD : FN := fun xs S => match xs with
  | [x] => match (asL x S).bind allBls with
    | some bs => .ok (.bl (bs.all id)) S
    | none => .bad
  | _ => .bad
def anyD : FN := fun xs S => match xs with
  | [x] => match (asL x S).bind allBls with
    | some bs => .ok (.bl (bs.any id)) S
    | none => .bad
  | _ => .bad
def sumD : FN := fun xs S => match xs with
  | [x] => match (asL x S).bind allInts with
    | some bs => .ok (.int bs.sum) S
    | none => .bad
  | _ => .bad
theorem c_all : CalmN allD := fun xs S => by unfold allD; repeat' split
                                             all_goals trivial
theorem c_any : CalmN anyD := fun xs S => by unfold anyD; repeat' split
                                             all_goals trivial
theorem c_sum : CalmN sumD := fun xs S => by unfold sumD; repeat' split
                                             all_goals trivial
theorem asL_allBls {x : D} {v : V} {bs : List Bool} (sr : SRep G w) (r : Rep G w x v) (e : (asL x w.S).bind allBls = some bs) : ∃ a, v = .ref a ∧ w.H a = some (.lst (bs.map V.bl)) := by
  cases h : asL x w.S with
  | none => rw [h] at e; cases e
  | some l =>
    rw [h] at e
    obtain ⟨a, vs, rfl, h1, h2⟩ := asL_rep sr r h
    exact ⟨a, rfl, by rw [h1, allBls_rep h2 e]⟩
theorem asL_allInts {x : D} {v : V} {bs : List Int} (sr : SRep G w) (r : Rep G w x v) (e : (asL x w.S).bind allInts = some bs) : ∃ a, v = .ref a ∧ w.H a = some (.lst (bs.map V.int)) := by
  cases h : asL x w.S with
  | none => rw [h] at e; cases e
  | some l =>
    rw [h] at e
    obtain ⟨a, vs, rfl, h1, h2⟩ := asL_rep sr r h
    exact ⟨a, rfl, by rw [h1, allInts_rep h2 e]⟩
theorem o_all (hc : X.calm = true) : CallR X (.builtin "all") (rN G allD) := by
  refine caI2 (cr_all hc) fun xs H Q q => ?_
  obtain ⟨w, ds, rfl, sr, rl, p⟩ := q
  unfold allD at p
  split at p
  · split at p
    · rename_i bs hb
      simp only [RepL] at rl
      obtain ⟨v, r', rfl, r1, rfl⟩ := rl
      obtain ⟨a, rfl, h⟩ := asL_allBls sr r1 hb
      exact ⟨a, bs, rfl, SqL.of h, Post.ret (Ra := Rep G) sr (by simp [Rep]) p⟩
    · exact p.elim
  · exact p.elim
theorem o_any (hc : X.calm = true) : CallR X (.builtin "any") (rN G anyD) := by
  refine caI2 (cr_any hc) fun xs H Q q => ?_
  obtain ⟨w, ds, rfl, sr, rl, p⟩ := q
  unfold anyD at p
  split at p
  · split at p
    · rename_i bs hb
      simp only [RepL] at rl
      obtain ⟨v, r', rfl, r1, rfl⟩ := rl
      obtain ⟨a, rfl, h⟩ := asL_allBls sr r1 hb
      exact ⟨a, bs, rfl, SqL.of h, Post.ret (Ra := Rep G) sr (by simp [Rep]) p⟩
    · exact p.elim
  · exact p.elim
theorem o_sum (hc : X.calm = true) : CallR X (.builtin "sum") (rN G sumD) := by
  refine caI2 (cr_sum hc) fun xs H Q q => ?_
  obtain ⟨w, ds, rfl, sr, rl, p⟩ := q
  unfold sumD at p
  split at p
  · split at p
    · rename_i bs hb
      simp only [RepL] at rl
      obtain ⟨v, r', rfl, r1, rfl⟩ := rl
      obtain ⟨a, rfl, h⟩ := asL_allInts sr r1 hb
      exact ⟨a, bs, rfl, SqL.of h, Post.ret (Ra := Rep G) sr (by simp [Rep]) p⟩
    · exact p.elim
  · exact p.elim
def maxI : List Int → Option Int
  | [] => none
  | n :: ns => some (ns.foldl (fun m x => if x > m then x else m) n)
def minI : List Int → Option Int
  | [] => none
  | n :: ns => some (ns.foldl (fun m x => if x < m then x else m) n)
theorem fold_max : ∀ (ns : List Int) (n : Int), (ns.foldl (fun m x => if x > m then x else m) n = n ∨ ns.foldl (fun m x => if x > m then x else m) n ∈ ns) ∧ n ≤ ns.foldl (fun m x => if x > m then x else m) n ∧ ∀ y ∈ ns, y ≤ ns.foldl (fun m x => if x > m then x else m) n
  | [], n => ⟨.inl rfl, Int.le_refl _, fun y h => by simp at h⟩
  | a :: ns, n => by
    obtain ⟨m, hm⟩ : ∃ m, m = if a > n then a else n := ⟨_, rfl⟩
    have hm' : (n ≤ m ∧ a ≤ m) ∧ (m = a ∨ m = n) := by rw [hm]; split <;> omega
    simp only [List.foldl_cons]
    rw [← hm]
    obtain ⟨h1, h2, h3⟩ := fold_max ns m
    refine ⟨?_, by omega, fun y hy => ?_⟩
    · rcases h1 with h1 | h1
      · rw [h1]
        rcases hm'.2 with e | e
        · exact .inr (by simp [e])
        · exact .inl e
      · exact .inr (by simp [h1])
    · rcases List.mem_cons.mp hy with e | hy
      · subst e; omega
      · exact h3 y hy
theorem fold_min : ∀ (ns : List Int) (n : Int), (ns.foldl (fun m x => if x < m then x else m) n = n ∨ ns.foldl (fun m x => if x < m then x else m) n ∈ ns) ∧ ns.foldl (fun m x => if x < m then x else m) n ≤ n ∧ ∀ y ∈ ns, ns.foldl (fun m x => if x < m then x else m) n ≤ y
  | [], n => ⟨.inl rfl, Int.le_refl _, fun y h => by simp at h⟩
  | a :: ns, n => by
    obtain ⟨m, hm⟩ : ∃ m, m = if a < n then a else n := ⟨_, rfl⟩
    have hm' : (m ≤ n ∧ m ≤ a) ∧ (m = a ∨ m = n) := by rw [hm]; split <;> omega
    simp only [List.foldl_cons]
    rw [← hm]
    obtain ⟨h1, h2, h3⟩ := fold_min ns m
    refine ⟨?_, by omega, fun y hy => ?_⟩
    · rcases h1 with h1 | h1
      · rw [h1]
        rcases hm'.2 with e | e
        · exact .inr (by simp [e])
        · exact .inl e
      · exact .inr (by simp [h1])
    · rcases List.mem_cons.mp hy with e | hy
      · subst e; omega
      · exact h3 y hy
theorem maxI_eq {ns : List Int} {m k : Int} (h : maxI ns = some k) (h1 : m ∈ ns) (h2 : ∀ y ∈ ns, y ≤ m) : m = k := by
  cases ns with
  | nil => cases h
  | cons n ns =>
    cases h
    obtain ⟨a1, a2, a3⟩ := fold_max ns n
    have le1 : ns.foldl (fun m x => if x > m then x else m) n ≤ m := by
      rcases a1 with e | e
      · rw [e]; exact h2 n (by simp)
      · exact h2 _ (by simp [e])
    have le2 : m ≤ ns.foldl (fun m x => if x > m then x else m) n := by
      rcases List.mem_cons.mp h1 with e | e
      · rw [e]; exact a2
      · exact a3 m e
    omega
theorem minI_eq {ns : List Int} {m k : Int} (h : minI ns = some k) (h1 : m ∈ ns) (h2 : ∀ y ∈ ns, m ≤ y) : m = k := by
  cases ns with
  | nil => cases h
  | cons n ns =>
    cases h
    obtain ⟨a1, a2, a3⟩ := fold_min ns n
    have le1 : m ≤ ns.foldl (fun m x => if x < m then x else m) n := by
      rcases a1 with e | e
      · rw [e]; exact h2 n (by simp)
      · exact h2 _ (by simp [e])
    have le2 : ns.foldl (fun m x => if x < m then x else m) n ≤ m := by
      rcases List.mem_cons.mp h1 with e | e
      · rw [e]; exact a2
      · exact a3 m e
    omega
def maxD : FN := fun xs S => match xs with
  | [.int i, .int j] => .ok (.int (if j > i then j else i)) S
  | [x] => match ((asL x S).bind allInts).bind maxI with
    | some m => .ok (.int m) S
    | none => .bad
  | _ => .bad
def minD : FN := fun xs S => match xs with
  | [.int i, .int j] => .ok (.int (if j < i then j else i)) S
  | [x] => match ((asL x S).bind allInts).bind minI with
    | some m => .ok (.int m) S
    | none => .bad
  | _ => .bad
theorem c_max : CalmN maxD := fun xs S => by unfold maxD; repeat' split
                                             all_goals trivial
theorem c_min : CalmN minD := fun xs S => by unfold minD; repeat' split
                                             all_goals trivial
theorem o_max (hc : X.calm = true) : CallR X (.builtin "max") (rN G maxD) := by
  refine caI2 ((call_max2 hc).or (cr_max hc)) fun xs H Q q => ?_
  obtain ⟨w, ds, rfl, sr, rl, p⟩ := q
  unfold maxD at p
  split at p
  · simp only [RepL, Rep] at rl
    obtain ⟨v, r', rfl, rfl, v2, r'', rfl, rfl, rfl⟩ := rl
    exact .inl ⟨_, _, rfl, Post.ret (Ra := Rep G) sr (by simp [Rep]) p⟩
  · split at p
    · rename_i m hm
      simp only [RepL] at rl
      obtain ⟨v, r', rfl, r1, rfl⟩ := rl
      cases h : (asL _ w.S).bind allInts with
      | none => rw [h] at hm; cases hm
      | some ns =>
        rw [h] at hm
        obtain ⟨a, rfl, ha⟩ := asL_allInts sr r1 h
        refine .inr ⟨a, ns, rfl, SqL.of ha, ?_, fun k hk hle => ?_⟩
        · cases ns with
          | nil => cases hm
          | cons _ _ => simp
        · rw [maxI_eq hm hk hle]
          exact Post.ret (Ra := Rep G) sr (by simp [Rep]) p
    · exact p.elim
  · exact p.elim
theorem o_min (hc : X.calm = true) : CallR X (.builtin "min") (rN G minD) := by
  refine caI2 ((call_min2 hc).or (cr_min hc)) fun xs H Q q => ?_
  obtain ⟨w, ds, rfl, sr, rl, p⟩ := q
  unfold minD at p
  split at p
  · simp only [RepL, Rep] at rl
    obtain ⟨v, r', rfl, rfl, v2, r'', rfl, rfl, rfl⟩ := rl
    exact .inl ⟨_, _, rfl, Post.ret (Ra := Rep G) sr (by simp [Rep]) p⟩
  · split at p
    · rename_i m hm
      simp only [RepL] at rl
      obtain ⟨v, r', rfl, r1, rfl⟩ := rl
      cases h : (asL _ w.S).bind allInts with
      | none => rw [h] at hm; cases hm
      | some ns =>
        rw [h] at hm
        obtain ⟨a, rfl, ha⟩ := asL_allInts sr r1 h
        refine .inr ⟨a, ns, rfl, SqL.of ha, ?_, fun k hk hle => ?_⟩
        · cases ns with
          | nil => cases hm
          | cons _ _ => simp
        · rw [minI_eq hm hk hle]
          exact Post.ret (Ra := Rep G) sr (by simp [Rep]) p
    · exact p.elim
  · exact p.elim
def absD : FN := fun xs S => match xs with
  | [.int i] => .ok (.int (if i < 0 then -i else i)) S
  | _ => .bad
def intD : FN := fun xs S => match xs with
  | [.int i] => .ok (.int i) S
  | [.bl k] => .ok (.int (if k then 1 else 0)) S
  | _ => .bad
theorem c_abs : CalmN absD := fun xs S => by unfold absD; repeat' split
                                             all_goals trivial
theorem c_int : CalmN intD := fun xs S => by unfold intD; repeat' split
                                             all_goals trivial
theorem o_abs : CallR X (.builtin "abs") (rN G absD) := by
  refine caI2 call_abs fun xs H Q q => ?_
  obtain ⟨w, ds, rfl, sr, rl, p⟩ := q
  unfold absD at p
  split at p
  · simp only [RepL, Rep] at rl
    obtain ⟨v, r', rfl, rfl, rfl⟩ := rl
    exact ⟨_, rfl, Post.ret (Ra := Rep G) sr (by simp [Rep]) p⟩
  · exact p.elim
theorem o_int : CallR X (.type "int") (rN G intD) := by
  refine caI2 call_int1 fun xs H Q q => ?_
  obtain ⟨w, ds, rfl, sr, rl, p⟩ := q
  unfold intD at p
  split at p
  · simp only [RepL, Rep] at rl
    obtain ⟨v, r', rfl, rfl, rfl⟩ := rl
    exact .inl ⟨_, rfl, Post.ret (Ra := Rep G) sr (by simp [Rep]) p⟩
  · simp only [RepL, Rep] at rl
    obtain ⟨v, r', rfl, rfl, rfl⟩ := rl
    exact .inr ⟨_, rfl, Post.ret (Ra := Rep G) sr (by simp [Rep]) p⟩
  · exact p.elim
def tupleD : FN := fun xs S => match xs with
  | [.tup l] => .ok (.tup l) S
  | [x] => match asL x S with
    | some l => .ok (.tup l) S
    | none => .bad
  | _ => .bad
def listD : FN := fun xs S => match xs with
  | [.tup l] => .ok (.lst l) S
  | [.scr ns] => .ok (.lst (ns.map .int)) S
  | [x] => match asL x S with
    | some l => .ok (.lst l) S
    | none => .bad
  | _ => .bad
theorem c_tuple : CalmN tupleD := fun xs S => by unfold tupleD; repeat' split
                                                 all_goals trivial
theorem c_list : CalmN listD := fun xs S => by unfold listD; repeat' split
                                               all_goals trivial
theorem o_tuple (hK : X.K = G.K) : CallR X (.type "tuple") (rN G tupleD) := by
  refine caI2 call_tuple_of fun xs H Q q => ?_
  obtain ⟨w, ds, rfl, sr, rl, p⟩ := q
  unfold tupleD at p
  split at p
  · simp only [RepL] at rl
    obtain ⟨v, r', rfl, r1, rfl⟩ := rl
    have r1' := r1
    simp only [Rep] at r1
    obtain ⟨a, vs, rfl, h1, r2⟩ := r1
    exact ⟨a, vs, rfl, .inr ⟨by rw [hK]; exact SqT_of h1, Post.ret (Ra := Rep G) sr r1' p⟩⟩
  · split at p
    · rename_i l hl
      simp only [RepL] at rl
      obtain ⟨v, r', rfl, r1, rfl⟩ := rl
      obtain ⟨a, vs, rfl, h1, r2⟩ := asL_rep sr r1 hl
      exact ⟨a, vs, rfl, .inl ⟨SqL.of h1, fun p' hp' => new_tup sr r2 p p' hp'⟩⟩
    · exact p.elim
  · exact p.elim
theorem o_list (hK : X.K = G.K) : CallR X (.type "list") (rN G listD) := by
  refine caI2 call_list_of fun xs H Q q => ?_
  obtain ⟨w, ds, rfl, sr, rl, p⟩ := q
  unfold listD at p
  split at p
  · simp only [RepL, Rep] at rl
    obtain ⟨v, r', rfl, ⟨a, vs, rfl, h1, r2⟩, rfl⟩ := rl
    exact ⟨a, vs, rfl, .inr (by rw [hK]; exact SqT_of h1), fun p' hp' => new_lst (S := w.S) sr r2 p p' hp'⟩
  · simp only [RepL, Rep] at rl
    obtain ⟨v, r', rfl, ⟨a, rfl, h1⟩, rfl⟩ := rl
    exact ⟨a, _, rfl, .inl (by rw [hK]; exact h1.imp (fun z => z.1) id), fun p' hp' => new_lst (S := w.S) sr (RepL_ints.mpr rfl) p p' hp'⟩
  · split at p
    · rename_i l hl
      simp only [RepL] at rl
      obtain ⟨v, r', rfl, r1, rfl⟩ := rl
      obtain ⟨a, vs, rfl, h1, r2⟩ := asL_rep sr r1 hl
      exact ⟨a, vs, rfl, .inl (SqL.of h1), fun p' hp' => new_lst (S := w.S) sr r2 p p' hp'⟩
    · exact p.elim
  · exact p.elim
end
end L3
set_option Elab.async false
set_option linter.all false
set_option maxRecDepth 100000
/-! L3K: displays, and | or | not as values, chains, methods, stores, targets. -/
namespace L3
open PySem PySem.Spec PyProof.Rows L2

section
variable {G : GC} {X : Cx} {Wx : WX} {pos : Pos} {w : Wd}
theorem c_mkTup : CalmN mkTup := fun xs S => by unfold mkTup; split <;> trivial
theorem c_mkLst : CalmN mkLst := fun xs S => by unfold mkLst; split <;> trivial
theorem q_tup {es : List Expr} {x1} {m : AD} (h : PA X es (tA G m Wx)) : PE X (.Tuple es x1 pos) (tE G (eN mkTup m) Wx) := peI (pe_tup h) fun σ H Q q => by
  obtain ⟨w, env, rfl, sr, er, p⟩ := q
  refine ⟨w, env, rfl, sr, er, (Post.bind (Ra := RepL G) p).mono (fun x H1 m => ?_) fun _ _ _ h => h⟩
  obtain ⟨w1, d1, rfl, x1, s1, rp1, p1⟩ := m
  unfold mkTup at p1
  split at p1
  · exact ⟨by rw [rp1.length]; assumption, fun p' hp' => new_tup s1 rp1 p1 p' hp'⟩
  · exact p1.elim
theorem q_lst {es : List Expr} {m : AD} (h : PA X es (tA G m Wx)) : PE X (.List es pos) (tE G (eN mkLst m) Wx) := peI (pe_lst h) fun σ H Q q => by
  obtain ⟨w, env, rfl, sr, er, p⟩ := q
  refine ⟨w, env, rfl, sr, er, (Post.bind (Ra := RepL G) p).mono (fun x H1 m => ?_) fun _ _ _ h => h⟩
  obtain ⟨w1, d1, rfl, x1, s1, rp1, p1⟩ := m
  unfold mkLst at p1
  split at p1
  · exact ⟨by rw [rp1.length]; assumption, fun p' hp' => new_lst (S := w1.S) s1 rp1 p1 p' hp'⟩
  · exact p1.elim
theorem q_obj {es : List Expr} {m : AD} (h : PA X es (tA G m Wx)) : PE X (.List es pos) (tE G (eN mkObj m) Wx) := peI (pe_lst h) fun σ H Q q => by
  obtain ⟨w, env, rfl, sr, er, p⟩ := q
  refine ⟨w, env, rfl, sr, er, (Post.bind (Ra := RepL G) p).mono (fun x H1 m => ?_) fun _ _ _ h => h⟩
  obtain ⟨w1, d1, rfl, x1, s1, rp1, p1⟩ := m
  unfold mkObj at p1
  split at p1
  · exact ⟨by rw [rp1.length]; assumption, fun p' hp' => new_lobj s1 rp1 p1 p' hp'⟩
  · exact p1.elim
theorem q_ifExp {c a b : Expr} {mc : TD} {ma mb : ED} (hc : PT X c (tT G mc Wx)) (ha : PE X a (tE G ma Wx)) (hb : PE X b (tE G mb Wx)) : PE X (.IfExp c a b pos) (tE G (eIf mc ma mb) Wx) := peI (pe_ifExp hc ha hb) fun σ H Q q => by
  obtain ⟨w, env, rfl, sr, er, p⟩ := q
  refine ⟨w, env, rfl, sr, er, (Post.bind (Ra := fun _ (a b : Bool) => a = b) p).mono (fun x H1 m => ?_) fun _ _ _ h => h⟩
  obtain ⟨w1, d1, rfl, x1, s1, rp1, p1⟩ := m
  subst rp1
  cases d1 with
  | true => exact iteT ⟨w1, env, rfl, s1, er.mono x1, p1⟩
  | false => exact iteF ⟨w1, env, rfl, s1, er.mono x1, p1⟩
/-- the same truth by its value -/
theorem tOfE_post {a : ED} {β : Type} {env : EnvD} {f : Bool → Store → R D} {Q : VK} {E : Value → Option Addr → Hp → Prop} (p : Post G w ((tOfE a env w.S).bind f) (Rep G) Q E) :
    Post G w (a env w.S) (Rep G) (Mid G w (Rep G) fun w1 d => ∃ k, d = .bl k ∧ Post G w1 (f k w1.S) (Rep G) Q E) E := by
  unfold tOfE at p
  rw [R.bind_assoc] at p
  refine (Post.bind (Ra := Rep G) p).mono (fun x H1 m => ?_) fun _ _ _ h => h
  obtain ⟨w1, d1, rfl, x1, s1, rp1, p1⟩ := m
  refine ⟨w1, d1, rfl, x1, s1, rp1, ?_⟩
  cases d1 with
  | bl k => exact ⟨k, rfl, p1⟩
  | _ => exact p1.elim
theorem q_eone {op} {a : Expr} {m : ED} (h : PE X a (tE G m Wx)) : PE X (.BoolOp op [a] pos) (tE G m Wx) := pe_one h
theorem q_eand {a b : Expr} {rest : List Expr} {ma mb : ED} (ha : PE X a (tE G ma Wx)) (hb : PE X (.BoolOp .And (b :: rest) pos) (tE G mb Wx)) : PE X (.BoolOp .And (a :: b :: rest) pos) (tE G (eAnd ma mb) Wx) := peI (pe_and ha hb) fun σ H Q q => by
  obtain ⟨w, env, rfl, sr, er, p⟩ := q
  refine ⟨w, env, rfl, sr, er, (tOfE_post (β := D) p).mono (fun x H1 m => ?_) fun _ _ _ h => h⟩
  obtain ⟨w1, d1, rfl, x1, s1, rp1, k, rfl, p1⟩ := m
  simp only [Rep] at rp1
  refine ⟨k, rp1, ?_⟩
  cases k with
  | true => exact iteT ⟨w1, env, rfl, s1, er.mono x1, p1⟩
  | false => exact iteF (Post.ret (Ra := Rep G) s1 (by simp [Rep]) p1)
theorem q_eor {a b : Expr} {rest : List Expr} {ma mb : ED} (ha : PE X a (tE G ma Wx)) (hb : PE X (.BoolOp .Or (b :: rest) pos) (tE G mb Wx)) : PE X (.BoolOp .Or (a :: b :: rest) pos) (tE G (eOr ma mb) Wx) := peI (pe_or ha hb) fun σ H Q q => by
  obtain ⟨w, env, rfl, sr, er, p⟩ := q
  refine ⟨w, env, rfl, sr, er, (tOfE_post (β := D) p).mono (fun x H1 m => ?_) fun _ _ _ h => h⟩
  obtain ⟨w1, d1, rfl, x1, s1, rp1, k, rfl, p1⟩ := m
  simp only [Rep] at rp1
  refine ⟨k, rp1, ?_⟩
  cases k with
  | true => exact iteT (Post.ret (Ra := Rep G) s1 (by simp [Rep]) p1)
  | false => exact iteF ⟨w1, env, rfl, s1, er.mono x1, p1⟩
theorem q_enot {a : Expr} {ma : ED} (ha : PE X a (tE G ma Wx)) : PE X (.UnaryOp .Not a pos) (tE G (eNot ma) Wx) := peI (pe_not ha) fun σ H Q q => by
  obtain ⟨w, env, rfl, sr, er, p⟩ := q
  refine ⟨w, env, rfl, sr, er, (tOfE_post (β := D) p).mono (fun x H1 m => ?_) fun _ _ _ h => h⟩
  obtain ⟨w1, d1, rfl, x1, s1, rp1, k, rfl, p1⟩ := m
  simp only [Rep] at rp1
  exact ⟨k, rp1, Post.ret (Ra := Rep G) s1 (by simp [Rep]) p1⟩
theorem imp_chain {f g : F2} {a b c : ED} (cf : Calm2 f) (cg : Calm2 g) : ∀ σ H Q, tE G (eChain f g a b c) Wx σ H Q → tChain (r2 G f) (r2 G g) (tE G a Wx) (tE G b Wx) (tE G c Wx) σ H Q := by
  intro σ H Q q
  obtain ⟨w, env, rfl, sr, er, p⟩ := q
  refine ⟨w, env, rfl, sr, er, (Post.bind (Ra := Rep G) p).mono (fun x H1 m => ?_) fun _ _ _ h => h⟩
  obtain ⟨w1, d1, rfl, x1, s1, rp1, p1⟩ := m
  refine ⟨w1, env, rfl, s1, er.mono x1, (Post.bind (Ra := Rep G) p1).mono (fun y H2 m => ?_) fun _ _ _ h => h⟩
  obtain ⟨w2, d2, rfl, x2, s2, rp2, p2⟩ := m
  refine ⟨w2, d1, d2, rfl, s2, Rep.mono x2 _ _ rp1, rp2, ((Post.bind (Ra := Rep G) p2).mono (fun z H3 m => ?_) fun _ _ _ h => h).calm (cf _ _ _)⟩
  obtain ⟨w3, d3, rfl, x3, s3, rp3, p3⟩ := m
  cases d3 with
  | bl k =>
    simp only [Rep] at rp3
    refine ⟨k, rp3, ?_⟩
    cases k with
    | false => exact iteF (Post.ret (Ra := Rep G) s3 (by simp [Rep]) p3)
    | true =>
      refine iteT ⟨w3, env, rfl, s3, ((er.mono x1).mono x2).mono x3, (Post.bind (Ra := Rep G) p3).mono (fun z H4 m => ?_) fun _ _ _ h => h⟩
      obtain ⟨w4, d4, rfl, x4, s4, rp4, p4⟩ := m
      exact ⟨w4, d2, d4, rfl, s4, Rep.mono (WX'.trans x3 x4) _ _ rp2, rp4, p4.calm (cg _ _ _)⟩
  | _ => exact p3.elim
theorem q_chain {op op' : CmpOp} {f g : F2} {a b c : Expr} {ma mb mc : ED} (ho : OpR X (compareOp op) (r2 G f)) (cf : Calm2 f) (ho' : OpR X (compareOp op') (r2 G g)) (cg : Calm2 g) (ha : PE X a (tE G ma Wx)) (hb : PE X b (tE G mb Wx)) (hc : PE X c (tE G mc Wx))
    (hm : lastMarks [op, op'] [b, c] = false := by with_unfolding_all rfl) : PE X (.Compare a [op, op'] [b, c] pos) (tE G (eChain f g ma mb mc) Wx) := peI (pe_chain ho ho' ha hb hc hm) (imp_chain cf cg)
theorem q_tchain {op op' : CmpOp} {f g : F2} {a b c : Expr} {ma mb mc : ED} (ho : OpR X (compareOp op) (r2 G f)) (cf : Calm2 f) (ho' : OpR X (compareOp op') (r2 G g)) (cg : Calm2 g) (ha : PE X a (tE G ma Wx)) (hb : PE X b (tE G mb Wx)) (hc : PE X c (tE G mc Wx))
    (hm : lastMarks [op, op'] [b, c] = false := by with_unfolding_all rfl) : PT X (.Compare a [op, op'] [b, c] pos) (tT G (tOfE (eChain f g ma mb mc)) Wx) := ptI (pt_chain ho ho' ha hb hc hm) fun σ H Q q => by
  obtain ⟨w, env, rfl, sr, er, p⟩ := q
  refine imp_chain cf cg σ w.H _ ⟨w, env, rfl, sr, er, (Post.bind (Ra := Rep G) p).mono (fun x H1 m => ?_) fun _ _ _ h => h⟩
  obtain ⟨w1, d1, rfl, x1, s1, rp1, p1⟩ := m
  cases d1 with
  | bl k =>
    simp only [Rep] at rp1
    exact ⟨k, rp1, Post.ret (Ra := fun _ (a b : Bool) => a = b) s1 rfl p1⟩
  | _ => exact p1.elim
/-- a comparison as a test -/
theorem q_tcmp {op : CmpOp} {f : F2} {a b : Expr} {ma mb : ED} (ho : OpR X (compareOp op) (r2 G f)) (c : Calm2 f) (ha : PE X a (tE G ma Wx)) (hb : PE X b (tE G mb Wx)) (hm : behindInMarks op b = false) : PT X (.Compare a [op] [b] pos) (tT G (tOfE (e2 f ma mb)) Wx) :=
  ptI (pt_cmpR ho ha hb hm) fun σ H Q q => by
    obtain ⟨w, env, rfl, sr, er, p⟩ := q
    refine imp_e2 c σ w.H _ ⟨w, env, rfl, sr, er, (Post.bind (Ra := Rep G) p).mono (fun x H1 m => ?_) fun _ _ _ h => h⟩
    obtain ⟨w1, d1, rfl, x1, s1, rp1, p1⟩ := m
    cases d1 with
    | bl k =>
      simp only [Rep] at rp1
      exact ⟨k, rp1, Post.ret (Ra := fun _ (a b : Bool) => a = b) s1 rfl p1⟩
    | _ => exact p1.elim
theorem q_truth {e : Expr} {m : ED} (hK : X.K = G.K) (h : PE X e (tE G m Wx)) (he : ∀ whole, isTrue e X.env whole = (do let v ← whole; standAt e.pos; holding [v] (truthy v)) := by intro _; rfl) : PT X e (tT G (tTruth m) Wx) := ptI (pt_truth h he) fun σ H Q q => by
  obtain ⟨w, env, rfl, sr, er, p⟩ := q
  refine ⟨w, env, rfl, sr, er, (Post.bind (Ra := Rep G) p).mono (fun x H1 m => ?_) fun _ _ _ h => h⟩
  obtain ⟨w1, d1, rfl, x1, s1, rp1, p1⟩ := m
  have fin : ∀ {k : Bool}, Post G w1 (.ok k w1.S) (fun _ (a b : Bool) => a = b) Q (fun C dx H' => Wx C dx σ H') → Q k w1.H := fun {k} p => Post.ret (Ra := fun _ (a b : Bool) => a = b) s1 rfl p
  have emp : ∀ {l : List D} {vs : List V}, RepL G w1 l vs → (!l.isEmpty) = !vs.isEmpty := fun {l vs} r => by
    have := r.length
    cases l <;> cases vs <;> simp_all
  cases d1 with
  | non => simp only [Rep] at rp1; subst rp1; exact ⟨false, rfl, fin p1⟩
  | bl b => simp only [Rep] at rp1; subst rp1; exact ⟨b, rfl, fin p1⟩
  | int i => simp only [Rep] at rp1; subst rp1; exact ⟨_, rfl, fin p1⟩
  | str s =>
    simp only [Rep] at rp1; subst rp1
    simp only [truthD] at p1
    split at p1
    · rename_i hz
      refine ⟨s.length != 0, ⟨hz, ?_⟩, fin p1⟩
      cases s.length <;> rfl
    · exact p1.elim
  | tup l =>
    simp only [Rep] at rp1
    obtain ⟨a, vs, rfl, h1, r1⟩ := rp1
    exact ⟨_, .inr (.inl ⟨vs, by rw [hK]; exact SqT_of h1, emp r1⟩), fin p1⟩
  | lst l =>
    simp only [Rep] at rp1
    obtain ⟨a, vs, rfl, h1, _, r1⟩ := rp1
    exact ⟨_, .inl ⟨vs, SqL.of h1, emp r1⟩, fin p1⟩
  | obj n =>
    simp only [truthD] at p1
    split at p1
    · rename_i l hn
      obtain ⟨a, vs, rfl, h1, r1⟩ := asL_rep (l := l) s1 rp1 (by simp [asL, hn])
      exact ⟨_, .inl ⟨vs, SqL.of h1, emp r1⟩, fin p1⟩
    · exact p1.elim
  | _ => exact p1.elim

/-! ### methods of built-in types -/
/-- a receiver's type -/
def mtD (x : D) (S : Store) : Option String := match x with
  | .str _ => some "str"
  | .lst _ => some "list"
  | .dic _ _ => some "dict"
  | .obj n => match S[n]? with
    | some (.lst _) => some "list"
    | some (.dK _) => some "dict"
    | some (.dT _) => some "dict"
    | _ => none
  | _ => none
def eBM (T : String) (f : D → FN) (o : ED) (a : AD) : ED := fun env S => (o env S).bind fun x S1 => if mtD x S1 = some T then (a env S1).bind fun xs S2 => f x xs S2 else .bad
theorem tyv {x : D} {v : V} {T : String} (sr : SRep G w) (r : Rep G w x v) (e : mtD x w.S = some T) : tyV G.K T v w.H := by
  cases x with
  | str s => simp only [Rep] at r; cases e; subst r; exact rfl
  | lst l =>
    simp only [Rep] at r
    cases e
    obtain ⟨a, vs, rfl, h1, _⟩ := r
    exact .inl ⟨rfl, vs, SqL.of h1⟩
  | dic ks l =>
    simp only [Rep] at r
    cases e
    obtain ⟨a, vs, rfl, h1, _⟩ := r
    exact .inr (.inr (.inl ⟨rfl, .inl ⟨_, h1⟩⟩))
  | obj n =>
    simp only [Rep] at r
    obtain ⟨a, hm, rfl⟩ := r
    simp only [mtD] at e
    split at e
    · rename_i l hn
      cases e
      obtain ⟨vs, h1, _⟩ := sr.obj n _ a hn hm
      exact .inl ⟨rfl, vs, SqL.of h1⟩
    · rename_i l hn
      cases e
      obtain ⟨vs, h1, _⟩ := sr.obj n _ a hn hm
      exact .inr (.inr (.inl ⟨rfl, .inl ⟨_, h1⟩⟩))
    · rename_i l hn
      cases e
      obtain ⟨vs, h1, _⟩ := sr.obj n _ a hn hm
      exact .inr (.inr (.inl ⟨rfl, .inr ⟨_, h1⟩⟩))
    · cases e
  | _ => cases e
theorem q_bm {o e : Expr} {es : List Expr} {name : Str} {apos cpos : Pos} {T id : String} {f : D → FN} {mo : ED} {ma : AD} (hK : X.K = G.K) (pa : PlainAttrs T) (slot : Slot T name id) (hty : typeOf (.builtin id) = pure (.type "method_descriptor")) (hm : MtR X id (rM G f)) (c : CalmM f) (ho : PE X o (tE G mo Wx)) (ha : PA X (e :: es) (tA G ma Wx))
    (hbase : attributeBase o name X.env (eval o X.env) = eval o X.env := by rfl)
    (hfew : ((backTo cpos (starEach (e :: es) X.env)).all (fun x => !x.1) && (backToKw cpos (keywordEach [] X.env)).all (fun x => x.1.isSome)
      && decide ((e :: es).length + ([] : List Keyword).length + (if ([] : List Keyword).isEmpty then 0 else 1) < 30)) = true := by rfl)
    (hline : (apos.endLine == cpos.line) = true := by rfl) (hs : starEach (e :: es) X.env = (false, eval e X.env) :: starEach es X.env := by rfl) (hplain : (backTo cpos (starEach es X.env)).any (·.1) = false := by rfl) :
    PE X (.Call (.Attribute o name apos) (e :: es) [] cpos) (tE G (eBM T f mo ma) Wx) := peI (pe_bm pa slot hty hm ho ha hbase hfew hline hs hplain) fun σ H Q q => by
  obtain ⟨w, env, rfl, sr, er, p⟩ := q
  refine ⟨w, env, rfl, sr, er, (Post.bind (Ra := Rep G) p).mono (fun x H1 m => ?_) fun _ _ _ h => h⟩
  obtain ⟨w1, d1, rfl, x1, s1, rp1, p1⟩ := m
  split at p1
  · rename_i ht
    refine ⟨by rw [hK]; exact tyv s1 rp1 ht, w1, env, rfl, s1, er.mono x1, (Post.bind (Ra := RepL G) p1).mono (fun x H1 m => ?_) fun _ _ _ h => h⟩
    obtain ⟨w2, d2, rfl, x2, s2, rp2, p2⟩ := m
    exact ⟨w2, d1, d2, rfl, s2, Rep.mono x2 _ _ rp1, rp2, p2.calm (c _ _ _)⟩
  · exact p1.elim
theorem q_bm0 {o : Expr} {name : Str} {apos cpos : Pos} {T id : String} {f : D → FN} {mo : ED} (hK : X.K = G.K) (pa : PlainAttrs T) (slot : Slot T name id) (hty : typeOf (.builtin id) = pure (.type "method_descriptor")) (hm : MtR X id (rM G f)) (c : CalmM f) (ho : PE X o (tE G mo Wx))
    (hbase : attributeBase o name X.env (eval o X.env) = eval o X.env := by rfl) (hline : (apos.endLine == cpos.line) = true := by rfl) : PE X (.Call (.Attribute o name apos) [] [] cpos) (tE G (eBM T f mo aNil) Wx) := peI (pe_bm0 pa slot hty hm ho hbase hline) fun σ H Q q => by
  obtain ⟨w, env, rfl, sr, er, p⟩ := q
  refine ⟨w, env, rfl, sr, er, (Post.bind (Ra := Rep G) p).mono (fun x H1 m => ?_) fun _ _ _ h => h⟩
  obtain ⟨w1, d1, rfl, x1, s1, rp1, p1⟩ := m
  split at p1
  · rename_i ht
    exact ⟨by rw [hK]; exact tyv s1 rp1 ht, w1, d1, [], rfl, s1, rp1, by simp [RepL], p1.calm (c _ _ _)⟩
  · exact p1.elim
/-- what stands in the store at n -/
def lstAt (x : D) (S : Store) : Option (Nat × List D) := match x with
  | .obj n => match S[n]? with
    | some (.lst l) => some (n, l)
    | _ => none
  | _ => none
theorem lstAt_rep {x : D} {v : V} {n : Nat} {l : List D} (sr : SRep G w) (r : Rep G w x v) (e : lstAt x w.S = some (n, l)) : ∃ a vs, v = .ref a ∧ w.S[n]? = some (.lst l) ∧ w.mu[n]? = some a ∧ w.H a = some (.lst vs) ∧ RepL G w l vs := by
  cases x with
  | obj m =>
    simp only [Rep] at r
    obtain ⟨a, hm, rfl⟩ := r
    simp only [lstAt] at e
    split at e
    · rename_i l' hn
      cases e
      obtain ⟨vs, h1, h2⟩ := sr.obj _ _ a hn hm
      exact ⟨a, vs, rfl, hn, hm, h1, h2⟩
    · cases e
  | _ => cases e
/-- a list of the store changes -/
theorem set_lst {n : Nat} {a : Addr} {l l' : List D} {vs' : List V} {d : D} {y : V} {Q : VK} {E : Value → Option Addr → Hp → Prop} (sr : SRep G w) (hn : w.S[n]? = some (.lst l)) (ha : w.mu[n]? = some a) (rl : RepL G w l' vs') (rd : Rep G w d y)
    (p : Post G w (.ok d (w.S.set n (.lst l'))) (Rep G) Q E) : Q y (upd w.H a (.lst vs')) := by
  obtain ⟨x, s⟩ := set_obj (ob' := .lst l') (o := .lst vs') sr hn trivial ha fun w' x e => ⟨vs', e, RepL.mono x _ _ rl⟩
  exact p y _ x rfl s (Rep.mono x _ _ rd)
def appendD : D → FN := fun x xs S => match lstAt x S, xs with
  | some (n, l), [y] => if l.length < sizeLine then .ok .non (S.set n (.lst (l ++ [y]))) else .bad
  | _, _ => .bad
theorem c_append : CalmM appendD := fun x xs S => by unfold appendD; repeat' split
                                                     all_goals trivial
theorem o_append : MtR X "list.append" (rM G appendD) := mtI2 mt_append fun x xs H Q q => by
  obtain ⟨w, d, ds, rfl, sr, r1, rl, p⟩ := q
  unfold appendD at p
  split at p
  · rename_i n l y he
    split at p
    · rename_i hz
      obtain ⟨a, vs, rfl, hn, hm, h1, h2⟩ := lstAt_rep sr r1 he
      simp only [RepL] at rl
      obtain ⟨v, r', rfl, ry, rfl⟩ := rl
      exact ⟨a, vs, v, rfl, rfl, h1, by rw [h2.length]; exact hz, set_lst sr hn hm (h2.append (RepL.one ry)) (by simp [Rep]) p⟩
    · exact p.elim
  · exact p.elim

/-! ### o[i] = v -/
def putD {κ : Type} [DecidableEq κ] (kvs : List (κ × D)) (k : κ) (v : D) : List (κ × D) :=
  if (kvs.any fun kv => decide (kv.1 = k)) = true then kvs.map (fun kv => if kv.1 = k then (kv.1, v) else kv) else kvs ++ [(k, v)]
theorem any_put {κ : Type} [DecidableEq κ] (k : κ) : ∀ {kvs : List (κ × D)} {vs : List (κ × V)}, RepKV G w kvs vs → (kvs.any fun kv => decide (kv.1 = k)) = (vs.any fun kv => decide (kv.1 = k))
  | [], vs, h => by
    have : vs = [] := h
    subst this; rfl
  | p :: r, vs, h => by
    obtain ⟨v, y, rfl, h1, h2⟩ := h
    simp only [List.any_cons, any_put k h2]
theorem map_put {κ : Type} [DecidableEq κ] {d : D} {v : V} (k : κ) (rv : Rep G w d v) : ∀ {kvs : List (κ × D)} {vs : List (κ × V)}, RepKV G w kvs vs →
    RepKV G w (kvs.map (fun kv => if kv.1 = k then (kv.1, d) else kv)) (vs.map (fun kv => if kv.1 = k then (kv.1, v) else kv))
  | [], vs, h => by
    have : vs = [] := h
    subst this; rfl
  | p :: r, vs, h => by
    obtain ⟨u, y, rfl, h1, h2⟩ := h
    simp only [List.map_cons]
    by_cases e : p.1 = k
    · rw [if_pos e, if_pos e]; exact ⟨v, _, rfl, rv, map_put k rv h2⟩
    · rw [if_neg e, if_neg e]; exact ⟨u, _, rfl, h1, map_put k rv h2⟩
theorem RepKV.append {κ : Type} : ∀ {a b : List (κ × D)} {x y : List (κ × V)}, RepKV G w a x → RepKV G w b y → RepKV G w (a ++ b) (x ++ y)
  | [], _, x, _, h, h' => by
    have : x = [] := h
    subst this; exact h'
  | p :: r, b, x, y, h, h' => by
    obtain ⟨u, z, rfl, h1, h2⟩ := h
    exact ⟨u, z ++ y, rfl, h1, RepKV.append h2 h'⟩
theorem RepKV.put {κ : Type} [DecidableEq κ] {kvs : List (κ × D)} {vs : List (κ × V)} {d : D} {v : V} (k : κ) (h : RepKV G w kvs vs) (rv : Rep G w d v) : RepKV G w (putD kvs k d) (putK vs k v) := by
  unfold putD putK
  rw [any_put k h]
  split
  · exact map_put k rv h
  · exact h.append ⟨v, [], rfl, rv, rfl⟩
def setD (o i v : D) (S : Store) : Option Store := match o with
  | .obj n => match S[n]? with
    | some (.lst l) => match i with
      | .int k => match ixN l.length k with
        | some j => some (S.set n (.lst (l.set j v)))
        | none => none
      | _ => none
    | some (.dK kvs) => match keyOf i with
      | some k => if kvs.length < sizeLine then some (S.set n (.dK (putD kvs k v))) else none
      | none => none
    | _ => none
  | _ => none
def gSub (mo mi : ED) : GD := fun v env S => match mo env S with
  | .ok o S1 => match mi env S1 with
    | .ok i S2 => match setD o i v S2 with
      | some S3 => .nx env S3
      | none => .bad
    | _ => .bad
  | _ => .bad
/-- by values -/
def tSetD (G : GC) : TSet := fun o i v H k => ∃ w d1 d2 d3 S', w.H = H ∧ SRep G w ∧ Rep G w d1 o ∧ Rep G w d2 i ∧ Rep G w d3 v ∧ setD d1 d2 d3 w.S = some S' ∧ ∀ w', WExt w w' → w'.S = S' → SRep G w' → k w'.H
theorem RepKV.len {κ : Type} : ∀ {kvs : List (κ × D)} {vs : List (κ × V)}, RepKV G w kvs vs → vs.length = kvs.length
  | [], vs, h => by
    have : vs = [] := h
    subst this; rfl
  | p :: r, vs, h => by
    obtain ⟨u, y, rfl, h1, h2⟩ := h
    simp [RepKV.len h2]
theorem o_set (hu : X.A.units + 1 < cLine) : PSet X (tSetD G) := by
  intro pins s σ H o i v ov iv u Q I ro ri ru q
  obtain ⟨w, d1, d2, d3, S', rfl, sr, r1, r2, r3, e, k⟩ := q
  unfold setD at e
  split at e
  · rename_i n
    split at e
    · rename_i l hn
      split at e
      · rename_i j
        split at e
        · rename_i jj hj
          cases e
          simp only [Rep] at r1 r2
          obtain ⟨a, hm, rfl⟩ := r1
          obtain ⟨vs, h1, h2⟩ := sr.obj n _ a hn hm
          refine set_list pins s σ w.H (.ref a) i v ov iv u Q I ro ri ru ⟨a, vs, j, jj, rfl, r2, h1, by rw [h2.length]; exact hj, ?_⟩
          obtain ⟨x, s'⟩ := set_obj (ob' := .lst (l.set jj d3)) (o := .lst (vs.set jj v)) sr hn trivial hm fun w' x e => ⟨_, e, RepL.mono x _ _ (h2.set jj r3)⟩
          exact k _ x rfl s'
        · cases e
      · cases e
    · rename_i kvs hn
      split at e
      · rename_i kk hk
        split at e
        · rename_i hz
          cases e
          have ek := keyOf_rep r2 hk
          subst ek
          simp only [Rep] at r1
          obtain ⟨a, hm, rfl⟩ := r1
          obtain ⟨vs, h1, h2⟩ := sr.obj n _ a hn hm
          refine set_dict hu pins s σ w.H (.ref a) (kV kk) v ov iv u Q I ro ri ru ⟨a, _, rfl, DPut.k h1 (by rw [h2.len]; exact hz), ?_⟩
          obtain ⟨x, s'⟩ := set_obj (ob' := .dK (putD kvs kk d3)) (o := .dK (putK vs kk v)) sr hn trivial hm fun w' x e => ⟨_, e, RepKV.mono x _ _ (h2.put kk r3)⟩
          exact k _ x rfl s'
        · cases e
      · cases e
    · cases e
  · cases e
theorem q_gsub {o i : Expr} {mo mi : ED} (hu : X.A.units + 1 < cLine) (ho : PE X o (tE G mo Wx)) (hi : PE X i (tE G mi Wx))
    (ha : ∀ v, assign (.Subscript o i pos) X.env v = (do
      let ov ← holding [v] (eval o X.env)
      let iv ← holding [v, ov] (eval i X.env)
      standAt pos
      holding [v, ov, iv] (setItem ov iv v)
      release [v, ov, iv] []) := by intro _; rfl) : PG X (.Subscript o i pos) (tG G (gSub mo mi)) := pgI (pg_sub ho hi (o_set hu) ha) fun v σ H Q q => by
  obtain ⟨w, env, d, rfl, sr, er, rp, p⟩ := q
  unfold gSub at p
  cases h1 : mo env w.S with
  | ok o S1 =>
    rw [h1] at p
    refine ⟨w, env, rfl, sr, er, ?_⟩
    rw [h1]
    intro vo w1 x1 e1 s1 ro
    subst e1
    simp only at p
    cases h2 : mi env w1.S with
    | ok i S2 =>
      rw [h2] at p
      refine ⟨w1, env, rfl, s1, er.mono x1, ?_⟩
      rw [h2]
      intro vi w2 x2 e2 s2 ri
      subst e2
      simp only at p
      cases h3 : setD o i d w2.S with
      | some S3 =>
        rw [h3] at p
        refine ⟨w2, o, i, d, S3, rfl, s2, Rep.mono x2 _ _ ro, ri, Rep.mono (WX'.trans x1 x2) _ _ rp, h3, fun w3 x3 e3 s3 => ?_⟩
        exact p σ w3 (WX'.trans (WX'.trans x1 x2) x3) e3 s3 (((er.mono x1).mono x2).mono x3)
      | none => rw [h3] at p; exact p.elim
    | exc _ _ => rw [h2] at p; exact p.elim
    | bad => rw [h2] at p; exact p.elim
  | exc _ _ => rw [h1] at p; exact p.elim
  | bad => rw [h1] at p; exact p.elim
theorem gn_sub {mo mi : ED} : GOk (gSub mo mi) := fun d env S => by
  unfold gSub
  cases mo env S with
  | ok o S1 =>
    simp only
    cases mi env S1 with
    | ok i S2 =>
      simp only
      cases setD o i d S2 with
      | some S3 => exact .inl ⟨_, _, rfl⟩
      | none => exact .inr rfl
    | exc _ _ => exact .inr rfl
    | bad => exact .inr rfl
  | exc _ _ => exact .inr rfl
  | bad => exact .inr rfl

/-! ### a, b = .. -/
theorem gNames_nx : ∀ {is : List Nat} {ds : List D} {env : EnvD} {S : Store}, (∃ env', gNames is ds env S = .nx env' S) ∨ gNames is ds env S = .bad
  | [], [], _, _ => .inl ⟨_, rfl⟩
  | [], _ :: _, _, _ => .inr rfl
  | _ :: _, [], _, _ => .inr rfl
  | i :: is, d :: ds, env, S => gNames_nx (is := is) (ds := ds) (env := env.set i (some d)) (S := S)
def tGs (G : GC) (is : List Nat) : TGs := fun vs σ H Q => ∃ w env ds env', w.H = H ∧ SRep G w ∧ ERep G w env σ ∧ RepL G w ds vs ∧ gNames is ds env w.S = .nx env' w.S ∧ ∀ σ', ERep G w env' σ' → Q σ' H
theorem pgsI {e : List Expr} {t t' : TGs} (h : PGs X e t) (i : ∀ v σ H Q, t' v σ H Q → t v σ H Q) : PGs X e t' := ⟨fun pins s σ H v u Q I r q => h.run pins s σ H v u Q I r (i _ _ _ _ q)⟩
theorem q_gsnil : PGs X [] (tGs G []) := pgsI pgs_nil fun v σ H Q q => by
  obtain ⟨w, env, ds, env', rfl, sr, er, rl, e, k⟩ := q
  cases ds with
  | nil =>
    simp only [RepL] at rl
    cases e
    exact ⟨rl, k σ er⟩
  | cons _ _ => cases e
theorem q_gscons {e : Expr} {es : List Expr} {i : Nat} {is : List Nat} (h1 : PG X e (L2.gName i)) (h2 : PGs X es (tGs G is))
    (hs : (assignEach (e :: es) X.env).map (·.2) = assign e X.env :: (assignEach es X.env).map (·.2) := by rfl) : PGs X (e :: es) (tGs G (i :: is)) := pgsI (pgs_cons h1 h2 hs) fun v σ H Q q => by
  obtain ⟨w, env, ds, env', rfl, sr, er, rl, e, k⟩ := q
  cases ds with
  | nil => cases e
  | cons d ds =>
    simp only [RepL] at rl
    obtain ⟨v, r, rfl, r1, r2⟩ := rl
    exact ⟨v, r, rfl, w, _, ds, env', rfl, sr, er.set i r1, r2, e, k⟩
theorem q_gtup {es : List Expr} {k : Nat} {is : List Nat} (hK : X.K = G.K) (hc : X.calm = true) (h : PGs X es (tGs G is)) (hn : (assignEach es X.env).length = is.length := by rfl) (hst : (assignEach es X.env).findIdx? (·.1) = none := by rfl) :
    PG X (.Tuple es k pos) (tG G (gTup is)) := pgI (pg_tup hc h hn hst) fun v σ H Q q => by
  obtain ⟨w, env, d, rfl, sr, er, rp, p⟩ := q
  cases d with
  | tup l =>
    simp only [Rep] at rp
    obtain ⟨a, vs, rfl, h1, rl⟩ := rp
    simp only [gTup] at p
    have ln : ∀ {is : List Nat} {l : List D} {env env' : EnvD} {S S' : Store}, gNames is l env S = .nx env' S' → l.length = is.length := by
      intro is
      induction is with
      | nil => intro l env env' S S' e; cases l with
        | nil => rfl
        | cons _ _ => cases e
      | cons i is ih => intro l env env' S S' e; cases l with
        | nil => cases e
        | cons d l => simp only [List.length_cons]; rw [ih e]
    rcases gNames_nx (is := is) (ds := l) (env := env) (S := w.S) with ⟨env', e⟩ | e
    · rw [e] at p
      refine ⟨a, vs, rfl, by rw [hK]; exact SqT_of h1, by rw [rl.length]; exact ln e, w, env, l, env', rfl, sr, er, rl, e, fun σ' er' => p σ' w (.refl _) rfl sr er'⟩
    · rw [e] at p; exact p.elim
  | _ => exact p.elim
theorem gn_name {i : Nat} : GOk (gName i) := fun d env S => .inl ⟨_, _, rfl⟩
theorem gn_tup {is : List Nat} : GOk (gTup is) := fun d env S => by
  cases d with
  | tup l =>
    rcases gNames_nx (is := is) (ds := l) (env := env) (S := S) with ⟨env', e⟩ | e
    · exact .inl ⟨env', S, e⟩
    · exact .inr e
  | _ => exact .inr rfl
/-- a, b = x, y: local names -/
def sPar (is : List Nat) (a : AD) : SD := fun env S => (a env S).toS env fun xs S1 => gNames is xs env S1
theorem q_par {i j : Nat} {x y : Str} {a b : Expr} {m : AD} {px py pt : Pos} {kt k2 pt2} (hc : X.calm = true) (hN : X.N.Nodup) (hi : X.N[i]? = some x) (hj : X.N[j]? = some y) (hij : i ≠ j)
    (hx : X.env.scope.names.lookup x = some .local) (hy : X.env.scope.names.lookup y = some .local) (ha : PA X [a, b] (tA G m Wx))
    (hw : swappedStores [.Tuple [.Name x px, .Name y py] kt pt] (.Tuple [a, b] k2 pt2) X.env = pure (some [x, y]))
    (hs : swapsWithSole [.Tuple [.Name x px, .Name y py] kt pt] (.Tuple [a, b] k2 pt2) pos.line X.env = pure false := by rfl) :
    PS X (.Assign [.Tuple [.Name x px, .Name y py] kt pt] (.Tuple [a, b] k2 pt2) pos) (tS G (sPar [i, j] m) Wx) := psI (ps_par hc hN hi hj hij hx hy ha hw hs) fun D σ H q => by
  obtain ⟨w, env, rfl, sr, er, p⟩ := q
  refine ⟨w, env, rfl, sr, er, (PostS.ofR (Ra := RepL G) er p).mono (fun x H1 m => ?_) fun _ _ _ h => h⟩
  obtain ⟨w1, ds, rfl, x1, s1, rl, p1⟩ := m
  match ds, rl with
  | [d1, d2], rl =>
    simp only [RepL] at rl
    obtain ⟨v1, r1, rfl, q1, v2, r2, rfl, q2, rfl⟩ := rl
    exact ⟨v1, v2, rfl, p1 _ w1 (.refl _) rfl s1 (((er.mono x1).set i q1).set j q2)⟩
  | [], _ => exact p1.elim
  | [_], _ => exact p1.elim
  | _ :: _ :: _ :: _, _ => exact p1.elim
theorem q_par3 {i j l : Nat} {x y z : Str} {a b c : Expr} {m : AD} {px py pz pt : Pos} {kt k2 pt2} (hc : X.calm = true) (hN : X.N.Nodup) (hi : X.N[i]? = some x) (hj : X.N[j]? = some y) (hl : X.N[l]? = some z) (hij : i ≠ j) (hil : i ≠ l) (hjl : j ≠ l)
    (hx : X.env.scope.names.lookup x = some .local) (hy : X.env.scope.names.lookup y = some .local) (hz : X.env.scope.names.lookup z = some .local) (ha : PA X [a, b, c] (tA G m Wx))
    (hw : swappedStores [.Tuple [.Name x px, .Name y py, .Name z pz] kt pt] (.Tuple [a, b, c] k2 pt2) X.env = pure (some [x, y, z]))
    (hs : swapsWithSole [.Tuple [.Name x px, .Name y py, .Name z pz] kt pt] (.Tuple [a, b, c] k2 pt2) pos.line X.env = pure false := by rfl) :
    PS X (.Assign [.Tuple [.Name x px, .Name y py, .Name z pz] kt pt] (.Tuple [a, b, c] k2 pt2) pos) (tS G (sPar [i, j, l] m) Wx) := psI (ps_par3 hc hN hi hj hl hij hil hjl hx hy hz ha hw hs) fun D σ H q => by
  obtain ⟨w, env, rfl, sr, er, p⟩ := q
  refine ⟨w, env, rfl, sr, er, (PostS.ofR (Ra := RepL G) er p).mono (fun x H1 m => ?_) fun _ _ _ h => h⟩
  obtain ⟨w1, ds, rfl, x1, s1, rl, p1⟩ := m
  match ds, rl with
  | [d1, d2, d3], rl =>
    simp only [RepL] at rl
    obtain ⟨v1, r1, rfl, q1, v2, r2, rfl, q2, v3, r3, rfl, q3, rfl⟩ := rl
    exact ⟨v1, v2, v3, rfl, p1 _ w1 (.refl _) rfl s1 ((((er.mono x1).set i q1).set j q2).set l q3)⟩
  | [], _ => exact p1.elim
  | [_], _ => exact p1.elim
  | [_, _], _ => exact p1.elim
  | _ :: _ :: _ :: _ :: _, _ => exact p1.elim
end
end L3
namespace L3
open PySem PySem.Spec PyProof.Rows L2
/-! ### callees, constants, names of built-ins -/
structure Cal (P : Program) (w : World) (G : GC) (base : Heap) (k : Nat) (x : Str) (f : Addr) (fd : FuncData) (ps : List Str) (F : FN) : Prop where
  ok : FnG P w G.K G.mg base k f fd ps (spOf G F)
  m : G.mg x = some (.ref f)
  kp : PySem.W.keepIn G.K (.ref f) = true
/-- how the last parameters are filled by defaults -/
def Bnd (G : GC) (fd : FuncData) (ps : List Str) (dds : List D) : Prop := ∃ dvs ds, Vals dvs ds ∧ Binds G.K fd ps ds ∧ ∀ w, RepL G w dds dvs
theorem bnd0 {G : GC} {fd : FuncData} {ps : List Str} (h : Binds G.K fd ps []) : Bnd G fd ps [] := ⟨[], [], .nil, h, fun w => by simp [RepL]⟩
/-- keywords: ds the positional values, es the keywords' values -/
def Kbd (G : GC) (fd : FuncData) (ps : List Str) (n : Nat) (ks : List Str) (gD : List D → List D → List D) : Prop :=
  ∃ g gV, KBn G.K fd ps n ks g gV ∧ ∀ w ds es vs zs, ds.length = n → es.length = ks.length → RepL G w ds vs → RepL G w es zs → RepL G w (gD ds es) (gV vs zs)
def GRep (G : GC) (x : Str) (d : D) : Prop := ∃ u v, G.mg x = some u ∧ RelV v u ∧ ∀ w, Rep G w d v
def kwK (F : FN) (n m : Nat) (gD : List D → List D → List D) : List D → FN := fun xs zs S => if xs.length = n ∧ zs.length = m then F (gD xs zs) S else .bad
/-- f(.., k = v): positional values, then the keywords' -/
def eKw (f : List D → FN) (a b : AD) : ED := fun env S => (a env S).bind fun xs S1 => (b env S1).bind fun zs S2 => f xs zs S2
theorem u65 {k : Nat} {A : Around} (h : RoomG k A) : A.units + 65 < cLine := by have := h.rm.un; omega
theorem u150 {k : Nat} {A : Around} (h : RoomG k A) : A.units + 150 < cLine := by have := h.rm.un; omega
theorem u1 {k : Nat} {A : Around} (h : RoomG k A) : A.units + 1 < cLine := by have := h.rm.un; omega
section
variable {X : Cx} {G : GC} {Wx : WX} {pos p : Pos} {k : Nat} {f : Addr} {fd : FuncData} {ps : List Str} {F : FN} {x : Str} {e : Expr} {es : List Expr} {dds : List D} {m : AD} {P : Program} {w : World} {base : Heap}
/-- a call by place -/
theorem q_fn (c : Cal X.prog X.w G X.base k x f fd ps F) (b : Bnd G fd ps dds) (hr : RoomG k X.A) (hK : X.K = G.K) (hm : X.mg = G.mg) (hg : Gl X x) (tk : Takes X Wx)
    (ha : PA X (e :: es) (tA G m Wx)) (hdb : (x == ("__debug__" : Str)) = false := by decide) (he : starEach (e :: es) X.env = (false, eval e X.env) :: starEach es X.env := by rfl) (hpl : (backTo pos (starEach es X.env)).any (·.1) = false := by rfl) :
    PE X (.Call (.Name x p) (e :: es) [] pos) (tE G (eN (callK F dds) m) Wx) := by
  obtain ⟨dvs, ds, h1, h2, h3⟩ := b
  exact q_call (by rw [hK, hm]; exact c.ok) hr hg (by rw [hm]; exact c.m) (by rw [hK]; exact c.kp) (by rw [hK]; exact h2) h1 h3 tk ha hdb he hpl
theorem q_fn0 (c : Cal X.prog X.w G X.base k x f fd ps F) (b : Bnd G fd ps dds) (hr : RoomG k X.A) (hK : X.K = G.K) (hm : X.mg = G.mg) (hg : Gl X x) (tk : Takes X Wx)
    (hdb : (x == ("__debug__" : Str)) = false := by decide) : PE X (.Call (.Name x p) [] [] pos) (tE G (eN (callK F dds) aNil) Wx) := by
  obtain ⟨dvs, ds, h1, h2, h3⟩ := b
  exact q_call0 (by rw [hK, hm]; exact c.ok) hr hg (by rw [hm]; exact c.m) (by rw [hK]; exact c.kp) (by rw [hK]; exact h2) h1 h3 tk hdb
/-- a call of a name that holds the def x -/
def eFnL (i : Nat) (x : Str) (F : FN) (a : AD) : ED := fun env S => match env[i]? with
  | some (some (.glb y)) => if y = x then (a env S).bind fun xs S1 => F xs S1 else .bad
  | _ => .bad
theorem q_fnL {i : Nat} {y : Str} (c : Cal X.prog X.w G X.base k x f fd ps F) (b : Bnd G fd ps []) (hr : RoomG k X.A) (hK : X.K = G.K) (hm : X.mg = G.mg) (hN : X.N[i]? = some y) (hv : Vis X.env.scope y) (tk : Takes X Wx)
    (ha : PA X (e :: es) (tA G m Wx)) (hdb : (y == ("__debug__" : Str)) = false := by decide) (hcd : (y == ("__classdict__" : Str)) = false := by decide)
    (he : starEach (e :: es) X.env = (false, eval e X.env) :: starEach es X.env := by rfl) (hpl : (backTo pos (starEach es X.env)).any (·.1) = false := by rfl) : PE X (.Call (.Name y p) (e :: es) [] pos) (tE G (eFnL i x F m) Wx) := by
  obtain ⟨dvs, ds, h1, h2, h3⟩ := b
  have e0 : dvs = [] := by
    have := h3 ⟨[], [], fun _ => none, []⟩
    simpa [RepL] using this
  subst e0
  refine ⟨fun pins s σ H Q I q => ?_⟩
  obtain ⟨wd, env, rfl, sr, er, pp⟩ := q
  unfold eFnL at pp
  split at pp
  · rename_i z hz
    split at pp
    · rename_i ez
      subst ez
      obtain ⟨v, hs, rv⟩ := er.at' i _ hz
      simp only [Rep] at rv
      obtain ⟨u, hu, ru⟩ := rv
      rw [c.m] at hu
      cases hu
      have hv' : v = .ref f := by
        cases v <;> first | (obtain ⟨_, q⟩ := ru; cases q) | (cases ru; rfl) | cases ru
      subst hv'
      refine wpAny_Call_Name_kw (thn ((pe_var (pos := p) hN hv hdb hcd).run pins s σ wd.H (fun v H1 => v = .ref f ∧ H1 = wd.H) I ⟨.ref f, hs, rfl, rfl⟩) fun u s1 ⟨v, H1, I1, r1, q1⟩ => ?_)
      obtain ⟨rfl, rfl⟩ := q1
      cases r1
      have kp : PySem.W.keepIn X.K (.ref f) = true := by rw [hK]; exact c.kp
      refine PySem.W.callWith_K (h₀ := X.base) I.ok.mod.kin kp (thn (ha.run pos pins s1 σ _ _ I1 ⟨wd, env, rfl, sr, er, Post.bind pp⟩) fun us s2 ⟨vs, H2, I2, r, q⟩ => ⟨I2.kIn, ?_⟩) he hpl
      obtain ⟨w1, d1, rfl, x1, s1', rp1, p1⟩ := q
      exact FnG.byPlace (E := WE Wx) (sp := spOf G F) (dvs := []) (by rw [hK, hm]; exact c.ok) hr (by rw [hK]; exact h2) h1 (passAt tk σ) I2 r ⟨w1, d1, rfl, s1', by simpa using rp1, p1⟩
    · exact pp.elim
  · exact pp.elim
/-- keywords' values -/
structure QK (X : Cx) (G : GC) (Wx : WX) (kws : List Keyword) (m : AD) : Prop where
  pk : PK X kws (tA G m Wx)
theorem q_knil : QK X G Wx [] aNil := ⟨⟨fun po pins s σ H Q I q => by
  obtain ⟨w, env, rfl, sr, er, p⟩ := q
  exact pk_nil.run po pins s σ w.H Q I (Post.ret (Ra := RepL G) sr (by simp [RepL]) p)⟩⟩
theorem q_kcons {kws : List Keyword} {nm : Option Str} {kpos : Pos} {a : ED} {b : AD} (ha : PE X e (tE G a Wx)) (hr : QK X G Wx kws b) : QK X G Wx (⟨nm, e, kpos⟩ :: kws) (aCons a b) := ⟨⟨fun po pins s σ H Q I q => by
  refine (pk_cons (nm := nm) (kpos := kpos) ha hr.pk).run po pins s σ H Q I ?_
  obtain ⟨w, env, rfl, sr, er, p⟩ := q
  refine ⟨w, env, rfl, sr, er, (Post.bind (Ra := Rep G) p).mono (fun x H1 m => ?_) fun _ _ _ h => h⟩
  obtain ⟨w1, d1, rfl, x1, s1, rp1, p1⟩ := m
  refine ⟨w1, env, rfl, s1, er.mono x1, (Post.bind (Ra := RepL G) p1).mono (fun y H2 m => ?_) fun _ _ _ h => h⟩
  obtain ⟨w2, d2, rfl, x2, s2, rp2, p2⟩ := m
  exact Post.ret (Ra := RepL G) (a := d1 :: d2) s2 (by simp only [RepL]; exact ⟨x, y, rfl, Rep.mono x2 _ _ rp1, rp2⟩) p2⟩⟩
/-- a call with keywords -/
theorem q_fnK {kws : List Keyword} {n : Nat} {ks : List Str} {gD : List D → List D → List D} {b : AD} (c : Cal X.prog X.w G X.base k x f fd ps F) (hb : Kbd G fd ps n ks gD) (hr : RoomG k X.A) (hK : X.K = G.K) (hm : X.mg = G.mg) (hg : Gl X x) (tk : Takes X Wx)
    (ha : PA X (e :: es) (tA G m Wx)) (hkw : QK X G Wx kws b) (hall : (backToKw pos (keywordEach kws X.env)).all (·.1.isSome) = true := by rfl) (hks : (backToKw pos (keywordEach kws X.env)).filterMap (·.1) = ks := by rfl)
    (hdb : (x == ("__debug__" : Str)) = false := by decide) (he : starEach (e :: es) X.env = (false, eval e X.env) :: starEach es X.env := by rfl)
    (hpl : ((backTo pos (starEach (e :: es) X.env)).any (·.1) || (backToKw pos (keywordEach kws X.env)).any (·.1.isNone)) = false := by rfl) :
    PE X (.Call (.Name x p) (e :: es) kws pos) (tE G (eKw (kwK F n ks.length gD) m b) Wx) := by
  obtain ⟨g, gV, hn, hrep⟩ := hb
  have ok := c.ok
  rw [← hK, ← hm] at ok
  have kp : PySem.W.keepIn X.K (.ref f) = true := by rw [hK]; exact c.kp
  rw [← hK] at hn
  refine ⟨fun pins s σ H Q I q => ?_⟩
  obtain ⟨wd, env, rfl, sr, er, pp⟩ := q
  refine wpAny_Call_Name_kw (ld_glob I hg (by rw [hm]; exact c.m) ?_ hdb)
  refine PySem.W.callWith_KW (h₀ := X.base) I.ok.mod.kin kp hall (thn (ha.run pos pins s σ wd.H _ I ⟨wd, env, rfl, sr, er, Post.bind (Ra := RepL G) pp⟩) fun us s1 ⟨vs, H1, I1, r, q⟩ => ?_) hpl he
  obtain ⟨w1, d1, rfl, x1, s1', rp1, p1⟩ := q
  refine thn (hkw.pk.run pos pins s1 σ w1.H _ I1 ⟨w1, env, rfl, s1', er.mono x1, Post.bind (Ra := RepL G) p1⟩) fun ws s2 ⟨zs, H2, I2, rz, q2⟩ => ⟨I2.kIn, ?_⟩
  obtain ⟨w2, d2, rfl, x2, s2', rp2, p2⟩ := q2
  rw [hks]
  unfold kwK at p2
  split at p2
  · rename_i hl
    have r2 := hn.rel r rz
    refine wpAny_call (codeAny_mono (FnG.called (E := WE Wx) ok hr (passAt tk σ) I2 (hn.to s2 us ws I2.kIn ?_ ?_) (hn.rel r rz) ⟨w2, gD d1 d2, rfl, s2', hrep w2 d1 d2 vs zs hl.1 hl.2 (RepL.mono x2 _ _ rp1) rp2, p2⟩) fun r s' hq => ?_)
    · rw [← r.length, rp1.length]; exact hl.1
    · rw [← rz.length, rp2.length]; exact hl.2
    · match r, hq with
      | .error e, hq => exact hq
      | .ok (.ret u), hq => exact hq
  · exact p2.elim
/-- the same with keywords alone -/
theorem q_cst {d : D} (h : GRep G x d) (hm : X.mg = G.mg) (hg : Gl X x) (hd : (x == ("__debug__" : Str)) = false := by decide) : PE X (.Name x pos) (tE G (eK d) Wx) := by
  obtain ⟨u, v, h1, h2, h3⟩ := h
  exact q_const (pe_glob hg (by rw [hm]; exact h1) h2 hd) h3
theorem q_fnv {u : Value} (h : G.mg x = some u) (r : ∃ v, RelV v u) (hm : X.mg = G.mg) (hg : Gl X x) (hd : (x == ("__debug__" : Str)) = false := by decide) : PE X (.Name x pos) (tE G (eK (.glb x)) Wx) := by
  obtain ⟨v, r⟩ := r
  exact q_const (pe_glob hg (by rw [hm]; exact h) r hd) fun w => by simp only [Rep]; exact ⟨u, h, r⟩
theorem q_ty {T : String} (hm : X.mg x = none) (hv : bootBuiltins x = some (.type T)) (hg : Gl X x) (hn : x ≠ "__name__" := by decide) (hd : (x == ("__debug__" : Str)) = false := by decide) : PE X (.Name x pos) (tE G (eK (.ty T)) Wx) :=
  q_const (pe_bltn (v := .ty T) hg hm hv rfl hn hd) fun w => by simp [Rep]
theorem q_tb {e : Expr} {m : TD} (h : PW X e (tT G m Wx)) : PT X e (tT G m Wx) := h.pt
theorem w_and1 {a : Expr} {ma : TD} (h : PT X a (tT G ma Wx)) : PW X (.BoolOp .And [a] pos) (tT G ma Wx) := pw_and1 h
theorem w_or1 {a : Expr} {ma : TD} (h : PT X a (tT G ma Wx)) : PW X (.BoolOp .Or [a] pos) (tT G ma Wx) := pw_or1 h
theorem w_and {a b : Expr} {rest : List Expr} {ma mb : TD} (ha : PT X a (tT G ma Wx)) (hb : PW X (.BoolOp .And (b :: rest) pos) (tT G mb Wx)) : PW X (.BoolOp .And (a :: b :: rest) pos) (tT G (tAnd ma mb) Wx) := pwI (pw_and ha hb) imp_and
theorem w_or {a b : Expr} {rest : List Expr} {ma mb : TD} (ha : PT X a (tT G ma Wx)) (hb : PW X (.BoolOp .Or (b :: rest) pos) (tT G mb Wx)) : PW X (.BoolOp .Or (a :: b :: rest) pos) (tT G (tOr ma mb) Wx) := pwI (pw_or ha hb) imp_or
end
theorem b_len : bootBuiltins "len" = some (.builtin "len") := by decide +kernel
theorem b_isinstance : bootBuiltins "isinstance" = some (.builtin "isinstance") := by decide +kernel
theorem b_all : bootBuiltins "all" = some (.builtin "all") := by decide +kernel
theorem b_any : bootBuiltins "any" = some (.builtin "any") := by decide +kernel
theorem b_sum : bootBuiltins "sum" = some (.builtin "sum") := by decide +kernel
theorem b_max : bootBuiltins "max" = some (.builtin "max") := by decide +kernel
theorem b_min : bootBuiltins "min" = some (.builtin "min") := by decide +kernel
theorem b_abs : bootBuiltins "abs" = some (.builtin "abs") := by decide +kernel
theorem b_int : bootBuiltins "int" = some (.type "int") := by decide +kernel
theorem b_bool : bootBuiltins "bool" = some (.type "bool") := by decide +kernel
theorem b_str : bootBuiltins "str" = some (.type "str") := by decide +kernel
theorem b_tuple : bootBuiltins "tuple" = some (.type "tuple") := by decide +kernel
theorem b_list : bootBuiltins "list" = some (.type "list") := by decide +kernel
theorem b_dict : bootBuiltins "dict" = some (.type "dict") := by decide +kernel
end L3
set_option Elab.async false
set_option linter.all false
set_option maxRecDepth 100000
/-! L3L: dict displays, methods of texts and dicts. -/
namespace L3
open PySem PySem.Spec PyProof.Rows L2

section
variable {G : GC} {X : Cx} {Wx : WX} {pos : Pos} {w : Wd}
/-- what was in the making at p is done: it becomes whatever stands there now -/
theorem tmp_off {w0 w2 : Wd} {p : Addr} {H' : Hp} (s0 : SRep G w0) (hp : w0.H p = none) (x : WX' [p] w0 w2) (s2 : SRep G w2) (tm : p ∈ w2.tmp) (hH : ∀ b, b ≠ p → H' b = w2.H b) :
    WExt w0 ⟨w2.mu, w2.S, H', w0.tmp⟩ ∧ SRep G ⟨w2.mu, w2.S, H', w0.tmp⟩ ∧ (∀ d v, Rep G w2 d v → Rep G ⟨w2.mu, w2.S, H', w0.tmp⟩ d v) ∧ (∀ d v, RepL G w2 d v → RepL G ⟨w2.mu, w2.S, H', w0.tmp⟩ d v) ∧ ¬ Mut ⟨w2.mu, w2.S, H', w0.tmp⟩ p := by
  have np : p ∉ w0.tmp := fun z => by obtain ⟨⟨u, e⟩, _⟩ := s0.tm p z; rw [hp] at e; cases e
  have nm : ¬ MutS w2 p := (s2.tm p tm).2
  have x1 : WX' [p] w2 ⟨w2.mu, w2.S, H', w2.tmp⟩ := ⟨fun _ _ h => h, fun a o h nm ha => ⟨(hH a (by simpa using ha)).trans h, nm⟩, fun a h => .inl h, fun a h => h⟩
  have tk : Tok [p] w2 := fun a h => .inl (by have : a = p := by simpa using h
                                              rw [this]; exact tm)
  have inc : ∀ a, a ∈ w0.tmp → a ∈ w2.tmp := x.tmp'
  have s1 : SRep G ⟨w2.mu, w2.S, H', w0.tmp⟩ := by
    refine ⟨s2.len, s2.inj, fun n ob a h1 h2 => ?_, fun a ha => ?_⟩
    · have h := s2.obj n ob a h1 h2
      exact ORep.untmp (t := w0.tmp) (w := ⟨w2.mu, w2.S, H', w2.tmp⟩) inc (h.keep x1 tk fun lv => hH a fun e => nm (by subst e; exact ⟨n, ob, h1, lv, h2⟩))
    · obtain ⟨⟨u, e⟩, q⟩ := s2.tm a (inc a ha)
      exact ⟨⟨u, (hH a fun z => np (z ▸ ha)).trans e⟩, q⟩
  refine ⟨⟨x.mu, fun a o h nmS _ => ?_, fun a h => .inl h, fun a h => h⟩, s1, fun d v h => Rep.untmp (t := w0.tmp) (w := ⟨w2.mu, w2.S, H', w2.tmp⟩) inc d v (Rep.monoT x1 tk d v h), fun d v h => RepL.untmp (t := w0.tmp) (w := ⟨w2.mu, w2.S, H', w2.tmp⟩) inc d v (RepL.monoT x1 tk d v h), fun m => m.elim nm np⟩
  have ha : a ≠ p := fun e => by rw [e, hp] at h; cases h
  obtain ⟨h1, h2⟩ := x.keep a o h nmS (by simpa using ha)
  exact ⟨(hH a ha).trans h1, h2⟩
/-- something comes to be made at p -/
theorem tmp_on {p : Addr} {o : HO} (s0 : SRep G w) (hp : w.H p = none) : WX' [p] w ⟨w.mu, w.S, upd w.H p o, p :: w.tmp⟩ ∧ SRep G ⟨w.mu, w.S, upd w.H p o, p :: w.tmp⟩ ∧ (∀ d v, Rep G w d v → Rep G ⟨w.mu, w.S, upd w.H p o, p :: w.tmp⟩ d v) := by
  have h0 : WX' [p] w ⟨w.mu, w.S, upd w.H p o, p :: w.tmp⟩ :=
    ⟨fun _ _ h => h, fun a o h nm ha => ⟨(upd_ne (by simpa using ha)).trans h, nm⟩, fun a h => by
      rcases List.mem_cons.mp h with e | h
      · exact .inr (by simp [e])
      · exact .inl h, fun a h => List.mem_cons_of_mem _ h⟩
  have tk : Tok [p] w := fun a h => .inr (by have : a = p := by simpa using h
                                             rw [this]; exact hp)
  have nL : ¬ MutS w p := fun m => by obtain ⟨u, e⟩ := MutS.there s0 m; rw [hp] at e; cases e
  refine ⟨h0, ⟨s0.len, s0.inj, fun n ob a h1 h2 => ?_, fun a ha => ?_⟩, fun d v h => Rep.monoT h0 tk d v h⟩
  · have h := s0.obj n ob a h1 h2
    refine h.keep h0 tk fun lv => ?_
    obtain ⟨u, e⟩ := h.there lv
    exact upd_ne (ne_of_none e hp)
  · rcases List.mem_cons.mp ha with e | ha
    · subst e; exact ⟨⟨_, upd_same⟩, nL⟩
    · obtain ⟨⟨u, e⟩, nm⟩ := s0.tm a ha
      exact ⟨⟨u, (upd_ne (ne_of_none e hp)).trans e⟩, nm⟩

/-! ### {k: v, ..} -/
def mergeD (kvs more : List (Key × D)) : List (Key × D) := more.foldl (fun acc kv => putD acc kv.1 kv.2) kvs
def pairsD : List (ED × ED) → EnvD → Store → R (List (D × D))
  | [], _, S => .ok [] S
  | (k, v) :: r, env, S => (k env S).bind fun x S1 => (v env S1).bind fun y S2 => (pairsD r env S2).bind fun ps S3 => .ok ((x, y) :: ps) S3
def keyed : List (D × D) → Option (List (Key × D))
  | [] => some []
  | p :: r => match keyOf p.1, keyed r with
    | some k, some ks => some ((k, p.2) :: ks)
    | _, _ => none
/-- a dict that stays -/
def eDic (ps : List (ED × ED)) : ED := fun env S => (pairsD ps env S).nox.bind fun xs S1 => match keyed xs with
  | some kvs => if kvs.length ≤ 15 then .ok (.dic ((mergeD [] kvs).map (·.1)) ((mergeD [] kvs).map (·.2))) S1 else .bad
  | none => .bad
/-- a dict that will be changed -/
def eDct (ps : List (ED × ED)) : ED := fun env S => (pairsD ps env S).nox.bind fun xs S1 => match keyed xs with
  | some kvs => if kvs.length ≤ 15 then .ok (.obj S1.length) (S1 ++ [.dK (mergeD [] kvs)]) else .bad
  | none => .bad
theorem RepKV.merge : ∀ {more : List (Key × D)} {mv : List (Key × V)} {kvs : List (Key × D)} {vs : List (Key × V)}, RepKV G w more mv → RepKV G w kvs vs → RepKV G w (mergeD kvs more) (mergeK vs mv)
  | [], mv, kvs, vs, h, h' => by
    have : mv = [] := h
    subst this; exact h'
  | p :: r, mv, kvs, vs, h, h' => by
    obtain ⟨u, z, rfl, h1, h2⟩ := h
    show RepKV G w (mergeD (putD kvs p.1 p.2) r) (mergeK (putK vs p.1 u) z)
    exact RepKV.merge h2 (h'.put p.1 h1)
theorem RepKV.parts {κ : Type} : ∀ {kvs : List (κ × D)} {vs : List (κ × V)}, RepKV G w kvs vs → ∃ us, vs = (kvs.map (·.1)).zip us ∧ RepL G w (kvs.map (·.2)) us
  | [], vs, h => by
    have : vs = [] := h
    subst this; exact ⟨[], rfl, by simp [RepL]⟩
  | p :: r, vs, h => by
    obtain ⟨u, z, rfl, h1, h2⟩ := h
    obtain ⟨us, rfl, h3⟩ := RepKV.parts h2
    exact ⟨u :: us, rfl, by simp only [List.map_cons, RepL]; exact ⟨u, us, rfl, h1, h3⟩⟩
/-- pairs of values -/
def RepP (G : GC) (w : Wd) : List (D × D) → List (V × V) → Prop
  | [], x => x = []
  | p :: r, x => ∃ a b y, x = (a, b) :: y ∧ Rep G w p.1 a ∧ Rep G w p.2 b ∧ RepP G w r y
theorem RepP.mono {w' : Wd} (x : WExt w w') : ∀ {d : List (D × D)} {v : List (V × V)}, RepP G w d v → RepP G w' d v
  | [], v, h => h
  | p :: r, v, h => by
    obtain ⟨a, b, y, rfl, h1, h2, h3⟩ := h
    exact ⟨a, b, y, rfl, Rep.mono x _ _ h1, Rep.mono x _ _ h2, RepP.mono x h3⟩
theorem RepP.keyed : ∀ {ps : List (D × D)} {vs : List (V × V)} {kvs : List (Key × D)}, RepP G w ps vs → keyed ps = some kvs → ∃ ks, vs = ks.map (fun kv => (kV kv.1, kv.2)) ∧ RepKV G w kvs ks
  | [], vs, kvs, h, e => by
    have : vs = [] := h
    cases e
    subst this; exact ⟨[], rfl, rfl⟩
  | p :: r, vs, kvs, h, e => by
    obtain ⟨a, b, y, rfl, h1, h2, h3⟩ := h
    simp only [L3.keyed] at e
    split at e
    · rename_i k ks hk hks
      cases e
      obtain ⟨us, rfl, q⟩ := RepP.keyed h3 hks
      exact ⟨(k, b) :: us, by simp [keyOf_rep h1 hk], ⟨b, us, rfl, h2, q⟩⟩
    · cases e
/-- the pairs of a display -/
structure QP (X : Cx) (G : GC) (Wx : WX) (pos : Pos) (ks : List (Option Expr)) (vs : List Expr) (ps : List (ED × ED)) : Prop where
  ex : ∃ trs, PPs X pos ks vs trs ∧ ∀ σ H Q, (∃ w env, w.H = H ∧ SRep G w ∧ ERep G w env σ ∧ Post G w (pairsD ps env w.S) (RepP G) Q (fun C dx H' => Wx C dx σ H')) → tPairs trs σ H Q
theorem q_pnil : QP X G Wx pos [] [] [] := ⟨[], pps_nil, fun σ H Q ⟨w, env, eH, sr, er, p⟩ => by
  subst eH
  exact Post.ret (Ra := RepP G) (a := []) (b := []) sr (show ([] : List (V × V)) = [] from rfl) p⟩
theorem q_pcons {k v : Expr} {ks : List (Option Expr)} {vs : List Expr} {mk mv : ED} {ps : List (ED × ED)} (hk : PE X k (tE G mk Wx)) (hv : PE X v (tE G mv Wx)) (hr : QP X G Wx pos ks vs ps) : QP X G Wx pos (some k :: ks) (v :: vs) ((mk, mv) :: ps) := by
  obtain ⟨trs, h1, h2⟩ := hr.ex
  refine ⟨_, pps_cons hk hv h1, fun σ H Q ⟨w, env, eH, sr, er, p⟩ => ?_⟩
  subst eH
  refine ⟨w, env, rfl, sr, er, (Post.bind (Ra := Rep G) p).mono (fun x H1 m => ?_) fun _ _ _ h => h⟩
  obtain ⟨w1, d1, rfl, x1, s1, r1, p1⟩ := m
  refine ⟨w1, env, rfl, s1, er.mono x1, (Post.bind (Ra := Rep G) p1).mono (fun y H2 m => ?_) fun _ _ _ h => h⟩
  obtain ⟨w2, d2, rfl, x2, s2, r2, p2⟩ := m
  refine h2 σ w2.H _ ⟨w2, env, rfl, s2, (er.mono x1).mono x2, (Post.bind (Ra := RepP G) p2).mono (fun zs H3 m => ?_) fun _ _ _ h => h⟩
  obtain ⟨w3, d3, rfl, x3, s3, r3, p3⟩ := m
  exact Post.ret (Ra := RepP G) (a := (d1, d2) :: d3) s3 ⟨x, y, zs, rfl, Rep.mono (WX'.trans x2 x3) _ _ r1, Rep.mono x3 _ _ r2, r3⟩ p3
theorem disp_mid {ps : List (ED × ED)} {trs : List (TE × TE)} {f : List (D × D) → Store → R D} (ht : ∀ σ H Q, (∃ w env, w.H = H ∧ SRep G w ∧ ERep G w env σ ∧ Post G w (pairsD ps env w.S) (RepP G) Q (fun C dx H' => Wx C dx σ H')) → tPairs trs σ H Q)
    {σ : L2.St} {Q : VK} {env : EnvD} (sr : SRep G w) (er : ERep G w env σ) (p : Post G w ((pairsD ps env w.S).nox.bind f) (Rep G) Q (fun C dx H' => Wx C dx σ H'))
    (fin : ∀ (a : Addr) (w2 : Wd) (xs : List (D × D)) (vs : List (V × V)), w.H a = none → WX' [a] w w2 → SRep G w2 → a ∈ w2.tmp → w2.H a = some (.dK []) → RepP G w2 xs vs → Post G w (f xs w2.S) (Rep G) Q (fun C dx H' => Wx C dx σ H') →
      ∃ kvs : List (Key × V), vs = kvs.map (fun kv => (kV kv.1, kv.2)) ∧ kvs.length ≤ 15 ∧ Q (.ref a) (upd w2.H a (.dK (mergeK [] kvs)))) : tDisp trs σ w.H Q := by
  intro a ha
  obtain ⟨x0, s0, r0⟩ := tmp_on (o := .dK []) sr ha
  refine ht σ _ _ ⟨⟨w.mu, w.S, upd w.H a (.dK []), a :: w.tmp⟩, env, rfl, s0, ⟨er.len, fun i d e => let ⟨v, h1, h2⟩ := er.at' i d e; ⟨v, h1, r0 d v h2⟩⟩, ?_⟩
  show Post G _ (pairsD ps env w.S) (RepP G) _ _
  cases h : pairsD ps env w.S with
  | ok xs S' =>
    rw [h] at p
    intro vs w2 x2 e2 s2 r2
    subst e2
    have tm : a ∈ w2.tmp := x2.tmp' a (by simp)
    have hp : w2.H a = some (.dK []) := (x2.keep a _ upd_same (s0.tm a (by simp)).2 (by simp)).1
    exact ⟨hp, fin a w2 xs vs ha (WX'.trans x0 (WX'.wide x2)) s2 tm hp r2 p⟩
  | exc e S' => rw [h] at p; exact p.elim
  | bad => rw [h] at p; exact p.elim
theorem q_dic {ks : List (Option Expr)} {vs : List Expr} {ps : List (ED × ED)} (h : QP X G Wx pos ks vs ps) (hall : ks.all (·.isSome) = true) (hl : ks.length = vs.length) (h0 : ks ≠ []) (h15 : ks.length ≤ 15) : PE X (.Dict ks vs pos) (tE G (eDic ps) Wx) := by
  obtain ⟨trs, h1, h2⟩ := h.ex
  refine peI (pe_disp h1 hall hl h0 h15) fun σ H Q q => ?_
  obtain ⟨w, env, rfl, sr, er, p⟩ := q
  refine disp_mid h2 sr er p fun a w2 xs us ha x s2 tm hp r2 p => ?_
  split at p
  · rename_i kvs hk
    split at p
    · rename_i hz
      obtain ⟨ks', rfl, rk⟩ := r2.keyed hk
      have len : ∀ {kvs : List (Key × D)} {ks : List (Key × V)} {w : Wd}, RepKV G w kvs ks → ks.length = kvs.length := by
        intro kvs
        induction kvs with
        | nil => intro ks w h; have : ks = [] := h; subst this; rfl
        | cons p r ih => intro ks w h; obtain ⟨u, z, rfl, _, h2⟩ := h; simp [ih h2]
      refine ⟨ks', rfl, by rw [len rk]; exact hz, ?_⟩
      obtain ⟨us, e1, r3⟩ := (RepKV.merge rk (kvs := []) (vs := []) rfl).parts
      obtain ⟨x1, s1, f1, f2, nm⟩ := tmp_off (H' := upd w2.H a (.dK (mergeK [] ks'))) sr ha x s2 tm fun b hb => upd_ne hb
      refine p (.ref a) _ x1 rfl s1 ?_
      simp only [Rep]
      exact ⟨a, us, rfl, by rw [← e1]; exact upd_same, nm, by simp, f2 _ _ r3⟩
    · exact p.elim
  · exact p.elim
theorem q_dct {ks : List (Option Expr)} {vs : List Expr} {ps : List (ED × ED)} (h : QP X G Wx pos ks vs ps) (hall : ks.all (·.isSome) = true) (hl : ks.length = vs.length) (h0 : ks ≠ []) (h15 : ks.length ≤ 15) : PE X (.Dict ks vs pos) (tE G (eDct ps) Wx) := by
  obtain ⟨trs, h1, h2⟩ := h.ex
  refine peI (pe_disp h1 hall hl h0 h15) fun σ H Q q => ?_
  obtain ⟨w, env, rfl, sr, er, p⟩ := q
  refine disp_mid h2 sr er p fun a w2 xs us ha x s2 tm hp r2 p => ?_
  split at p
  · rename_i kvs hk
    split at p
    · rename_i hz
      obtain ⟨ks', rfl, rk⟩ := r2.keyed hk
      have len : ∀ {kvs : List (Key × D)} {ks : List (Key × V)} {w : Wd}, RepKV G w kvs ks → ks.length = kvs.length := by
        intro kvs
        induction kvs with
        | nil => intro ks w h; have : ks = [] := h; subst this; rfl
        | cons p r ih => intro ks w h; obtain ⟨u, z, rfl, _, h2⟩ := h; simp [ih h2]
      refine ⟨ks', rfl, by rw [len rk]; exact hz, ?_⟩
      have rm := RepKV.merge rk (kvs := []) (vs := []) rfl
      obtain ⟨x1, s1, f1, f2, nm⟩ := tmp_off (H' := fun b => if b = a then none else w2.H b) sr ha x s2 tm fun b hb => if_neg hb
      obtain ⟨us, e1, r3⟩ := rm.parts
      have back : ∀ {kvs : List (Key × D)} {us : List V} {w' : Wd}, RepL G w' (kvs.map (·.2)) us → RepKV G w' kvs ((kvs.map (·.1)).zip us) := by
        intro kvs
        induction kvs with
        | nil => intro us w' _; rfl
        | cons p r ih => intro us w' h; simp only [List.map_cons, RepL] at h; obtain ⟨v, r', rfl, h1, h2⟩ := h; exact ⟨v, _, rfl, h1, ih h2⟩
      have r4 := back (f2 _ _ r3)
      rw [← e1] at r4
      obtain ⟨x2, s2'⟩ := new_obj (w := ⟨w2.mu, w2.S, fun b => if b = a then none else w2.H b, w.tmp⟩) (p := a) (ob := .dK (mergeD [] kvs)) (o := .dK (mergeK [] ks')) s1 (if_pos rfl) fun w' x' e => ⟨_, e, RepKV.mono x' _ _ r4⟩
      have eH : upd (fun b => if b = a then none else w2.H b) a (.dK (mergeK [] ks')) = upd w2.H a (.dK (mergeK [] ks')) := by
        funext b
        unfold upd
        by_cases hb : b = a
        · rw [if_pos hb, if_pos hb]
        · rw [if_neg hb, if_neg hb]; exact if_neg hb
      have q := p (.ref a) _ (WX'.trans x1 x2) rfl s2' (by simp only [Rep]; exact ⟨a, by rw [← s1.len]; simp, rfl⟩)
      rw [← eH]
      exact q
    · exact p.elim
  · exact p.elim

/-! ### {} -/
def eDic0 : ED := fun _ S => .ok (.dic [] []) S
def eDct0 : ED := fun _ S => .ok (.obj S.length) (S ++ [.dK []])
theorem q_dic0 : PE X (.Dict [] [] pos) (tE G eDic0 Wx) := peI pe_dnewK fun σ H Q q => by
  obtain ⟨w, env, rfl, sr, er, p⟩ := q
  intro a ha
  obtain ⟨x, s, nm⟩ := new_ext (o := .dK []) sr ha
  exact p (.ref a) _ x rfl s (by simp only [Rep, RepL]; exact ⟨a, [], rfl, upd_same, nm, rfl, rfl⟩)
theorem q_dct0 : PE X (.Dict [] [] pos) (tE G eDct0 Wx) := peI pe_dnewK fun σ H Q q => by
  obtain ⟨w, env, rfl, sr, er, p⟩ := q
  intro a ha
  obtain ⟨x, s⟩ := new_obj (ob := .dK []) (o := .dK []) sr ha fun w' x e => ⟨[], e, rfl⟩
  exact p (.ref a) _ x rfl s (by simp only [Rep]; exact ⟨a, by rw [← sr.len]; simp, rfl⟩)

/-! ### methods of texts -/
def splitD : D → FN := fun x xs S => match x, xs with
  | .str a, [.str b] => if (b.length == 0) = false ∧ a.length + 2 ≤ sizeLine then .ok (.lst ((Txt.split a b).map .str)) S else .bad
  | _, _ => .bad
theorem c_split : CalmM splitD := fun x xs S => by unfold splitD; repeat' split
                                                   all_goals trivial
theorem RepL_strs {w : Wd} : ∀ {ns : List Str} {vs : List V}, RepL G w (ns.map .str) vs ↔ vs = ns.map V.str
  | [], vs => by simp [RepL]
  | n :: ns, vs => by
    simp only [List.map_cons, RepL, Rep]
    constructor
    · rintro ⟨v, r, rfl, rfl, h⟩; rw [RepL_strs.mp h]
    · rintro rfl; exact ⟨_, _, rfl, rfl, RepL_strs.mpr rfl⟩
theorem o_split : MtR X "str.split" (rM G splitD) := mtI2 mt_split fun x xs H Q q => by
  obtain ⟨w, d, ds, rfl, sr, r1, rl, p⟩ := q
  unfold splitD at p
  split at p
  · rename_i a b
    split at p
    · rename_i hz
      simp only [Rep] at r1
      simp only [RepL, Rep] at rl
      obtain ⟨v, r', rfl, rfl, rfl⟩ := rl
      exact ⟨a, b, r1, rfl, hz.1, hz.2, fun p' hp' => new_lst (S := w.S) sr (RepL_strs.mpr rfl) p p' hp'⟩
    · exact p.elim
  · exact p.elim
end
end L3
set_option Elab.async false
set_option linter.all false
set_option maxRecDepth 100000
/-! L3M: constants of the written part; the end of a law. -/
namespace L3
open PySem PySem.Spec PyProof.Rows L2

section
variable {G : GC} {x : Str} {a : Addr}
/-- a written value stands for a plain one -/
def KVal (G : GC) (d : D) (u : Value) : Prop := ∃ v, RelV v u ∧ ∀ w, Rep G w d v
def KVals (G : GC) : List D → List Value → Prop
  | [], us => us = []
  | d :: ds, us => ∃ u r, us = u :: r ∧ KVal G d u ∧ KVals G ds r
theorem grep_of {d : D} {u : Value} (h : G.mg x = some u) (k : KVal G d u) : GRep G x d := by
  obtain ⟨v, r, f⟩ := k
  exact ⟨u, v, h, r, f⟩
theorem kv_int {i : Int} {t : PySem.Tok} : KVal G (.int i) (.int i t) := ⟨.int i, ⟨t, rfl⟩, fun w => by simp [Rep]⟩
theorem kv_str {i : Str} {t : PySem.Tok} : KVal G (.str i) (.str i t) := ⟨.str i, ⟨t, rfl⟩, fun w => by simp [Rep]⟩
theorem kv_bl {b : Bool} : KVal G (.bl b) (.bool b) := ⟨.bl b, rfl, fun w => by simp [Rep]⟩
theorem kv_non : KVal G .non .none := ⟨.non, rfl, fun w => by simp [Rep]⟩
theorem kv_fn {u : Value} (h : G.mg x = some (.ref a)) : KVal G (.glb x) (.ref a) := ⟨.ref a, rfl, fun w => by simp only [Rep]; exact ⟨_, h, rfl⟩⟩
theorem kvs_nil : KVals G [] [] := rfl
theorem kvs_cons {d : D} {ds : List D} {u : Value} {us : List Value} (h : KVal G d u) (r : KVals G ds us) : KVals G (d :: ds) (u :: us) := ⟨u, us, rfl, h, r⟩
theorem KVals.vals : ∀ {ds : List D} {us : List Value}, KVals G ds us → ∃ vs, Vals vs us ∧ ∀ w, RepL G w ds vs
  | [], us, h => by
    have : us = [] := h
    subst this; exact ⟨[], .nil, fun w => by simp [RepL]⟩
  | d :: ds, us, h => by
    obtain ⟨u, r, rfl, ⟨v, h1, h2⟩, h3⟩ := h
    obtain ⟨vs, q1, q2⟩ := KVals.vals h3
    exact ⟨v :: vs, .cons h1 q1, fun w => by simp only [RepL]; exact ⟨v, vs, rfl, h2 w, q2 w⟩⟩
theorem KVals.len : ∀ {ds : List D} {us : List Value}, KVals G ds us → us.length = ds.length
  | [], us, h => by
    have : us = [] := h
    subst this; rfl
  | d :: ds, us, h => by
    obtain ⟨u, r, rfl, _, h3⟩ := h
    simp [KVals.len h3]
theorem kv_tup {ds : List D} {us : List Value} {dd : Option Addr} {n : Nat} {sl : Array (Option Value)} (l : G.K.lookup a = some ⟨.type "tuple", dd, .seq us.toArray n, sl⟩) (h : KVals G ds us) (hz : ds.length ≤ 1000 := by decide) : KVal G (.tup ds) (.ref a) := by
  obtain ⟨vs, h1, h2⟩ := h.vals
  refine ⟨.ref a, rfl, fun w => ?_⟩
  simp only [Rep]
  exact ⟨a, vs, rfl, .inr ⟨_, us.toArray, n, l, rfl, rfl, by simp only [List.size_toArray]; rw [h.len, sizeLine_eq]; omega, by simpa using h1⟩, h2 w⟩
/-- the entries of a written dict with text keys -/
def KEnt (G : GC) : List DictEntry → List Str → List Value → Prop
  | [], ks, us => ks = [] ∧ us = []
  | e :: es, ks, us => ∃ k kr u ur t, ks = k :: kr ∧ us = u :: ur ∧ e.key = .str k t ∧ e.val = u ∧ e.hash = PyData.keyHash G.w.params k ∧ KEnt G es kr ur
theorem ke_nil : KEnt G [] [] [] := ⟨rfl, rfl⟩
theorem ke_cons {es : List DictEntry} {k : Str} {ks : List Str} {u : Value} {us : List Value} {t : PySem.Tok} {h : Int} (hh : h = PyData.keyHash G.w.params k) (r : KEnt G es ks us) : KEnt G (⟨h, .str k t, u⟩ :: es) (k :: ks) (u :: us) :=
  ⟨k, ks, u, us, t, rfl, rfl, rfl, rfl, hh, r⟩
theorem KEnt.lit : ∀ {es : List DictEntry} {ks : List Str} {us : List Value}, KEnt G es ks us → PySem.W.KeysLit G.w.params es
  | [], _, _, _ => trivial
  | e :: es, _, _, ⟨k, kr, u, ur, t, _, _, h1, _, h2, h3⟩ => ⟨⟨k, t, h1, h2⟩, KEnt.lit h3⟩
theorem KEnt.look (z : Str) : ∀ {es : List DictEntry} {ks : List Str} {us : List Value}, KEnt G es ks us →
    (match es.find? (·.key.isStr z) with
      | some e => (ks.zip us).lookup z = some e.val
      | none => (ks.zip us).lookup z = none ∧ es.any (·.refKey) = false)
  | [], _, _, ⟨rfl, rfl⟩ => ⟨rfl, rfl⟩
  | e :: es, _, _, ⟨k, kr, u, ur, t, rfl, rfl, h1, h2, h3, h4⟩ => by
    have ih := KEnt.look z h4
    have ek : e.key.isStr z = (z == k) := by
      rw [h1]
      show (Value.str k t).isStr z = _
      rw [PySem.W.isStr_of]
      by_cases hz : z = k
      · subst hz; simp [Value.isStrOf]
      · have : (z == k) = false := by simpa using hz
        rw [this]
        simp [Value.isStrOf]
        exact fun e => hz e.symm
    have rk : e.refKey = false := by simp [DictEntry.refKey, h1]
    simp only [List.find?_cons, ek, List.zip_cons_cons, List.lookup]
    cases hz : (z == k) with
    | true => simp only; rw [h2]
    | false =>
      simp only
      cases hf : es.find? (·.key.isStr z) with
      | some e' => rw [hf] at ih; exact ih
      | none => rw [hf] at ih; exact ⟨ih.1, by simp [List.any_cons, rk, ih.2]⟩
theorem kv_kd {ks : List Str} {ds : List D} {es : List DictEntry} {us : List Value} {n : Nat} (l : G.K.lookup a = some ⟨.type "dict", none, .dict es.toArray n, #[]⟩) (low : (a == sysModules) = false) (he : KEnt G es ks us) (h : KVals G ds us) (hl : ks.length = ds.length := by rfl) : KVal G (.kd ks ds) (.ref a) := by
  obtain ⟨vs, h1, h2⟩ := h.vals
  refine ⟨.ref a, rfl, fun w => ?_⟩
  simp only [Rep]
  refine ⟨a, es.toArray, n, vs, us, rfl, ⟨l, by simpa using he.lit, low⟩, fun z => ?_, hl, h1, h2 w⟩
  unfold PySem.W.nsIn
  rw [l]
  have := he.look z
  simp only
  cases hf : es.find? (·.key.isStr z) with
  | some e => rw [hf] at this; simp only at this ⊢; rw [this]
  | none => rw [hf] at this; simp only at this ⊢; rw [this.1, this.2]; rfl

/-! ### the law's own call -/
/-- what a law's def is asked -/
def spLaw (K : PySem.W.Frag) : Sp := fun vs H Q _ => ∃ (a : Addr) (ns : List Int), vs = [.ref a] ∧ ns.length ≤ 63 ∧ Only H ∧ SqL K H a (ns.map V.int) ∧ ∀ H', Q (.bl true) H'
theorem law_ok {P : Program} {w : World} {base : Heap} {k : Nat} {f : Addr} {fd : FuncData} {x : Str} {F : FN} (hF : FnG P w G.K G.mg base k f fd [x] (spOf G F)) (true_ : ∀ ns : List Int, ns.length ≤ 63 → ∃ S, F [.scr ns] [] = .ok (.bl true) S) :
    FnG P w G.K G.mg base k f fd [x] (spLaw G.K) := by
  refine hF.imp fun vs H Q E h => ?_
  obtain ⟨a, ns, rfl, hl, ho, hS, hQ⟩ := h
  obtain ⟨S, e⟩ := true_ ns hl
  refine ⟨⟨[], [], H, []⟩, [.scr ns], rfl, ⟨rfl, fun n m a o o' h => by simp at h, fun n o a h => by simp at h, fun a h => by simp at h⟩, ?_, ?_⟩
  · simp only [RepL, Rep]
    refine ⟨.ref a, [], rfl, ⟨a, rfl, ?_⟩, rfl⟩
    rcases hS with h | h
    · exact .inl ⟨h, fun m => m.elim (fun ⟨n, o, h, _⟩ => by simp at h) fun h => by simp at h⟩
    · exact .inr h
  · rw [e]
    intro v w' x hs s r
    simp only [Rep] at r
    subst r
    exact hQ _
theorem cx_none {P : Program} {w : World} {H : Hp} {s : Shared} {e : Value} {s' : Shared} (h : L2.CX P w [] H s (fun _ _ _ => False) e s') : False := by
  obtain ⟨_, _, _, _, _, _, _, _, _, _, _, _, z⟩ := h
  exact z
/-- a def of the top -/
theorem funD_mk {K : PySem.W.Frag} {x qual : Str} {params : Arguments} {body : List Stmt} {scope : Scope} {kws : List (Str × V)} {f : Addr} {oc : Value} {od an : Option Addr} {osl : Array (Option Value)} {kV doc pm cdv ct : Value}
    (l : K.lookup f = some ⟨oc, od, .func (PySem.W.fnOf x qual params body scope .none kV doc pm an cdv ct), osl⟩) (c : PySem.W.codeIn K cdv qual = true) (k : PySem.W.keepIn K (.ref f) = true) (kw : KwdV K kV kws) :
    FunD K x qual params body scope [] kws f (PySem.W.fnOf x qual params body scope .none kV doc pm an cdv ct) :=
  ⟨⟨oc, od, .none, kV, doc, pm, an, cdv, ct, osl, rfl, l, c, .inl ⟨rfl, rfl⟩, kw⟩, k⟩
theorem kw_none {K : PySem.W.Frag} {kV : Value} : KwdV K kV [] := .inl rfl
def KwL (K : PySem.W.Frag) (a : Addr) (l : List (Str × V)) : Prop := ∀ q ∈ l, ∃ u, PySem.W.nsIn K a q.1 = some (some u) ∧ RelV q.2 u
theorem kw_nil {K : PySem.W.Frag} : KwL K a [] := fun q h => by simp at h
theorem kw_cons {K : PySem.W.Frag} {l : List (Str × V)} {y : Str} {v : V} {u : Value} (e : PySem.W.nsIn K a y = some (some u)) (r : RelV v u) (t : KwL K a l) : KwL K a ((y, v) :: l) := fun q h => by
  rcases List.mem_cons.mp h with rfl | h
  · exact ⟨u, e, r⟩
  · exact t q h
theorem kw_some {K : PySem.W.Frag} {l : List (Str × V)} (h : KwL K a l) : KwdV K (.ref a) l := .inr ⟨a, rfl, h⟩
theorem roomG_caller {k : Nat} (h : Room k callerA) : RoomG k callerA := ⟨h, rfl⟩
/-- the law's def at the heap behind the top, what is tracked told -/
theorem top_core {P : Program} {w : World} {K : PySem.W.Frag} {mg mb : Str → Option Value} {k : Nat} {fa sc : Addr} {fd : FuncData} {x : Str} {sp : Sp} {st : Shared} {its : List Value} {ns : List Int} {H : Hp}
    (inK : K.In st.heap) (main : st.heap.Ns mainGlobals mg) (bns : st.heap.Ns builtinsNs mb) (boot : ∀ y : Str, y ≠ "__name__" → mb y = bootBuiltins y) (nl : st.heap.NoLimit) (ng : st.gens = #[])
    (at_ : st.heap.get? sc = some { cls := .type "list", data := .seq its.toArray }) (room : Room k callerA)
    (mods : ∃ mm, st.heap.Ns sysModules mm) (F : ∀ base : Heap, K.In base → base.Ns mainGlobals mg → (∃ o, base.get? sysModules = some o) → FnG P w K mg base k fa fd [x] sp) (bind : ∀ (s : Shared) (u : Value), BindsTo s fd ⟨[u], []⟩ [(x, u)])
    (only : Only H) (held : HOk P w H st.heap) (alone : ∀ b, H b ≠ none → b = sc) (apart : H sc ≠ none → K.lookup sc = none)
    (want : sp [.ref sc] H (fun v _ => v = .bl true) fun _ _ _ => False) :
    codeAny (model P w) callerA (.call (.ref fa) ⟨[.ref sc], []⟩) (fun r s' => r = .ok (.ret (.bool true)) ∧ OldK st.heap s'.heap ∧ s'.os = st.os ∧ AllBare s'.gens) st := by
  -- nothing but the script is hidden from the base
  have shown : ∀ {b : Addr} {o : Obj}, st.heap.get? b = some o → (b = sc → H sc = none) → (hidT st.heap H).get? b = some o := fun {b o} e n => by
    refine hidT_get e ?_
    by_cases hb : b = sc
    · rw [hb]; exact n hb
    · exact Classical.byContradiction fun z => hb (alone b z)
  have dicts : ∀ {b : Addr} {m : Str → Option Value}, st.heap.Ns b m → (hidT st.heap H).Ns b m := fun {b m} z => by
    obtain ⟨o, es, ep, e, d, q⟩ := z
    refine ⟨o, es, ep, shown e fun hb => ?_, d, q⟩
    rw [hb, at_] at e
    cases e
    cases (show Data.seq its.toArray _ = Data.dict es ep from d)
  have inB : K.In (hidT st.heap H) := fun b o e => shown (inK b o e) fun hb => Classical.byContradiction fun z => by
    rw [hb, apart z] at e; cases e
  obtain ⟨mc, nl1, nl2⟩ := nl
  have world : Mod K mg (hidT st.heap H) := ⟨inB, dicts main, ⟨mb, dicts bns, boot⟩, ⟨mc, dicts nl1, nl2⟩⟩
  have entry : Env0 P w K mg (hidT st.heap H) callerA [] st H :=
    { frames := rfl, mod := world, bs := fun b o e => of_hidT e, bsz := Nat.le_of_eq (hidT_size _ _), funs := trivial, frf := fun b z => (by cases z), hok := held, bare := .of_eq ng }
  have there : ∃ o, (hidT st.heap H).get? sysModules = some o := by
    obtain ⟨mm, z⟩ := mods
    obtain ⟨o, _, _, e, _⟩ := dicts z
    exact ⟨o, e⟩
  have run := (F _ inB (dicts main) there).go callerA [] st H ⟨[.ref sc], []⟩ [.ref sc] [.ref sc] _ _ (roomG_caller room) entry (bind st (.ref sc)) (.cons rfl .nil) want
  refine codeAny_mono run fun r s' z => ?_
  match r, z with
  | .error e, z => exact (cx_none z).elim
  | .ok (.ret u), ⟨v, H', e1, e2, e3, e4, e5, e6⟩ =>
    have e6 : v = .bl true := e6
    subst e6
    obtain rfl : u = Value.bool true := e5
    refine ⟨rfl, OldK.of_keep fun b o e => ?_, e1, e2⟩
    rcases only b with z | ⟨ob, xs, z⟩
    · exact e3.keep b o e z (fun q => by cases q) (fun q => by cases q)
    · have old := (held b _ z).1
      have new := (e4 b _ (e3.frzs b ob _ z)).1
      rw [e] at old
      cases old
      exact new
/-- .. the script tracked where the written part has it not -/
theorem top_call {P : Program} {w : World} {K : PySem.W.Frag} {mg mb : Str → Option Value} {k : Nat} {fa sc : Addr} {fd : FuncData} {x : Str} {sp : Sp} {st : Shared} {its : List Value} {ns : List Int}
    (inK : K.In st.heap) (main : st.heap.Ns mainGlobals mg) (bns : st.heap.Ns builtinsNs mb) (boot : ∀ y : Str, y ≠ "__name__" → mb y = bootBuiltins y) (nl : st.heap.NoLimit) (ng : st.gens = #[])
    (at_ : st.heap.get? sc = some { cls := .type "list", data := .seq its.toArray }) (hi : IntsAre its ns) (size : ns.length ≤ sizeLine) (room : Room k callerA)
    (mods : ∃ mm, st.heap.Ns sysModules mm) (F : ∀ base : Heap, K.In base → base.Ns mainGlobals mg → (∃ o, base.get? sysModules = some o) → FnG P w K mg base k fa fd [x] sp) (bind : ∀ (s : Shared) (u : Value), BindsTo s fd ⟨[u], []⟩ [(x, u)])
    (want : ∀ H : Hp, Only H → SqL K H sc (ns.map V.int) → sp [.ref sc] H (fun v _ => v = .bl true) fun _ _ _ => False) :
    codeAny (model P w) callerA (.call (.ref fa) ⟨[.ref sc], []⟩) (fun r s' => r = .ok (.ret (.bool true)) ∧ OldK st.heap s'.heap ∧ s'.os = st.os ∧ AllBare s'.gens) st := by
  have rel := vals_ints hi
  by_cases hk : ∃ o, K.lookup sc = some o
  · obtain ⟨o, hk⟩ := hk
    obtain rfl : o = _ := Option.some.inj ((inK sc o hk).symm.trans at_)
    have none_ : ∀ b : Addr, (fun _ => none : Hp) b = none := fun _ => rfl
    refine top_core (H := fun _ => none) (ns := ns) inK main bns boot nl ng at_ room mods F bind (fun b => .inl rfl) (fun b u z => ?_) (fun b z => absurd rfl z) (fun z => absurd rfl z) (want _ (fun b => .inl rfl) (.inr ⟨_, its.toArray, _, hk, rfl, rfl, rfl, ?_, by simpa using rel⟩))
    · cases (show (none : Option HO) = some u from z)
    · rw [List.size_toArray, hi.length]; exact size
  · let o0 : Obj := { cls := .type "list", data := .seq its.toArray }
    let H0 : Hp := upd (fun _ => none) sc (.frz o0 (.lst (ns.map V.int)))
    have here : H0 sc = some (.frz o0 (.lst (ns.map V.int))) := upd_same
    have there : ∀ b, b ≠ sc → H0 b = none := fun b hb => upd_ne hb
    have only : Only H0 := fun b => by
      by_cases hb : b = sc
      · rw [hb]; exact .inr ⟨o0, _, here⟩
      · exact .inl (there b hb)
    refine top_core (H := H0) (ns := ns) inK main bns boot nl ng at_ room mods F bind only (fun b u z => ?_) (fun b z => Classical.byContradiction fun hb => z (there b hb)) (fun _ => ?_) (want H0 only (.inl (.inr ⟨o0, here⟩)))
    · by_cases hb : b = sc
      · subst hb
        rw [here] at z
        cases z
        exact ⟨at_, by rw [List.length_map]; exact size, its, _, rel, at_⟩
      · rw [there b hb] at z; cases z
    · cases q : K.lookup sc with
      | none => rfl
      | some o => exact absurd ⟨o, q⟩ hk
theorem walk {l : PySem.W.OpenLaw} {q : Program} {loose : List Str} {XP : (Str → Option Value) → Heap → Prop} {YP : World → Heap → Prop} {d : DefRec} {K : Params → PySem.W.Frag} {k : Nat} {x : Str} (hn : l.most = some 63) (hi : importsNone q = true) (hdf : d.params.defaults = []) (hr : Room k callerA)
    (hY : ∀ (w : World) (h : Heap), YP w h → (K w.params).In h)
    (F : ∀ (w : World) (mg : Str → Option Value) (fa : Addr) (h : Heap), (K w.params).In h → h.Ns mainGlobals mg → mg d.name = some (.ref fa) →
      ∃ fd : FuncData, (∀ (s : Shared) (u : Value), BindsTo s fd ⟨[u], []⟩ [(x, u)]) ∧ ∀ base : Heap, (K w.params).In base → base.Ns mainGlobals mg → (∃ o, base.get? sysModules = some o) → FnG l.prog w (K w.params) mg base k fa fd [x] (spLaw (K w.params))) :
    PySem.W.WalkO q loose XP YP l.row.toRowW d [] (fun f vs => PySem.call f vs) := by
  refine Att.attach_call hn hdf fun w s₀ s₁ mg mb fa o pm cd doc a vs ns G Y ho hd hcd hmg hobj hints hlen hg => ?_
  obtain ⟨fd, hb, hF⟩ := F w mg fa _ (hY w _ Y) G.T.g hmg
  exact top_call (hY w _ Y) G.T.g G.T.b G.T.builtins G.T.nolimit hg hobj hints (Nat.le_trans hlen (by decide)) hr (let ⟨mm, z, _⟩ := (G.T.seer hi).mods; ⟨mm, z⟩) hF hb fun H hO hS => ⟨a, ns, rfl, hlen, hO, hS, fun _ => rfl⟩
end
end L3
set_option Elab.async false
set_option linter.all false
set_option maxRecDepth 100000
/-! L3Q: slices, repr, str, methods of dicts and lists, keywords alone. -/
namespace L3
open PySem PySem.Spec PyProof.Rows L2

/-! ### x[lo:hi] -/
abbrev PD := EnvD → Store → R (Option Int)
def pNo : PD := fun _ S => .ok none S
def pYes (a : ED) : PD := fun env S => (a env S).bind fun x S1 => match x with
  | .int i => .ok (some i) S1
  | _ => .bad
def tO (G : GC) (m : PD) (Wx : WX) : TO := fun σ H Q => ∃ w env, w.H = H ∧ SRep G w ∧ ERep G w env σ ∧ Post G w (m env w.S) (fun _ a b => a = b) Q (fun C dx H' => Wx C dx σ H')
def cutL {α : Type} (xs : List α) (lo hi : Option Int) : List α := (xs.drop (HT.sIx xs.length 0 lo)).take (HT.sIx xs.length xs.length hi - HT.sIx xs.length 0 lo)
def slD (x : D) (lo hi : Option Int) (S : Store) : R D := match x with
  | .tup l => .ok (.tup (cutL l lo hi)) S
  | .str z => if z.length ≤ sizeLine then .ok (.str (cutS z lo hi)) S else .bad
  | x => match asL x S with
    | some l => .ok (.lst (cutL l lo hi)) S
    | none => .bad
def eSl (a : ED) (l h : PD) : ED := fun env S => (a env S).bind fun x S1 => (l env S1).bind fun lo S2 => (h env S2).bind fun hi S3 => slD x lo hi S3
theorem cutL_whole {α : Type} {xs : List α} {lo hi : Option Int} (h : HT.sIx xs.length 0 lo = 0 ∧ HT.sIx xs.length xs.length hi = xs.length) : cutL xs lo hi = xs := by
  unfold cutL
  rw [h.1, h.2]
  simp
section
variable {G : GC} {X : Cx} {Wx : WX} {pos p2 : Pos} {w : Wd}
theorem RepL.cut {l : List D} {vs : List V} (h : RepL G w l vs) (lo hi : Option Int) : RepL G w (cutL l lo hi) (cutV vs lo hi) := by
  unfold cutL cutV
  rw [h.length]
  exact (h.drop _).take _
theorem q_pno : PO X none (tO G pNo Wx) := ⟨fun pins s σ H Q I q => by
  obtain ⟨w, env, rfl, sr, er, p⟩ := q
  exact po_none.run pins s σ w.H Q I (Post.ret (Ra := fun _ (a b : Option Int) => a = b) sr rfl p)⟩
theorem q_pyes {e : Expr} {m : ED} (h : PE X e (tE G m Wx)) : PO X (some e) (tO G (pYes m) Wx) := ⟨fun pins s σ H Q I q => by
  refine (po_some h).run pins s σ H Q I ?_
  obtain ⟨w, env, rfl, sr, er, p⟩ := q
  refine ⟨w, env, rfl, sr, er, (Post.bind (Ra := Rep G) p).mono (fun x H1 m => ?_) fun _ _ _ h => h⟩
  obtain ⟨w1, d1, rfl, x1, s1, rp1, p1⟩ := m
  cases d1 with
  | int i =>
    simp only [Rep] at rp1
    exact ⟨i, rp1, Post.ret (Ra := fun _ (a b : Option Int) => a = b) s1 rfl p1⟩
  | _ => exact p1.elim⟩
theorem q_slice {e : Expr} {lo hi : Option Expr} {m : ED} {ml mh : PD} (hK : X.K = G.K) (he : PE X e (tE G m Wx)) (hl : PO X lo (tO G ml Wx)) (hh : PO X hi (tO G mh Wx)) : PE X (.Subscript e (.Slice lo hi none p2) pos) (tE G (eSl m ml mh) Wx) :=
  peI (pe_slice (sl_tupA.or (sl_str.or sl_list)) he hl hh) fun σ H Q q => by
    obtain ⟨w, env, rfl, sr, er, p⟩ := q
    refine ⟨w, env, rfl, sr, er, (Post.bind (Ra := Rep G) p).mono (fun x H1 m => ?_) fun _ _ _ h => h⟩
    obtain ⟨w1, d1, rfl, x1, s1, rp1, p1⟩ := m
    refine ⟨w1, env, rfl, s1, er.mono x1, (Post.bind (Ra := fun _ (a b : Option Int) => a = b) p1).mono (fun lo H2 m => ?_) fun _ _ _ h => h⟩
    obtain ⟨w2, d2, rfl, x2, s2, rfl, p2⟩ := m
    refine ⟨w2, env, rfl, s2, (er.mono x1).mono x2, (Post.bind (Ra := fun _ (a b : Option Int) => a = b) p2).mono (fun hi H3 m => ?_) fun _ _ _ h => h⟩
    obtain ⟨w3, d3, rfl, x3, s3, rfl, p3⟩ := m
    have r1 := Rep.mono (WX'.trans x2 x3) _ _ rp1
    unfold slD at p3
    split at p3
    · have r1' := r1
      simp only [Rep] at r1
      obtain ⟨a, vs, rfl, h1, h2⟩ := r1
      have hl := h2.length
      refine .inl ⟨a, vs, rfl, by rw [hK]; exact SqT_of h1, fun hw => ?_, fun _ p' hp' => new_tup s3 (h2.cut d2 d3) p3 p' hp'⟩
      rw [cutL_whole (by rw [← hl]; exact hw)] at p3
      exact Post.ret (Ra := Rep G) s3 r1' p3
    · split at p3
      · rename_i hz
        simp only [Rep] at r1
        exact .inr (.inl ⟨_, r1, hz, Post.ret (Ra := Rep G) s3 (by simp [Rep]) p3⟩)
      · exact p3.elim
    · split at p3
      · rename_i l hl
        obtain ⟨a, vs, rfl, h1, h2⟩ := asL_rep s3 r1 hl
        exact .inr (.inr ⟨a, vs, rfl, SqL.of h1, fun p' hp' => new_lst (S := w3.S) s3 (h2.cut d2 d3) p3 p' hp'⟩)
      · exact p3.elim

/-! ### str, join, texts in order -/
def strD : FN := fun xs S => match xs with
  | [.int i] => if i.natAbs.log2 < 1920 then .ok (.str (toString i)) S else .bad
  | [.str z] => .ok (.str z) S
  | _ => .bad
theorem c_str : CalmN strD := fun xs S => by unfold strD; repeat' split
                                             all_goals trivial
theorem o_str : CallR X (.type "str") (rN G strD) := by
  refine caI2 (call_str_int.or SkE.call_str_str) fun xs H Q q => ?_
  obtain ⟨w, ds, rfl, sr, rl, p⟩ := q
  unfold strD at p
  split at p
  · split at p
    · rename_i hz
      simp only [RepL, Rep] at rl
      obtain ⟨v, r', rfl, rfl, rfl⟩ := rl
      exact .inl ⟨_, rfl, hz, Post.ret (Ra := Rep G) sr (by simp [Rep]) p⟩
    · exact p.elim
  · simp only [RepL, Rep] at rl
    obtain ⟨v, r', rfl, rfl, rfl⟩ := rl
    exact .inr ⟨_, rfl, Post.ret (Ra := Rep G) sr (by simp [Rep]) p⟩
  · exact p.elim
def allStrs : List D → Option (List Str)
  | [] => some []
  | .str b :: r => (allStrs r).map (b :: ·)
  | _ => none
theorem allStrs_rep : ∀ {l : List D} {vs : List V} {bs : List Str}, RepL G w l vs → allStrs l = some bs → vs = bs.map V.str
  | [], vs, bs, r, e => by simp only [RepL] at r; cases e; exact r
  | d :: ds, vs, bs, r, e => by
    simp only [RepL] at r
    obtain ⟨v, r', rfl, h1, h2⟩ := r
    cases d with
    | str b =>
      simp only [allStrs, Option.map_eq_some_iff] at e
      obtain ⟨bs', e1, rfl⟩ := e
      simp only [Rep] at h1
      rw [h1, allStrs_rep h2 e1]
      rfl
    | _ => simp [allStrs] at e
/-- the items of a list or a tuple -/
def asS (x : D) (S : Store) : Option (List D) := match x with
  | .tup l => some l
  | x => asL x S
def joinD : D → FN := fun x xs S => match x, xs with
  | .str a, [y] => match (asS y S).bind allStrs with
    | some ys => if (ys.map (·.length)).sum + ys.length * a.length ≤ 16777216 then .ok (.str (Txt.join a ys)) S else .bad
    | none => .bad
  | _, _ => .bad
theorem c_join : CalmM joinD := fun x xs S => by unfold joinD; repeat' split
                                                 all_goals trivial
theorem asS_rep {x : D} {v : V} {l : List D} (sr : SRep G w) (r : Rep G w x v) (e : asS x w.S = some l) : ∃ a vs, v = .ref a ∧ (SqL G.K w.H a vs ∨ SqT G.K w.H a vs) ∧ RepL G w l vs := by
  unfold asS at e
  split at e
  · cases e
    simp only [Rep] at r
    obtain ⟨a, vs, rfl, h1, h2⟩ := r
    exact ⟨a, vs, rfl, .inr (SqT_of h1), h2⟩
  · obtain ⟨a, vs, rfl, h1, h2⟩ := asL_rep sr r e
    exact ⟨a, vs, rfl, .inl (SqL.of h1), h2⟩
theorem o_join (hK : X.K = G.K) : MtR X "str.join" (rM G joinD) := mtI2 mt_join fun x xs H Q q => by
  obtain ⟨w, d, ds, rfl, sr, r1, rl, p⟩ := q
  unfold joinD at p
  split at p
  · rename_i a y
    split at p
    · rename_i ys hy
      split at p
      · rename_i hz
        simp only [Rep] at r1
        simp only [RepL] at rl
        obtain ⟨v, r', rfl, ry, rfl⟩ := rl
        cases hl : asS y w.S with
        | none => rw [hl] at hy; cases hy
        | some l =>
          rw [hl] at hy
          obtain ⟨b, vs, rfl, h1, h2⟩ := asS_rep sr ry hl
          rw [allStrs_rep h2 hy] at h1
          exact ⟨a, b, ys, r1, rfl, by rw [hK]; exact h1, hz, Post.ret (Ra := Rep G) sr (by simp [Rep]) p⟩
      · exact p.elim
    · exact p.elim
  · exact p.elim

/-! ### repr -/
mutual
def toPyR : D → Option PyData
  | .non => some .none
  | .bl b => some (.bool b)
  | .int i => some (.int i)
  | .str s => some (.str s)
  | .tup l => (toPyRL l).map .tuple
  | .lst l => (toPyRL l).map .list
  | .dic ks l => match ks, l with
    | [], [] => some (.dict [])
    | _, _ => none
  | .obj _ => none
  | .glb _ => none
  | .ty _ => none
  | .scr _ => none
  | .kd _ _ => none
def toPyRL : List D → Option (List PyData)
  | [] => some []
  | d :: ds => match toPyR d, toPyRL ds with
    | some x, some xs => some (x :: xs)
    | _, _ => none
end
mutual
theorem reads_of {pins : List (Addr × Obj)} {s : Shared} {σ : L2.St} (hK : X.K = G.K) (hS : w.H sysModules = none) (I : Inv X pins σ w.H s) : ∀ (d : D) (v : V) (u : Value) (x : PyData), Rep G w d v → toPyR d = some x → RelV v u → ∃ as, Reads s.heap u x as ∧ sysModules ∉ as
  | .non, v, u, x, r, e, rv => by simp only [Rep] at r; subst r; cases e; cases rv; exact ⟨[], .none, by simp⟩
  | .bl b, v, u, x, r, e, rv => by simp only [Rep] at r; subst r; cases e; cases rv; exact ⟨[], .bool b, by simp⟩
  | .int i, v, u, x, r, e, rv => by simp only [Rep] at r; subst r; cases e; obtain ⟨t, rfl⟩ := rv; exact ⟨[], .int i t, by simp⟩
  | .str z, v, u, x, r, e, rv => by simp only [Rep] at r; subst r; cases e; obtain ⟨t, rfl⟩ := rv; exact ⟨[], .str z t, by simp⟩
  | .tup l, v, u, x, r, e, rv => by
    simp only [Rep] at r
    obtain ⟨a, vs, rfl, h1, h2⟩ := r
    simp only [toPyR, Option.map_eq_some_iff] at e
    obtain ⟨xs, e1, rfl⟩ := e
    cases rv
    obtain ⟨its, rv, ⟨o, ho, hc, n, hd⟩, _⟩ := I.tuple (xs := vs) (by rw [hK]; exact SqT_of h1)
    obtain ⟨as, h3, h4⟩ := readsL_of hK hS I l vs its xs h2 e1 rv
    exact ⟨as, .tuple ho hc hd h3, h4⟩
  | .lst l, v, u, x, r, e, rv => by
    simp only [Rep] at r
    obtain ⟨a, vs, rfl, h1, _, h2⟩ := r
    simp only [toPyR, Option.map_eq_some_iff] at e
    obtain ⟨xs, e1, rfl⟩ := e
    cases rv
    obtain ⟨its, rv, ⟨o, n, ho, hc, _, hd⟩, _⟩ := I.list (xs := vs) (SqL.of h1)
    obtain ⟨as, h3, h4⟩ := readsL_of hK hS I l vs its xs h2 e1 rv
    exact ⟨_, .list ho hc hd h3, fun h => (List.mem_cons.mp h).elim (fun e => by rw [← e, hS] at h1; cases h1) h4⟩
  | .dic [] [], v, u, x, r, e, rv => by
    simp only [Rep] at r
    obtain ⟨a, vs, rfl, h1, _, _, h2⟩ := r
    cases e
    cases rv
    obtain ⟨_, hs, kvs, k1, o, es, ep, g, ex, dt, _, pr, _⟩ := dk_of I.hok h1
    have k0 : kvs = [] := by
      have := k1.length
      simp at this
      exact List.eq_nil_of_length_eq_zero this.symm
    subst k0
    have e0 : es.toList = [] := by
      generalize es.toList = z at pr
      cases pr; rfl
    refine ⟨_, .dict (kvs := []) (as := []) (bs := []) g ex.1 dt (by rw [e0]; exact .nil) (by rw [e0]; exact .nil), fun h => ?_⟩
    simp at h
    rw [← h] at hs
    simp at hs
  | .dic (_ :: _) _, v, u, x, r, e, rv => by simp [toPyR] at e
  | .dic [] (_ :: _), v, u, x, r, e, rv => by simp [toPyR] at e
  | .obj _, _, _, _, _, e, _ => by simp [toPyR] at e
  | .glb _, _, _, _, _, e, _ => by simp [toPyR] at e
  | .ty _, _, _, _, _, e, _ => by simp [toPyR] at e
  | .scr _, _, _, _, _, e, _ => by simp [toPyR] at e
  | .kd _ _, _, _, _, _, e, _ => by simp [toPyR] at e
theorem readsL_of {pins : List (Addr × Obj)} {s : Shared} {σ : L2.St} (hK : X.K = G.K) (hS : w.H sysModules = none) (I : Inv X pins σ w.H s) : ∀ (d : List D) (v : List V) (u : List Value) (x : List PyData), RepL G w d v → toPyRL d = some x → Vals v u → ∃ as, ReadsAll s.heap u x as ∧ sysModules ∉ as
  | [], v, u, x, r, e, rv => by simp only [RepL] at r; subst r; cases e; cases rv; exact ⟨[], .nil, by simp⟩
  | d :: ds, v, u, x, r, e, rv => by
    simp only [RepL] at r
    obtain ⟨v1, r', rfl, h1, h2⟩ := r
    simp only [toPyRL] at e
    split at e
    · rename_i y ys e1 e2
      cases e
      cases rv with
      | cons ra rb =>
        obtain ⟨as, q1, q2⟩ := reads_of hK hS I d v1 _ y h1 e1 ra
        obtain ⟨bs, q3, q4⟩ := readsL_of hK hS I ds r' _ ys h2 e2 rb
        exact ⟨_, .cons q1 q3, fun z => (List.mem_append.mp z).elim q2 q4⟩
    · cases e
end
/-- what can be shown -/
def showOk (x : PyData) : Bool := x.showable && decide (x.shown.length ≤ sizeLine) && decide (x.depth ≤ 100)
def reprD : FN := fun xs S => match xs with
  | [x] => match toPyR (deref x S) with
    | some a => if showOk a then .ok (.str a.shown) S else .bad
    | none => .bad
  | _ => .bad
theorem c_repr : CalmN reprD := fun xs S => by unfold reprD; repeat' split
                                               all_goals trivial
theorem derefR_rep {pins : List (Addr × Obj)} {s : Shared} {σ : L2.St} (hK : X.K = G.K) (hS : w.H sysModules = none) (I : Inv X pins σ w.H s) {x : D} {v : V} {u : Value} (sr : SRep G w) (r : Rep G w x v) (rv : RelV v u) {y : PyData} (e : toPyR (deref x w.S) = some y) : ∃ as, Reads s.heap u y as ∧ sysModules ∉ as := by
  cases x with
  | obj n =>
    unfold deref at e
    cases hn : w.S[n]? with
    | none => simp [hn, toPyR] at e
    | some o =>
      cases o with
      | lst l =>
        simp only [hn] at e
        obtain ⟨a, vs, rfl, h1, h2⟩ := asL_rep (l := l) sr r (by simp [asL, hn])
        simp only [toPyR, Option.map_eq_some_iff] at e
        obtain ⟨xs, e1, rfl⟩ := e
        cases rv
        obtain ⟨its, rv, ⟨o, n, ho, hc, _, hd⟩, _⟩ := I.list (xs := vs) (SqL.of h1)
        obtain ⟨as, h3, h4⟩ := readsL_of hK hS I l vs its xs h2 e1 rv
        exact ⟨_, .list ho hc hd h3, fun h => (List.mem_cons.mp h).elim (fun e => by rw [← e, hS] at h1; cases h1) h4⟩
      | _ => simp [hn, toPyR] at e
  | _ => exact reads_of hK hS I _ v u y r e rv
theorem o_repr (hK : X.K = G.K) (hM : ∃ o, X.base.get? sysModules = some o) (hg : X.A.guards = some []) (hu : X.A.units + 150 < cLine) : CallR X (.builtin "repr") (rN G reprD) := by
  intro pins s σ H xs us Q I rs q
  obtain ⟨w, ds, rfl, sr, rl, p⟩ := q
  unfold reprD at p
  split at p
  · rename_i x
    split at p
    · rename_i a ha
      split at p
      · rename_i ok
        simp only [showOk, Bool.and_eq_true, decide_eq_true_eq] at ok
        obtain ⟨⟨ok1, ok2⟩, ok3⟩ := ok
        simp only [RepL] at rl
        obtain ⟨v, r', rfl, r1, rfl⟩ := rl
        cases rs with
        | cons rv rt =>
          cases rt
          obtain ⟨o, hM⟩ := hM
          obtain ⟨as, rd, no⟩ := derefR_rep hK (I.bs _ _ hM).2 I sr r1 rv ha
          have fin : ∀ (z : Str) (h' : Heap) (tk : PySem.Tok) (tk' : Nat), z = a.shown → (∀ b o, s.heap.get? b = some o → h'.get? b = some o) → EP X pins σ Q (.str z tk) { s with heap := h', toks := tk' } := fun z h' tk tk' ez k => by
            subst ez
            exact ⟨.str _, w.H, I.kept (t' := tk') k, ⟨tk, rfl⟩, Post.ret (Ra := Rep G) sr (by simp [Rep]) p⟩
          have same : ∀ b o, s.heap.get? b = some o → s.heap.get? b = some o := fun _ _ h => h
          cases rd with
          | none => exact PySem.P.repr_of_none (fin _ s.heap _ _ rfl same)
          | bool b => exact PySem.P.repr_of_bool (fin _ s.heap _ _ (by simp [PyData.shown]) same)
          | int i t => exact PySem.P.repr_of_int (by simpa [PyData.showable] using ok1) (fin _ s.heap _ _ rfl same)
          | str z t => exact PySem.P.repr_of_str (fin _ s.heap _ _ rfl same) (by simpa [PyData.shown] using ok2)
          | list h1 h2 h3 h4 =>
            exact repr_of_reads' (.list h1 h2 h3 h4) ok1 (fun _ => no) hg (by omega) same (fun h' t tk k => fin _ h' t tk rfl k) ok2
          | tuple h1 h2 h3 h4 =>
            exact repr_of_reads' (.tuple h1 h2 h3 h4) ok1 (fun _ => no) hg (by omega) same (fun h' t tk k => fin _ h' t tk rfl k) ok2
          | dict h1 h2 h3 h4 h5 =>
            exact repr_of_reads' (.dict h1 h2 h3 h4 h5) ok1 (fun _ => no) hg (by omega) same (fun h' t tk k => fin _ h' t tk rfl k) ok2
      · exact p.elim
    · exact p.elim
  · exact p.elim
end
end L3
namespace L3
open PySem PySem.Spec PyProof.Rows L2
section
variable {G : GC} {X : Cx} {Wx : WX} {pos p2 : Pos} {w : Wd}
/-! ### dicts: get, update -/
/-- a dict's entries -/
def dkAt (x : D) (S : Store) : Option (List (Key × D)) := match x with
  | .dic ks l => if ks.length = l.length then some (ks.zip l) else none
  | .obj n => match S[n]? with
    | some (.dK kvs) => some kvs
    | _ => none
  | _ => none
theorem dkAt_rep {x : D} {v : V} {kvs : List (Key × D)} (sr : SRep G w) (r : Rep G w x v) (e : dkAt x w.S = some kvs) : ∃ a vs, v = .ref a ∧ w.H a = some (.dK vs) ∧ RepKV G w kvs vs := by
  cases x with
  | dic ks l =>
    simp only [dkAt] at e
    split at e
    · rename_i hl
      cases e
      simp only [Rep] at r
      obtain ⟨a, vs, rfl, h1, _, _, h2⟩ := r
      exact ⟨a, _, rfl, h1, zip_kv hl h2⟩
    · cases e
  | obj n =>
    simp only [dkAt] at e
    split at e
    · rename_i l hn
      cases e
      simp only [Rep] at r
      obtain ⟨a, hm, rfl⟩ := r
      obtain ⟨vs, h1, h2⟩ := sr.obj n _ a hn hm
      exact ⟨a, vs, rfl, h1, h2⟩
    · cases e
  | _ => cases e
def dgetD : D → FN := fun x xs S => match dkAt x S, xs with
  | some kvs, [y] => match keyOf y with
    | some k => .ok ((dGet kvs k).getD .non) S
    | none => .bad
  | some kvs, [y, z] => match keyOf y with
    | some k => .ok ((dGet kvs k).getD z) S
    | none => .bad
  | _, _ => .bad
theorem c_dget : CalmM dgetD := fun x xs S => by unfold dgetD; repeat' split
                                                 all_goals trivial
theorem o_dget (hu : X.A.units + 1 < cLine) : MtR X "dict.get" (rM G dgetD) := by
  intro pins s σ H x xs v us Q I rx rs q
  obtain ⟨w, d, ds, rfl, sr, r1, rl, p⟩ := q
  unfold dgetD at p
  split at p
  · rename_i kvs y he
    split at p
    · rename_i k hk
      obtain ⟨a, vs, rfl, h1, h2⟩ := dkAt_rep sr r1 he
      simp only [RepL] at rl
      obtain ⟨vy, r', rfl, ry, rfl⟩ := rl
      have ek := keyOf_rep ry hk
      subst ek
      cases rx
      cases rs with
      | cons q1 q2 =>
        cases q2
        refine d_get1 hu I (DGet.k h1) q1 fun w' s' I' rw' => ⟨_, w.H, I', rw', ?_⟩
        have := dGet_rep k h2
        cases hg : dGet kvs k with
        | none => rw [hg] at this p; simp only at this; rw [this]; exact Post.ret (Ra := Rep G) sr (by simp [Rep]) p
        | some d => rw [hg] at this p; simp only at this; obtain ⟨z, e1, rz⟩ := this; rw [e1]; exact Post.ret (Ra := Rep G) sr rz p
    · exact p.elim
  · rename_i kvs y z he
    split at p
    · rename_i k hk
      obtain ⟨a, vs, rfl, h1, h2⟩ := dkAt_rep sr r1 he
      simp only [RepL] at rl
      obtain ⟨vy, r', rfl, ry, vz, r'', rfl, rz, rfl⟩ := rl
      have ek := keyOf_rep ry hk
      subst ek
      cases rx
      cases rs with
      | cons q1 q2 =>
        cases q2 with
        | cons q2 q3 =>
          cases q3
          refine d_get2 hu I (DGet.k h1) q1 q2 fun w' s' I' rw' => ⟨_, w.H, I', rw', ?_⟩
          have := dGet_rep k h2
          cases hg : dGet kvs k with
          | none => rw [hg] at this p; simp only at this; rw [this]; exact Post.ret (Ra := Rep G) sr rz p
          | some d => rw [hg] at this p; simp only at this; obtain ⟨y, e1, ry⟩ := this; rw [e1]; exact Post.ret (Ra := Rep G) sr ry p
    · exact p.elim
  · exact p.elim
def isAt (n : Nat) : D → Bool
  | .obj m => decide (m = n)
  | _ => false
def dupdD : D → FN := fun x xs S => match x, xs with
  | .obj n, [y] => match S[n]? with
    | some (.dK kvs) => match dkAt y S with
      | some more => if kvs.length + more.length ≤ sizeLine ∧ isAt n y = false then .ok .non (S.set n (.dK (mergeD kvs more))) else .bad
      | none => .bad
    | _ => .bad
  | _, _ => .bad
theorem c_dupd : CalmM dupdD := fun x xs S => by unfold dupdD; repeat' split
                                                 all_goals trivial
theorem merge_vals : ∀ {mv : List (Key × V)} {more : List (Key × Value)} {kvs : List (Key × V)} {vs : List (Key × Value)}, KV mv more → KV kvs vs → KV (mergeK kvs mv) (merged vs more)
  | _, _, kvs, vs, .nil, h => h
  | _, _, kvs, vs, .cons r t, h => by
    obtain ⟨e, r⟩ := r
    show KV (mergeK (putK kvs _ _) _) (merged (stored vs _ _) _)
    rw [← e]
    exact merge_vals t (h.put _ r)
theorem len_merge : ∀ {mv kvs : List (Key × V)}, (mergeK kvs mv).length ≤ kvs.length + mv.length
  | [], kvs => Nat.le_refl _
  | p :: r, kvs => by
    show (mergeK (putK kvs p.1 p.2) r).length ≤ _
    have h1 := len_merge (mv := r) (kvs := putK kvs p.1 p.2)
    have h2 := length_putK kvs p.1 p.2
    simp only [List.length_cons]
    omega
theorem o_dupd : MtR X "dict.update" (rM G dupdD) := by
  intro pins s σ H x xs v us Q I rx rs q
  obtain ⟨w, d, ds, rfl, sr, r1, rl, p⟩ := q
  unfold dupdD at p
  split at p
  · rename_i n y
    split at p
    · rename_i kvs hn
      split at p
      · rename_i more hy
        split at p
        · rename_i hz
          simp only [Rep] at r1
          obtain ⟨a, hm, rfl⟩ := r1
          obtain ⟨vs, h1, h2⟩ := sr.obj n _ a hn hm
          simp only [RepL] at rl
          obtain ⟨vy, r', rfl, ry, rfl⟩ := rl
          obtain ⟨b, ws, rfl, h3, h4⟩ := dkAt_rep sr ry hy
          have hab : a ≠ b := by
            intro e
            subst e
            cases y with
            | obj m =>
              simp only [Rep] at ry
              obtain ⟨a', hm', e'⟩ := ry
              cases e'
              cases hS : w.S[m]? with
              | none => simp [dkAt, hS] at hy
              | some o =>
                have z := hz.2
                simp only [isAt, decide_eq_false_iff_not] at z
                refine z (sr.inj m n a o _ hS hn ?_ trivial hm' hm)
                cases o with
                | dK _ => trivial
                | _ => simp [dkAt, hS] at hy
            | dic ks l =>
              simp only [Rep] at ry
              obtain ⟨a', _, e', _, nm, _⟩ := ry
              cases e'
              exact nm (.inl ⟨n, _, hn, trivial, hm⟩)
            | _ => simp [dkAt] at hy
          obtain ⟨za, la, va, ka, da⟩ := dk_of I.hok h1
          obtain ⟨zb, lb, vb, kb, db⟩ := dk_of I.hok h3
          cases rx
          cases rs with
          | cons q1 q2 =>
            cases q2
            cases q1
            have hz1 : va.length + vb.length ≤ sizeLine := by rw [← ka.length, ← kb.length, h2.len, h4.len]; exact hz.1
            refine call_meetsIn PySem.F.slot_dict_update da.typeIs PySem.F.entry_dict_update (PySem.F.args_dict_update_2 _ _) (meets_dict_update (mixKind X.prog X.w) a b hab lb)
              ⟨va, vb, da, db, hz1, fun h' d1 d2 sb => ?_⟩
            have hl : (mergeK vs ws).length ≤ sizeLine := by
              have := len_merge (mv := ws) (kvs := vs)
              rw [h2.len, h4.len] at this
              omega
            have he : ∃ q, h'.get? a = some q := let ⟨q, _, _, hq, _⟩ := d1; ⟨q, hq⟩
            have I2 : Inv X pins σ (upd w.H a (.dK (mergeK vs ws))) { s with heap := h' } := d_write I (by rw [h1]; exact True.intro) sb he (dk_new hl la (merge_vals kb ka) d1)
            refine ⟨.non, _, I2, rfl, ?_⟩
            obtain ⟨x', s'⟩ := set_obj (ob' := .dK (mergeD kvs more)) (o := .dK (mergeK vs ws)) sr hn trivial hm fun w' x e => ⟨_, e, RepKV.mono x _ _ (RepKV.merge h4 h2)⟩
            exact p .non _ x' rfl s' (by simp [Rep])
        · exact p.elim
      · exact p.elim
    · exact p.elim
  · exact p.elim
end
end L3
set_option Elab.async false
set_option linter.all false
set_option maxRecDepth 100000
/-! L3R: tuples turned about, keywords in any order. -/
namespace L3
open PySem PySem.Spec PyProof.Rows L2
section
variable {prog : Program} {w : World} {A : Around} {E : Value → Shared → Prop} {s : Shared}
/-- a slice from the end to the front, applied to n places -/
theorem applied_back {sl : Addr} {t : PySem.Tok} {n : Nat} {Q : Int × Int × Nat → Shared → Prop} (at_ : s.heap.IsSliceOf sl .none .none (.int (-1) t)) (h : Q ((n : Int) - 1, -1, n) s) :
    wpAny (model prog w) A (Builtin.Slice.sliceApplied (.ref sl) (pure (n : Int))) Q E s := by
  obtain ⟨ob, e1, _, e2⟩ := id at_
  unfold Builtin.Slice.sliceApplied Builtin.Slice.sliceFields
  refine wpAny_bind (wpAny_bind (wpAny_field e1 e2 (x := .none) rfl (wpAny_bind (wpAny_field e1 e2 (x := .none) rfl (wpAny_bind (wpAny_field e1 e2 (x := .int (-1) t) rfl (wpAny_pure ?_)))))))
  refine wpAny_bind (slicePart_int ?_)
  show wpAny _ _ (if ((-1 : Int) == 0) = true then _ else _) _ _ s
  rw [if_neg (by decide)]
  refine wpAny_bind (slicePart_none (wpAny_bind (slicePart_none (wpAny_bind (wpAny_pure ?_)))))
  have e3 : Builtin.Slice.sliceAdjust none none (-1) (n : Int) = ((n : Int) - 1, -1) := rfl
  have e4 : Builtin.Slice.slicePlaces ((n : Int) - 1) (-1) (-1) = n := by
    unfold Builtin.Slice.slicePlaces
    rw [if_neg (by decide)]
    by_cases h0 : n = 0
    · subst h0; decide
    · rw [if_pos (by omega)]
      have : ((n : Int) - 1 - -1 - 1) / -(-1) + 1 = n := by
        rw [show -(-1 : Int) = 1 by decide, Int.ediv_one]; omega
      rw [this]; rfl
  show wpAny _ _ (match Builtin.Slice.sliceAdjust none none (-1) (n : Int) with | (lo, hi) => pure (lo, (-1 : Int), Builtin.Slice.slicePlaces lo hi (-1))) _ _ s
  rw [e3]
  show wpAny _ _ (pure ((n : Int) - 1, (-1 : Int), Builtin.Slice.slicePlaces ((n : Int) - 1) (-1) (-1))) _ _ s
  rw [e4]
  exact wpAny_pure h
theorem picked_back (xs : Array Value) : ((List.range xs.size).filterMap fun (k : Nat) => xs[((xs.size : Int) - 1 + (k : Int) * -1).toNat]?).toArray = xs.toList.reverse.toArray := by
  have e : ((List.range xs.size).filterMap fun (k : Nat) => xs[((xs.size : Int) - 1 + (k : Int) * -1).toNat]?) = xs.toList.reverse := by
    have fm : (List.range xs.size).filterMap (fun (k : Nat) => xs[((xs.size : Int) - 1 + (k : Int) * -1).toNat]?) = (List.range xs.size).filterMap (fun k => xs.toList.reverse[k]?) := by
      have gen : ∀ l : List Nat, (∀ k ∈ l, k < xs.size) → l.filterMap (fun (k : Nat) => xs[((xs.size : Int) - 1 + (k : Int) * -1).toNat]?) = l.filterMap (fun k => xs.toList.reverse[k]?) := fun l => by
        induction l with
        | nil => intro _; rfl
        | cons k l ih =>
          intro hl
          have hk : k < xs.size := hl k (by simp)
          have e : xs[((xs.size : Int) - 1 + (k : Int) * -1).toNat]? = xs.toList.reverse[k]? := by
            rw [List.getElem?_reverse (by simpa using hk)]
            have : ((xs.size : Int) - 1 + (k : Int) * -1).toNat = xs.toList.length - 1 - k := by simp; omega
            rw [this]; simp
          rw [List.filterMap_cons, List.filterMap_cons, e, ih fun k hk => hl k (List.mem_cons_of_mem _ hk)]
      exact gen _ fun k hk => List.mem_range.mp hk
    rw [fm]
    have all : ∀ l : List Value, (List.range l.length).filterMap (fun k => l[k]?) = l := fun l => by
      induction l with
      | nil => rfl
      | cons a l ih =>
        rw [List.length_cons, List.range_succ_eq_map, List.filterMap_cons]
        simp only [List.getElem?_cons_zero, List.filterMap_map]
        congr 1
    have := all xs.toList.reverse
    rw [List.length_reverse, Array.length_toList] at this
    rw [this]
  rw [e]
theorem tuple_back {t sl : Addr} {items : Array Value} {tk : PySem.Tok} {Q : Value → Shared → Prop} (at_ : IsTup s.heap t items) (ofS : s.heap.IsSliceOf sl .none .none (.int (-1) tk)) (small : items.size ≤ sizeLine)
    (h : Q (.ref s.heap.objs.size) { s with heap := s.heap.push { cls := .type "tuple", data := .seq items.toList.reverse.toArray } }) : wpAny (model prog w) A (getItem (.ref t) (.ref sl)) Q E s := by
  have fits : sizeOk (.seq items.toList.reverse.toArray) := by
    show items.toList.reverse.toArray.size ≤ sizeLine
    rw [List.size_toArray, List.length_reverse, Array.length_toList]; exact small
  have kind : s.TypeIs (.ref sl) "slice" := let ⟨ob, e1, e2, _⟩ := id ofS; ⟨ob, e1, e2⟩
  unfold getItem
  try with_reducible refine wpAny_holding ?_
  first | refine wpAny_bind (wpAny_pure ?_) | skip
  refine wpAny_bind (wpAny_sequenceKey at_.typeIs (by decide) (wpAny_bind (wpAny_callSpecial?_slot (name := Str.ofString "__getitem__") at_.typeIs PyProof.Rows.slot_tuple_getitem
    (wpAny_call_entry PyProof.Rows.slot_tuple_getitem at_.typeIs entry_tuple_getitem ?_ (args_tuple_getitem _ _)))))
  show wpAny _ _ (Builtin.Tuple.tupleItemsOf (.ref t) >>= _) _ _ s
  refine wpAny_bind (tupleItemsOf_ at_ (wpAny_bind (wpAny_typeOf kind ?_)))
  rw [if_pos (by decide)]
  refine wpAny_bind (applied_back (n := items.size) ofS ?_)
  have no : ¬ ((((items.size : Int) - 1) == 0 && (-1 : Int) == 1 && items.size == items.size) = true) := by simp
  show wpAny _ _ (if (((items.size : Int) - 1) == 0 && (-1 : Int) == 1 && items.size == items.size) = true then _ else _) _ _ s
  rw [if_neg no, picked_back]
  first
    | exact wpAny_bind (m := Builtin.Tuple.tupleExact _) (wpAny_newObj_type (wpAny_pure ⟨_, rfl, wpAny_pure h⟩) fits)
    | exact wpAny_bind (m := Builtin.Tuple.tupleExact _) (wpAny_newObj_type (wpAny_bind (wpAny_pure (wpAny_pure ⟨_, rfl, wpAny_pure h⟩))) fits)
    | exact wpAny_bind (wpAny_bind (m := Builtin.Tuple.tupleExact _) (wpAny_newObj_type (wpAny_pure (wpAny_pure ⟨_, rfl, wpAny_pure h⟩)) fits))
    | exact wpAny_bind (wpAny_bind (m := Builtin.Tuple.tupleExact _) (wpAny_newObj_type (wpAny_pure ⟨_, rfl, wpAny_pure h⟩) fits))
end
section
variable {G : GC} {X : Cx} {Wx : WX} {w : Wd}
/-- x[::-1] of a tuple -/
def eBackT (a : ED) : ED := fun env S => (a env S).bind fun x S1 => match x with
  | .tup l => .ok (.tup l.reverse) S1
  | _ => .bad
theorem RepL.rev {l : List D} : ∀ {vs : List V}, RepL G w l vs → RepL G w l.reverse vs.reverse := by
  induction l with
  | nil => intro vs h; simp only [RepL] at h; subst h; simp [RepL]
  | cons d ds ih =>
    intro vs h
    simp only [RepL] at h
    obtain ⟨v, r, rfl, h1, h2⟩ := h
    rw [List.reverse_cons, List.reverse_cons]
    exact (ih h2).append (RepL.one h1)
theorem q_backT {e : Expr} {m : ED} {k : Nat} {p1 p2 p3 pos : Pos} (hK : X.K = G.K) (he : PE X e (tE G m Wx)) : PE X (.Subscript e (.Slice none none (some (.UnaryOp .USub (.Constant (.int 1) k p1) p2)) p3) pos) (tE G (eBackT m) Wx) := by
  refine ⟨fun pins s σ H Q I h => ?_⟩
  obtain ⟨w, env, rfl, sr, er, p⟩ := h
  refine Subscript_ (thn (he.run pins s σ w.H _ I ⟨w, env, rfl, sr, er, Post.bind (Ra := Rep G) p⟩) fun v s1 ⟨x, H1, I1, r1, q1⟩ => ?_)
  obtain ⟨w1, d1, rfl, x1, sr1, rp1, pq⟩ := q1
  cases d1 with
  | tup l =>
    simp only [Rep] at rp1
    obtain ⟨a, vs, rfl, h1, h2⟩ := rp1
    cases r1
    have step : PO X (some (.UnaryOp .USub (.Constant (.int 1) k p1) p2)) (tPart (tUn (rU fun i => .int (-i)) (tC (.int 1)))) := po_some (pe_un un_neg pe_int)
    refine wpAny_Slice (thn (po_none.run pins s1 σ w1.H (fun o H2 => o = none ∧ H2 = w1.H) I1 ⟨rfl, rfl⟩) fun va s2 ⟨oa, H2, I2, pa, ea, ha⟩ => ?_)
    subst ea ha
    refine thn (po_none.run pins s2 σ w1.H (fun o H3 => o = none ∧ H3 = w1.H) I2 ⟨rfl, rfl⟩) fun vb s3 ⟨ob, H3, I3, pb, eb, hb⟩ => ?_
    subst eb hb
    refine thn (step.run pins s3 σ w1.H (fun o H4 => o = some (-1) ∧ H4 = w1.H) I3 ⟨1, rfl, -1, rfl, rfl, rfl⟩) fun vc s4 ⟨oc, H4, I4, pc, ec, hc⟩ => ?_
    subst ec hc
    cases pa
    cases pb
    cases pc with
    | int i t =>
      have I5 : Inv X pins σ w1.H { s4 with heap := s4.heap.push { cls := .type "slice", data := .fields #[.none, .none, .int (-1) t] } } := I4.kept (t' := s4.toks) fun b ob q => Heap.get?_push_of_some _ q
      obtain ⟨its, rv, tp, hz⟩ := I5.tuple (xs := vs) (by rw [hK]; exact SqT_of h1)
      have hl := rv.length
      show wpAny (model X.prog X.w) X.A (subscriptTail e (.Slice none none (some (.UnaryOp .USub (.Constant (.int 1) k p1) p2)) p3) (.ref a) (.ref s4.heap.objs.size)) (EP X pins σ Q) X.xe { s4 with heap := s4.heap.push { cls := .type "slice", data := .fields #[.none, .none, .int (-1) t] } }
      refine tail_any (ops := [.ref a, .ref s4.heap.objs.size]) tp.typeIs PyProof.Rows.slot_tuple_getitem.lookup ?_ (by with_unfolding_all rfl)
      refine tuple_back tp (Heap.IsSliceOf.new _ .none .none (.int (-1) t)) (by rw [List.size_toArray]; omega) ?_
      have hfr := I5.hok.fresh (Nat.le_refl _)
      refine ⟨.ref _, _, I5.laid (t' := s4.toks) (o := .tup vs.reverse) (fun b ob q => Heap.get?_push_of_some _ q) (Nat.le_refl _) ?_, rfl, new_tup sr1 h2.rev pq _ hfr⟩
      exact ⟨by rw [List.length_reverse]; exact hz, its.reverse, rv.reverse, ⟨_, Heap.get?_push_size _ rfl, rfl, _, rfl⟩⟩
  | _ => exact pq.elim
end
end L3
namespace L3
open PySem PySem.Spec PyProof.Rows L2
/-! ### keywords in any order -/
theorem vals_getD : ∀ {vs : List V} {us : List Value}, Vals vs us → ∀ i : Nat, RelV (vs.getD i .non) (us.getD i .none)
  | [], us, h, i => by cases h; exact rfl
  | v :: vs, us, h, 0 => by
    cases h with
    | cons r _ => exact r
  | v :: vs, us, h, i + 1 => by
    cases h with
    | cons _ t => exact vals_getD t i
theorem repl_getD {G : GC} {w : Wd} : ∀ {ds : List D} {vs : List V}, RepL G w ds vs → ∀ i : Nat, Rep G w (ds.getD i .non) (vs.getD i .non)
  | [], vs, h, i => by simp only [RepL] at h; subst h; simp [Rep]
  | d :: ds, vs, h, 0 => by
    simp only [RepL] at h
    obtain ⟨v, r, rfl, h1, _⟩ := h
    exact h1
  | d :: ds, vs, h, i + 1 => by
    simp only [RepL] at h
    obtain ⟨v, r, rfl, _, h2⟩ := h
    exact repl_getD h2 i
/-- from where each parameter comes: the positional values (false) or the keywords' (true) -/
def gath {α : Type} (z : α) (src : List (Bool × Nat)) (us ws : List α) : List α := src.map fun p => if p.1 then ws.getD p.2 z else us.getD p.2 z
theorem gath_vals {vs zs : List V} {us ws : List Value} (h : Vals vs us) (g : Vals zs ws) : ∀ src : List (Bool × Nat), Vals (gath .non src vs zs) (gath .none src us ws)
  | [] => .nil
  | p :: r => by
    refine .cons ?_ (gath_vals h g r)
    show RelV (if p.1 then zs.getD p.2 .non else vs.getD p.2 .non) (if p.1 then ws.getD p.2 .none else us.getD p.2 .none)
    split
    · exact vals_getD g _
    · exact vals_getD h _
theorem gath_reps {G : GC} {w : Wd} {ds es : List D} {vs zs : List V} (h : RepL G w ds vs) (g : RepL G w es zs) : ∀ src : List (Bool × Nat), RepL G w (gath .non src ds es) (gath .non src vs zs)
  | [] => by simp [gath, RepL]
  | p :: r => by
    show RepL G w ((if p.1 then es.getD p.2 .non else ds.getD p.2 .non) :: gath .non r ds es) ((if p.1 then zs.getD p.2 .non else vs.getD p.2 .non) :: gath .non r vs zs)
    simp only [RepL]
    refine ⟨_, _, rfl, ?_, gath_reps h g r⟩
    split
    · exact repl_getD g _
    · exact repl_getD h _
section
variable {X : Cx} {G : GC} {Wx : WX} {pos p : Pos} {k : Nat} {f : Addr} {fd : FuncData} {ps : List Str} {F : FN} {x : Str}
theorem kbd_of {n : Nat} {ks : List Str} (src : List (Bool × Nat)) (h : ∀ (s : Shared) (us ws : List Value), us.length = n → ws.length = ks.length → BindsTo s fd ⟨us, ks.zip ws⟩ (ps.zip (gath .none src us ws))) : Kbd G fd ps n ks (gath .non src) :=
  ⟨gath .none src, gath .non src, ⟨fun s us ws _ h1 h2 => h s us ws h1 h2, fun r1 r2 => gath_vals r1 r2 src⟩, fun w ds es vs zs _ _ r1 r2 => gath_reps r1 r2 src⟩
/-- f(k = v, ..) -/
theorem q_fnK0 {kws : List Keyword} {ks : List Str} {gD : List D → List D → List D} {b : AD} (c : Cal X.prog X.w G X.base k x f fd ps F) (hb : Kbd G fd ps 0 ks gD) (hr : RoomG k X.A) (hK : X.K = G.K) (hm : X.mg = G.mg) (hg : Gl X x) (tk : Takes X Wx)
    (hkw : QK X G Wx kws b) (hall : (backToKw pos (keywordEach kws X.env)).all (·.1.isSome) = true := by rfl) (hks : (backToKw pos (keywordEach kws X.env)).filterMap (·.1) = ks := by rfl)
    (hdb : (x == ("__debug__" : Str)) = false := by decide) (hpl : ((backTo pos (starEach [] X.env)).any (·.1) || (backToKw pos (keywordEach kws X.env)).any (·.1.isNone)) = false := by rfl) :
    PE X (.Call (.Name x p) [] kws pos) (tE G (eKw (kwK F 0 ks.length gD) aNil b) Wx) := by
  obtain ⟨g, gV, hn, hrep⟩ := hb
  have ok := c.ok
  rw [← hK, ← hm] at ok
  have kp : PySem.W.keepIn X.K (.ref f) = true := by rw [hK]; exact c.kp
  rw [← hK] at hn
  refine ⟨fun pins s σ H Q I q => ?_⟩
  obtain ⟨wd, env, rfl, sr, er, pp⟩ := q
  refine wpAny_Call_Name_kw (ld_glob I hg (by rw [hm]; exact c.m) ?_ hdb)
  refine PySem.W.callWith_KW0 (h₀ := X.base) I.ok.mod.kin kp hall ?_ hpl
  refine thn (hkw.pk.run pos pins s σ wd.H _ I ⟨wd, env, rfl, sr, er, Post.bind (Ra := RepL G) pp⟩) fun ws s2 ⟨zs, H2, I2, rz, q2⟩ => ⟨I2.kIn, ?_⟩
  obtain ⟨w2, d2, rfl, x2, s2', rp2, p2⟩ := q2
  rw [hks]
  unfold kwK at p2
  split at p2
  · rename_i hl
    refine wpAny_call (codeAny_mono (FnG.called (E := WE Wx) ok hr (passAt tk σ) I2 (hn.to s2 [] ws I2.kIn rfl ?_) (hn.rel .nil rz) ⟨w2, gD [] d2, rfl, s2', hrep w2 [] d2 [] zs hl.1 hl.2 (by simp [RepL]) rp2, p2⟩) fun r s' hq => ?_)
    · rw [← rz.length, rp2.length]; exact hl.2
    · match r, hq with
      | .error e, hq => exact hq
      | .ok (.ret u), hq => exact hq
  · exact p2.elim
end
theorem b_repr : bootBuiltins "repr" = some (.builtin "repr") := by decide +kernel
theorem b_sorted : bootBuiltins "sorted" = some (.builtin "sorted") := by decide +kernel
end L3
set_option Elab.async false
set_option linter.all false
set_option maxRecDepth 100000
/-! L3N: what an answer satisfies (the plain laws are shown by these). -/
namespace L3
open PySem
/-- an equation that simp does not take as one by definition (the kernel would run the terms) -/
theorem nrfl {α : Sort u} {a b : α} (h : a = b) : a = b := h

/-- two lists, item by item -/
inductive All2 {α β : Type} (P : α → β → Prop) : List α → List β → Prop where
  | nil : All2 P [] []
  | cons {x y xs ys} : P x y → All2 P xs ys → All2 P (x :: xs) (y :: ys)
theorem All2.imp {α β : Type} {P R : α → β → Prop} {xs ys} (h : All2 P xs ys) (m : ∀ x ∈ xs, ∀ y, P x y → R x y) : All2 R xs ys := by
  induction h with
  | nil => exact .nil
  | cons p _ ih => exact .cons (m _ (List.mem_cons_self ..) _ p) (ih fun x hx => m x (List.mem_cons_of_mem _ hx))
theorem All2.map_r {α β γ : Type} {P : α → γ → Prop} {f : β → γ} {xs : List α} {ys : List β} (h : All2 (fun x y => P x (f y)) xs ys) : All2 P xs (ys.map f) := by
  induction h with
  | nil => exact .nil
  | cons p _ ih => exact .cons p ih
theorem All2.app {α β : Type} {P : α → β → Prop} {xs xs' ys ys'} (h : All2 P xs ys) (g : All2 P xs' ys') : All2 P (xs ++ xs') (ys ++ ys') := by
  induction h with
  | nil => exact g
  | cons p _ ih => exact .cons p ih
theorem All2.len {α β : Type} {P : α → β → Prop} {xs ys} (h : All2 P xs ys) : ys.length = xs.length := by induction h <;> simp_all
theorem All2.all {α β : Type} {P : α → β → Prop} {R : β → Prop} {xs ys} (h : All2 P xs ys) (m : ∀ x ∈ xs, ∀ y, P x y → R y) : ∀ y ∈ ys, R y := by
  induction h with
  | nil => intro y h; cases h
  | cons p _ ih =>
    intro y h
    rcases List.mem_cons.mp h with rfl | h
    · exact m _ (List.mem_cons_self ..) _ p
    · exact ih (fun x hx => m x (List.mem_cons_of_mem _ hx)) y h
/-- an inductive predicate: nothing unfolds it (a term to be run is not run by a look at its goal) -/
inductive R.sat {α : Type} : R α → (α → Store → Prop) → Prop where
  | mk {a : α} {S : Store} {Q : α → Store → Prop} (h : Q a S) : R.sat (.ok a S) Q
section
variable {α β : Type} {S : Store} {env : EnvD} {d : D}
@[simp] theorem sat_ok {a : α} {Q : α → Store → Prop} : (R.ok a S).sat Q = Q a S := propext ⟨fun h => by cases h; assumption, .mk⟩
@[simp] theorem sat_bad {Q : α → Store → Prop} : (R.bad : R α).sat Q = False := propext ⟨fun h => (by cases h), False.elim⟩
@[simp] theorem sat_exc {e : Ex} {Q : α → Store → Prop} : (R.exc e S : R α).sat Q = False := propext ⟨fun h => (by cases h), False.elim⟩
theorem sat_bind {r : R α} {f : α → Store → R β} {Q : β → Store → Prop} : (r.bind f).sat Q = r.sat fun a S => (f a S).sat Q := by cases r <;> simp [R.bind]
theorem sat_mono {r : R α} {Q Q' : α → Store → Prop} (h : r.sat Q) (m : ∀ a S, Q a S → Q' a S) : r.sat Q' := by cases h with | mk h => exact .mk (m _ _ h)
theorem sat_ex {r : R α} {Q : α → Store → Prop} : r.sat Q ↔ ∃ a S, r = .ok a S ∧ Q a S :=
  ⟨fun h => by cases h with | mk h => exact ⟨_, _, rfl, h⟩, fun ⟨_, _, e, h⟩ => by rw [e]; exact .mk h⟩
theorem sat_if {c : Prop} [Decidable c] {a b : R α} {Q : α → Store → Prop} : (if c then a else b).sat Q = if c then a.sat Q else b.sat Q := by split <;> rfl
theorem sat_if_bad {c : Prop} [Decidable c] {a : R α} {Q : α → Store → Prop} : (if c then a else .bad).sat Q = (c ∧ a.sat Q) := by by_cases h : c <;> simp [h]
def blD (x : D) (S : Store) : R Bool := match x with
  | .bl k => .ok k S
  | _ => .bad
@[simp] theorem blD_bl {k : Bool} : blD (.bl k) S = .ok k S := nrfl rfl
theorem of_sat {r : R α} {x : α} (h : r.sat fun d S' => d = x ∧ S' = S) : r = .ok x S := by
  obtain ⟨a, S', e, rfl, rfl⟩ := sat_ex.mp h
  exact e
theorem to_sat {r : R α} {x : α} {Q : α → Store → Prop} (h : r = .ok x S) (q : Q x S) : r.sat Q := by rw [h]; exact .mk q
/-! expressions -/
variable {Q : D → Store → Prop} {QB : Bool → Store → Prop} {QL : List D → Store → Prop}
@[simp] theorem sat_eVar {i : Nat} : (eVar i env S).sat Q = match env[i]? with
    | some (some d) => Q d S
    | _ => False := by unfold eVar; cases env[i]? with
  | none => simp
  | some o => cases o <;> simp
@[simp] theorem sat_eK : (eK d env S).sat Q = Q d S := sat_ok
@[simp] theorem sat_e1 {f : L3.F1} {a : ED} : (e1 f a env S).sat Q = (a env S).sat fun x S1 => (f x S1).sat Q := sat_bind
@[simp] theorem sat_e2 {f : L3.F2} {a b : ED} : (e2 f a b env S).sat Q = (a env S).sat fun x S1 => (b env S1).sat fun y S2 => (f x y S2).sat Q := by unfold e2; rw [sat_bind]; simp only [sat_bind]
@[simp] theorem sat_aNil : (aNil env S).sat QL = QL [] S := sat_ok
@[simp] theorem sat_aCons {a : ED} {r : AD} : (aCons a r env S).sat QL = (a env S).sat fun x S1 => (r env S1).sat fun xs S2 => QL (x :: xs) S2 := by unfold aCons; rw [sat_bind]; simp only [sat_bind, sat_ok]
@[simp] theorem sat_eN {f : FN} {a : AD} : (eN f a env S).sat Q = (a env S).sat fun xs S1 => (f xs S1).sat Q := sat_bind
@[simp] theorem sat_eIf {c : TD} {a b : ED} : (eIf c a b env S).sat Q = (c env S).sat fun k S1 => if k = true then (a env S1).sat Q else (b env S1).sat Q := by
  unfold eIf; rw [sat_bind]; congr; funext k S1; cases k <;> simp
@[simp] theorem sat_tOfE {a : ED} : (tOfE a env S).sat QB = (a env S).sat fun x S1 => (blD x S1).sat QB := by
  unfold tOfE; rw [sat_bind]; congr
@[simp] theorem sat_tTruth {a : ED} : (tTruth a env S).sat QB = (a env S).sat fun x S1 => (truthD x S1).sat QB := sat_bind
@[simp] theorem truthD_bl {k : Bool} : truthD (.bl k) S = .ok k S := nrfl rfl
@[simp] theorem truthD_non : truthD .non S = .ok false S := nrfl rfl
@[simp] theorem truthD_int {i : Int} : truthD (.int i) S = .ok (i != 0) S := nrfl rfl
@[simp] theorem truthD_tup {l : List D} : truthD (.tup l) S = .ok (!l.isEmpty) S := nrfl rfl
@[simp] theorem truthD_lst {l : List D} : truthD (.lst l) S = .ok (!l.isEmpty) S := nrfl rfl
@[simp] theorem sat_tNot {a : TD} : (tNot a env S).sat QB = (a env S).sat fun k S1 => QB (!k) S1 := by unfold tNot; rw [sat_bind]; simp only [sat_ok]
@[simp] theorem sat_tAnd {a b : TD} : (tAnd a b env S).sat QB = (a env S).sat fun k S1 => if k = true then (b env S1).sat QB else QB false S1 := by
  unfold tAnd; rw [sat_bind]; congr; funext k S1; cases k <;> simp
@[simp] theorem sat_tOr {a b : TD} : (tOr a b env S).sat QB = (a env S).sat fun k S1 => if k = true then QB true S1 else (b env S1).sat QB := by
  unfold tOr; rw [sat_bind]; congr; funext k S1; cases k <;> simp
@[simp] theorem sat_eNot {a : ED} : (eNot a env S).sat Q = (a env S).sat fun x S1 => (blD x S1).sat fun k S2 => Q (.bl (!k)) S2 := by
  unfold eNot; rw [sat_bind, sat_tOfE]; simp only [sat_ok]
@[simp] theorem sat_eAnd {a b : ED} : (eAnd a b env S).sat Q = (a env S).sat fun x S1 => (blD x S1).sat fun k S2 => if k = true then (b env S2).sat Q else Q (.bl false) S2 := by
  unfold eAnd; rw [sat_bind, sat_tOfE]; congr; funext x S1; congr; funext k S2; cases k <;> simp
@[simp] theorem sat_eOr {a b : ED} : (eOr a b env S).sat Q = (a env S).sat fun x S1 => (blD x S1).sat fun k S2 => if k = true then Q (.bl true) S2 else (b env S2).sat Q := by
  unfold eOr; rw [sat_bind, sat_tOfE]; congr; funext x S1; congr; funext k S2; cases k <;> simp
@[simp] theorem sat_eChain {f g : L3.F2} {a b c : ED} : (eChain f g a b c env S).sat Q = (a env S).sat fun x S1 => (b env S1).sat fun y S2 => (f x y S2).sat fun r S3 => (blD r S3).sat fun k S4 => if k = true then (c env S4).sat fun z S5 => (g y z S5).sat Q else Q (.bl false) S4 := by
  unfold eChain; rw [sat_bind]; simp only [sat_bind]; congr; funext x S1; congr; funext y S2; congr; funext r S3
  cases r with
  | bl k => cases k <;> simp [sat_bind]
  | _ => simp [blD]
@[simp] theorem sat_eBM {T : String} {f : D → FN} {o : ED} {a : AD} : (eBM T f o a env S).sat Q = (o env S).sat fun x S1 => (mtD x S1 = some T ∧ (a env S1).sat fun xs S2 => (f x xs S2).sat Q) := by
  unfold eBM; rw [sat_bind]; congr; funext x S1; rw [sat_if_bad, sat_bind]
@[simp] theorem sat_eKw {f : List D → FN} {a b : AD} : (eKw f a b env S).sat Q = (a env S).sat fun xs S1 => (b env S1).sat fun zs S2 => (f xs zs S2).sat Q := by unfold eKw; rw [sat_bind]; simp only [sat_bind]
@[simp] theorem sat_eFnL {i : Nat} {x : Str} {F : FN} {a : AD} : (eFnL i x F a env S).sat Q = match env[i]? with
    | some (some (.glb y)) => y = x ∧ (a env S).sat fun xs S1 => (F xs S1).sat Q
    | _ => False := by
  unfold eFnL
  cases env[i]? with
  | none => simp
  | some o =>
    cases o with
    | none => simp
    | some d =>
      cases d with
      | glb y => simp only []; rw [sat_if_bad, sat_bind]
      | _ => simp
@[simp] theorem callK_eq {F : FN} {dds xs : List D} : callK F dds xs S = F (xs ++ dds) S := nrfl rfl
@[simp] theorem sat_iSeq {a : ED} : (iSeq a env S).sat QL = (a env S).sat fun x S1 => (itemsD x S1).sat QL := sat_bind
@[simp] theorem sat_iArgs {f : List D → Store → R (List D)} {a : AD} : (iArgs f a env S).sat QL = (a env S).sat fun xs S1 => (f xs S1).sat QL := sat_bind
@[simp] theorem itemsD_lst {l : List D} : itemsD (.lst l) S = .ok l S := nrfl rfl
@[simp] theorem itemsD_tup {l : List D} : itemsD (.tup l) S = .ok l S := nrfl rfl
@[simp] theorem sat_range1 {j : Int} : (range1 [.int j] S).sat QL = (okRng j = true ∧ QL (rangeD 0 j) S) := by unfold range1; simp only []; rw [sat_if_bad, sat_ok]
@[simp] theorem sat_range2 {i j : Int} : (range2 [.int i, .int j] S).sat QL = ((okRng i && okRng j) = true ∧ QL (rangeD i j) S) := by unfold range2; simp only []; rw [sat_if_bad, sat_ok]
@[simp] theorem sat_mkTup {xs : List D} : (mkTup xs S).sat Q = (xs.length ≤ sizeLine ∧ Q (.tup xs) S) := by unfold mkTup; rw [sat_if_bad, sat_ok]
@[simp] theorem sat_mkLst {xs : List D} : (mkLst xs S).sat Q = (xs.length ≤ sizeLine ∧ Q (.lst xs) S) := by unfold mkLst; rw [sat_if_bad, sat_ok]
@[simp] theorem sat_mkObj {xs : List D} : (mkObj xs S).sat Q = (xs.length ≤ sizeLine ∧ Q (.obj S.length) (S ++ [.lst xs])) := by unfold mkObj; rw [sat_if_bad, sat_ok]
/-! a list comprehension -/
/-- what one turn gives: kept or not, under the turn's own wish -/
def lcSat (g : GD) (tt : TD) (te : ED) (env : EnvD) : List D → Store → (List D → Store → Prop) → Prop
  | [], S, Q => Q [] S
  | x :: xs, S, Q => match g x env S with
    | .nx env1 S1 => (tt env1 S1).sat fun k S2 => if k = true then (te env1 S2).sat fun y S3 => lcSat g tt te env xs S3 fun ys S4 => Q (y :: ys) S4 else lcSat g tt te env xs S2 Q
    | _ => False
theorem sat_nox {r : R α} {Q : α → Store → Prop} : r.nox.sat Q = r.sat Q := by cases r <;> simp [R.nox]
theorem sat_lcL {g : GD} {tt : TD} {te : ED} {env : EnvD} : ∀ {xs : List D} {S : Store} {Q : List D → Store → Prop}, (lcL g tt te env xs S).sat Q = lcSat g tt te env xs S Q
  | [], _, _ => sat_ok
  | x :: xs, S, Q => by
    unfold lcL lcSat
    cases g x env S with
    | nx env1 S1 =>
      simp only
      rw [sat_bind, sat_nox]
      congr; funext k S2
      cases k with
      | true => simp only [if_true]; rw [sat_bind, sat_nox]; congr; funext y S3; rw [sat_bind, sat_lcL]; simp only [sat_ok]
      | false => simp only [Bool.false_eq_true, if_false]; exact sat_lcL
    | _ => simp
theorem sat_eLc {mi : ID} {vs : List Nat} {g : GD} {tt : TD} {te : ED} : (eLc mi vs g tt te env S).sat Q = (mi env S).sat fun xs S1 => (xs.length ≤ sizeLine ∧ lcSat g tt te (wipeD env vs) xs S1 fun ys S2 => Q (.lst ys) S2) := by
  unfold eLc; rw [sat_bind]; congr; funext xs S1; rw [sat_if_bad, sat_bind, sat_lcL]; simp only [sat_ok]
theorem lcSat_mono {g : GD} {tt : TD} {te : ED} {env : EnvD} : ∀ {xs : List D} {S : Store} {Q Q' : List D → Store → Prop}, lcSat g tt te env xs S Q → (∀ a S, Q a S → Q' a S) → lcSat g tt te env xs S Q'
  | [], _, _, _, h, m => m _ _ h
  | x :: xs, S, Q, Q', h, m => by
    unfold lcSat at h ⊢
    revert h
    cases g x env S with
    | nx env1 S1 =>
      simp only
      refine fun h => sat_mono h fun k S2 h => ?_
      cases k with
      | true => simp only [if_true] at h ⊢; exact sat_mono h fun y S3 h => lcSat_mono h fun ys S4 h => m _ _ h
      | false => simp only [Bool.false_eq_true, if_false] at h ⊢; exact lcSat_mono h m
    | _ => exact fun h => h
/-- with a rule for the turns: from x and the store, an answer y and a store, by I (what holds of the store between turns) and P x y -/
theorem lc_rule {i : Nat} {te : ED} {env : EnvD} (I : Store → Prop) (P : D → D → Prop) : ∀ {xs : List D} {S : Store} {Q : List D → Store → Prop},
    I S → (∀ x ∈ xs, ∀ S, I S → (te (env.set i (some x)) S).sat fun y S' => P x y ∧ I S') → (∀ ys S', I S' → All2 P xs ys → Q ys S') → lcSat (gName i) tYesD te env xs S Q
  | [], S, Q, hI, ht, hQ => hQ [] S hI .nil
  | x :: xs, S, Q, hI, ht, hQ => by
    unfold lcSat
    simp only [gName, tYesD, sat_ok, if_true]
    refine sat_mono (ht x (List.mem_cons_self ..) S hI) fun y S3 h => ?_
    exact lc_rule I P h.2 (fun x hx => ht x (List.mem_cons_of_mem _ hx)) fun ys S' h1 h2 => hQ _ _ h1 (.cons h.1 h2)
/-- where the turns leave the store alone and the answer is a function of the item -/
theorem lc_map {i : Nat} {te : ED} {env : EnvD} (f : D → D) {xs : List D} {S : Store} {Q : List D → Store → Prop}
    (ht : ∀ x ∈ xs, (te (env.set i (some x)) S).sat fun y S' => y = f x ∧ S' = S) (hQ : Q (xs.map f) S) : lcSat (gName i) tYesD te env xs S Q := by
  induction xs generalizing Q with
  | nil => exact hQ
  | cons x xs ih =>
    unfold lcSat
    simp only [gName, tYesD, sat_ok, if_true]
    refine sat_mono (ht x (List.mem_cons_self ..)) fun y S' h => ?_
    obtain ⟨rfl, rfl⟩ := h
    exact ih (fun x hx => ht x (List.mem_cons_of_mem _ hx)) hQ
/-- the same, item by item -/
theorem lc_two {i : Nat} {te : ED} {env : EnvD} {xs ys : List D} {S : Store} {Q : List D → Store → Prop}
    (ht : All2 (fun x y => (te (env.set i (some x)) S).sat fun z S' => z = y ∧ S' = S) xs ys) (hQ : Q ys S) : lcSat (gName i) tYesD te env xs S Q := by
  induction ht generalizing Q with
  | nil => exact hQ
  | @cons x y xs ys p _ ih =>
    unfold lcSat
    simp only [gName, tYesD, sat_ok, if_true]
    refine sat_mono p fun z S' h => ?_
    obtain ⟨rfl, rfl⟩ := h
    exact ih hQ
/-! statements -/
end
inductive SR.sat : SR → (EnvD → Store → Prop) → (D → Store → Prop) → (EnvD → Store → Prop) → (EnvD → Store → Prop) → Prop where
  | nx {e S} {N : EnvD → Store → Prop} {T : D → Store → Prop} {B C : EnvD → Store → Prop} (h : N e S) : SR.sat (.nx e S) N T B C
  | ret {d S} {N : EnvD → Store → Prop} {T : D → Store → Prop} {B C : EnvD → Store → Prop} (h : T d S) : SR.sat (.ret d S) N T B C
  | brk {e S} {N : EnvD → Store → Prop} {T : D → Store → Prop} {B C : EnvD → Store → Prop} (h : B e S) : SR.sat (.brk e S) N T B C
  | ct {e S} {N : EnvD → Store → Prop} {T : D → Store → Prop} {B C : EnvD → Store → Prop} (h : C e S) : SR.sat (.ct e S) N T B C
section
variable {S : Store} {env : EnvD} {d : D} {N B C : EnvD → Store → Prop} {T : D → Store → Prop} {Q : D → Store → Prop}
@[simp] theorem ssat_nx : (SR.nx env S).sat N T B C = N env S := propext ⟨fun h => by cases h; assumption, .nx⟩
@[simp] theorem ssat_ret : (SR.ret d S).sat N T B C = T d S := propext ⟨fun h => by cases h; assumption, .ret⟩
@[simp] theorem ssat_brk : (SR.brk env S).sat N T B C = B env S := propext ⟨fun h => by cases h; assumption, .brk⟩
@[simp] theorem ssat_ct : (SR.ct env S).sat N T B C = C env S := propext ⟨fun h => by cases h; assumption, .ct⟩
@[simp] theorem ssat_bad : SR.bad.sat N T B C = False := propext ⟨fun h => (by cases h), False.elim⟩
@[simp] theorem ssat_exc {e : Ex} : (SR.exc e env S).sat N T B C = False := propext ⟨fun h => (by cases h), False.elim⟩
theorem ssat_toS {α : Type} {r : R α} {k : α → Store → SR} : (r.toS env k).sat N T B C = r.sat fun a S => (k a S).sat N T B C := by cases r <;> simp [R.toS]
theorem ssat_mono {r : SR} {N' B' C' : EnvD → Store → Prop} {T' : D → Store → Prop} (h : r.sat N T B C) (hN : ∀ e S, N e S → N' e S) (hT : ∀ d S, T d S → T' d S) (hB : ∀ e S, B e S → B' e S) (hC : ∀ e S, C e S → C' e S) : r.sat N' T' B' C' := by
  cases h with
  | nx h => exact .nx (hN _ _ h)
  | ret h => exact .ret (hT _ _ h)
  | brk h => exact .brk (hB _ _ h)
  | ct h => exact .ct (hC _ _ h)
@[simp] theorem ssat_skip : (sSkip env S).sat N T B C = N env S := ssat_nx
@[simp] theorem ssat_seq {a b : SD} : (sSeq a b env S).sat N T B C = (a env S).sat (fun e S => (b e S).sat N T B C) T B C := by
  unfold sSeq; cases a env S <;> simp
@[simp] theorem ssat_if {c : TD} {a b : SD} : (sIf c a b env S).sat N T B C = (c env S).sat fun k S1 => if k = true then (a env S1).sat N T B C else (b env S1).sat N T B C := by
  unfold sIf; rw [ssat_toS]; congr; funext k S1; cases k <;> simp
@[simp] theorem ssat_sRet {a : ED} : (sRet a env S).sat N T B C = (a env S).sat T := by unfold sRet; rw [ssat_toS]; simp only [ssat_ret]
@[simp] theorem ssat_sExpr {a : ED} : (sExpr a env S).sat N T B C = (a env S).sat fun _ S1 => N env S1 := by unfold sExpr; rw [ssat_toS]; simp only [ssat_nx]
@[simp] theorem ssat_sBrk : (sBrk env S).sat N T B C = B env S := ssat_brk
@[simp] theorem ssat_sCt : (sCt env S).sat N T B C = C env S := ssat_ct
@[simp] theorem ssat_asg {a : ED} {g : GD} : (sAsg a g env S).sat N T B C = (a env S).sat fun d S1 => (g d env S1).sat N T B C := by unfold sAsg; rw [ssat_toS]
@[simp] theorem gName_eq {i : Nat} : gName i d env S = .nx (env.set i (some d)) S := nrfl rfl
@[simp] theorem gTup_tup {is : List Nat} {l : List D} : gTup is (.tup l) env S = gNames is l env S := nrfl rfl
@[simp] theorem gNames_nil : gNames [] [] env S = .nx env S := nrfl rfl
@[simp] theorem gNames_cons {i : Nat} {is : List Nat} {ds : List D} : gNames (i :: is) (d :: ds) env S = gNames is ds (env.set i (some d)) S := nrfl rfl
@[simp] theorem ssat_par {is : List Nat} {a : AD} : (sPar is a env S).sat N T B C = (a env S).sat fun xs S1 => (gNames is xs env S1).sat N T B C := by unfold sPar; rw [ssat_toS]
theorem ssat_for {mi : ID} {g : GD} {body : SD} : (sFor mi g body env S).sat N T B C = (mi env S).sat fun xs S1 => (forL g body xs env S1).sat N T B C := by unfold sFor; rw [ssat_toS]
@[simp] theorem forL_nil {g : GD} {body : SD} : (forL g body [] env S).sat N T B C = N env S := ssat_nx
theorem forL_cons {g : GD} {body : SD} {x : D} {xs : List D} : (forL g body (x :: xs) env S).sat N T B C = (g x env S).sat (fun e S => (body e S).sat (fun e S => (forL g body xs e S).sat N T B C) T N (fun e S => (forL g body xs e S).sat N T B C)) (fun _ _ => False) (fun _ _ => False) fun _ _ => False := by
  show SR.sat (match g x env S with
    | .nx env1 S1 => match body env1 S1 with
      | .nx env2 S2 => forL g body xs env2 S2
      | .ct env2 S2 => forL g body xs env2 S2
      | .brk env2 S2 => .nx env2 S2
      | .ret d S2 => .ret d S2
      | .exc e env2 S2 => .exc e env2 S2
      | .bad => .bad
    | _ => .bad) N T B C = _
  cases g x env S with
  | nx env1 S1 => simp only [ssat_nx]; cases body env1 S1 <;> simp
  | _ => simp
/-- a for with an invariant over the number of items done -/
theorem for_rule {g : GD} {body : SD} (I : Nat → EnvD → Store → Prop) {xs : List D} (h0 : I 0 env S)
    (hs : ∀ j (hj : j < xs.length) e S, I j e S → (g xs[j] e S).sat (fun e S => (body e S).sat (I (j + 1)) T N (I (j + 1))) (fun _ _ => False) (fun _ _ => False) fun _ _ => False)
    (hN : ∀ e S, I xs.length e S → N e S) : (forL g body xs env S).sat N T B C := by
  induction xs generalizing I env S with
  | nil => exact .nx (hN _ _ h0)
  | cons x xs ih =>
    rw [forL_cons]
    refine ssat_mono (hs 0 (by simp) env S h0) (fun e1 S1 h => ?_) (fun _ _ h => h) (fun _ _ h => h) (fun _ _ h => h)
    have go : ∀ e S, I 1 e S → (forL g body xs e S).sat N T B C := fun e S h =>
      ih (fun j => I (j + 1)) h (fun j hj e S h => by
        have := hs (j + 1) (by simp; omega) e S h
        simpa using this) (fun e S h => hN e S (by simpa using h))
    exact ssat_mono h go (fun _ _ h => h) (fun _ _ h => h) go
theorem while_rule {c : TD} {body : SD} (I : Nat → EnvD → Store → Prop) {m k : Nat} (hk : m < k) (h0 : I m env S)
    (hs : ∀ m e S, I m e S → (c e S).sat fun b S1 => if b = true then (body e S1).sat (fun e S => ∃ m' < m, I m' e S) T N (fun e S => ∃ m' < m, I m' e S) else N e S1) : (sWhile c body k env S).sat N T B C := by
  induction m using Nat.strongRecOn generalizing k env S with
  | _ m ih =>
    cases k with
    | zero => omega
    | succ k =>
      unfold sWhile
      rw [ssat_toS]
      refine sat_mono (hs m env S h0) fun b S1 h => ?_
      cases b with
      | false => simpa using h
      | true =>
        simp only [if_true] at h ⊢
        have go : ∀ e S, (∃ m' < m, I m' e S) → (sWhile c body k e S).sat N T B C := fun e S ⟨m', hm, h⟩ => ih m' hm (by omega) h
        revert h
        cases body env S1 with
        | nx e2 S2 => intro h; rw [ssat_nx] at h; exact go e2 S2 h
        | ct e2 S2 => intro h; rw [ssat_ct] at h; exact go e2 S2 h
        | brk e2 S2 => intro h; rw [ssat_brk] at h; exact .nx h
        | ret d S2 => intro h; rw [ssat_ret] at h; exact .ret h
        | _ => intro h; cases h
theorem sat_run {np n : Nat} {body : SD} {xs : List D} : (run np n body xs S).sat Q = (xs.length = np ∧ (body (xs.map some ++ List.replicate (n - xs.length) none) S).sat (fun _ S => Q .non S) Q (fun _ _ => False) fun _ _ => False) := by
  unfold run; rw [sat_if_bad]; congr
  cases body (xs.map some ++ List.replicate (n - xs.length) none) S <;> simp [SR.fin]
end
/-! operations -/
section
variable {S : Store} {Q : D → Store → Prop}
@[simp] theorem add_int {i j : Int} : addD (.int i) (.int j) S = .ok (.int (i + j)) S := nrfl rfl
@[simp] theorem sub_int {i j : Int} : subD (.int i) (.int j) S = .ok (.int (i - j)) S := nrfl rfl
@[simp] theorem neg_int {i : Int} : negD (.int i) S = .ok (.int (-i)) S := nrfl rfl
@[simp] theorem lt_int {i j : Int} : ltD (.int i) (.int j) S = .ok (.bl (decide (i < j))) S := nrfl rfl
@[simp] theorem le_int {i j : Int} : leD (.int i) (.int j) S = .ok (.bl (decide (i ≤ j))) S := nrfl rfl
@[simp] theorem gt_int {i j : Int} : gtD (.int i) (.int j) S = .ok (.bl (decide (j < i))) S := nrfl rfl
@[simp] theorem ge_int {i j : Int} : geD (.int i) (.int j) S = .ok (.bl (decide (j ≤ i))) S := nrfl rfl
theorem mul_int {i j : Int} : (mulD (.int i) (.int j) S).sat Q = (mulOk i j = true ∧ Q (.int (i * j)) S) := by unfold mulD; simp only []; rw [sat_if_bad, sat_ok]
theorem fdiv_int {i j : Int} : (fdivD (.int i) (.int j) S).sat Q = ((0 < j ∧ j.natAbs.log2 < 9000) ∧ Q (.int (i / j)) S) := by unfold fdivD; simp only []; rw [sat_if_bad, sat_ok]
theorem mod_int {i j : Int} : (modD (.int i) (.int j) S).sat Q = (0 < j ∧ Q (.int (i % j)) S) := by unfold modD; simp only []; rw [sat_if_bad, sat_ok]
theorem ibeq (i j : Int) : (i == j) = decide (i = j) := by rw [Bool.eq_iff_iff]; simp
theorem eq_int {i j : Int} : eqD (.int i) (.int j) S = .ok (.bl (decide (i = j))) S := by
  show (if min 0 0 ≤ 64 then R.ok (D.bl (i == j)) S else .bad) = _
  simp [ibeq]
theorem ne_int {i j : Int} : neD (.int i) (.int j) S = .ok (.bl (decide (i ≠ j))) S := by
  show (if min 0 0 ≤ 64 then R.ok (D.bl (!(i == j))) S else .bad) = _
  simp [ibeq]
@[simp] theorem len_tup {l : List D} : lenD [.tup l] S = .ok (.int l.length) S := nrfl rfl
@[simp] theorem len_lst {l : List D} : lenD [.lst l] S = .ok (.int l.length) S := nrfl rfl
@[simp] theorem len_scr {l : List Int} : lenD [.scr l] S = .ok (.int l.length) S := nrfl rfl
theorem len_obj {n : Nat} {l : List D} (h : S[n]? = some (.lst l)) : lenD [.obj n] S = .ok (.int l.length) S := by simp [lenD, asL, h]
@[simp] theorem tuple_lst {l : List D} : tupleD [.lst l] S = .ok (.tup l) S := nrfl rfl
@[simp] theorem tuple_tup {l : List D} : tupleD [.tup l] S = .ok (.tup l) S := nrfl rfl
theorem mtD_obj {n : Nat} {l : List D} (h : S[n]? = some (.lst l)) : mtD (.obj n) S = some "list" := by simp [mtD, h]
@[simp] theorem rangeD_len {lo hi : Int} : (rangeD lo hi).length = (hi - lo).toNat := by simp [rangeD]
@[simp] theorem rangeD_get {lo hi : Int} {j : Nat} (h : j < (rangeD lo hi).length) : (rangeD lo hi)[j] = .int (lo + j) := by simp [rangeD]
theorem append_obj {n : Nat} {l : List D} {y : D} (h : S[n]? = some (.lst l)) : (appendD (.obj n) [y] S).sat Q = (l.length < sizeLine ∧ Q .non (S.set n (.lst (l ++ [y])))) := by
  unfold appendD; simp only [lstAt, h]; rw [sat_if_bad, sat_ok]
theorem tuple_obj {n : Nat} {l : List D} (h : S[n]? = some (.lst l)) : tupleD [.obj n] S = .ok (.tup l) S := by simp [tupleD, asL, h]
end
end L3
set_option Elab.async false
set_option linter.all false
set_option maxRecDepth 100000
/-! L3P: the laws' hand. -/
namespace L3
open PySem L2
def Hand (n : Nat) (S : Store) : Prop := ∃ g s : Int, S[n]? = some (.lst [.int g, .int s])
/-- only the hand has changed; new objects may have come -/
structure FrH (n : Nat) (S S' : Store) : Prop where
  le : S.length ≤ S'.length
  fr : ∀ m o, m ≠ n → S[m]? = some o → S'[m]? = some o
  hd : Hand n S'
theorem FrH.refl {n : Nat} {S : Store} (h : Hand n S) : FrH n S S := ⟨Nat.le_refl _, fun _ _ _ h => h, h⟩
theorem FrH.trans {n : Nat} {S S' S'' : Store} (h : FrH n S S') (g : FrH n S' S'') : FrH n S S'' := ⟨Nat.le_trans h.le g.le, fun m o hm e => g.fr m o hm (h.fr m o hm e), g.hd⟩
theorem Hand.lt {n : Nat} {S : Store} (h : Hand n S) : n < S.length := by
  obtain ⟨g, s, e⟩ := h
  exact (List.getElem?_eq_some_iff.mp e).1
theorem FrH.set {n : Nat} {S : Store} (h : Hand n S) (g s : Int) : FrH n S (S.set n (.lst [.int g, .int s])) := by
  refine ⟨by simp, fun m o hm e => ?_, ⟨g, s, by simp [List.getElem?_set_self h.lt]⟩⟩
  rw [List.getElem?_set_ne (Ne.symm hm)]; exact e
theorem FrH.app {n : Nat} {S : Store} (h : Hand n S) (o : O) : FrH n S (S ++ [o]) := by
  have e : ∀ (m : Nat) (o' : O), S[m]? = some o' → (S ++ [o])[m]? = some o' := fun m o' e => by
    rw [List.getElem?_append_left (List.getElem?_eq_some_iff.mp e).1]; exact e
  obtain ⟨g, s, q⟩ := h
  exact ⟨by simp, fun m o' _ q => e m o' q, ⟨g, s, e _ _ q⟩⟩
theorem FrH.put {n p : Nat} {S S' : Store} (h : FrH n S S') (hn : Hand n S) (hp : S.length ≤ p) (o : O) : FrH n S (S'.set p o) := by
  have l := hn.lt
  refine ⟨by simp [h.le], fun m o' hm e => ?_, ?_⟩
  · have : m < S.length := (List.getElem?_eq_some_iff.mp e).1
    rw [List.getElem?_set_ne (by omega)]; exact h.fr m o' hm e
  · obtain ⟨g, s, e⟩ := h.hd
    exact ⟨g, s, by rw [List.getElem?_set_ne (by omega)]; exact e⟩
theorem lg_lt {j : Int} {m : Nat} (h : j.natAbs < 2 ^ 64) : j.natAbs.log2 < 9000 := by
  by_cases h0 : j.natAbs = 0
  · rw [h0]; decide
  · exact Nat.lt_trans ((Nat.log2_lt h0).mpr h) (by decide)

/-! digits -/
def mTake : SD :=
    sSeq (sIf (tOfE (e2 gtD (e2 ixD (eVar 0) (eK (.int 0))) (eK (.int 0)))) (sSeq (sAsg (e2 modD (e2 ixD (eVar 0) (eK (.int 0))) (eVar 1)) (gName 2))
    (sSeq (sAsg (e2 fdivD (e2 ixD (eVar 0) (eK (.int 0))) (eVar 1)) (gSub (eVar 0) (eK (.int 0))))
    (sRet (eVar 2)))) (sSkip))
    (sSeq (sAsg (e2 modD (e2 addD (e2 mulD (e2 ixD (eVar 0) (eK (.int 1))) (eK (.int 1181783497276652981))) (eK (.int 12345678910987))) (eK (.int 2305843009213693951))) (gSub (eVar 0) (eK (.int 1))))
    (sRet (e2 modD (e2 fdivD (e2 modD (e2 mulD (e2 fdivD (e2 ixD (eVar 0) (eK (.int 1))) (eK (.int 65537))) (e2 addD (e2 modD (e2 ixD (eVar 0) (eK (.int 1))) (eK (.int 65537))) (eK (.int 3)))) (eK (.int 2305843009213693921))) (eK (.int 97))) (eVar 1))))
section
variable {n : Nat} {S : Store} {Q : D → Store → Prop}
theorem ix0 {g s : Int} (h : S[n]? = some (.lst [.int g, .int s])) : ixD (.obj n) (.int 0) S = .ok (.int g) S := by simp [ixD, h, atI, ixN]
theorem ix1 {g s : Int} (h : S[n]? = some (.lst [.int g, .int s])) : ixD (.obj n) (.int 1) S = .ok (.int s) S := by simp [ixD, h, atI, ixN]
theorem set0 {g s x : Int} (h : S[n]? = some (.lst [.int g, .int s])) : setD (.obj n) (.int 0) (.int x) S = some (S.set n (.lst [.int x, .int s])) := by simp [setD, h, ixN]
theorem set1 {g s x : Int} (h : S[n]? = some (.lst [.int g, .int s])) : setD (.obj n) (.int 1) (.int x) S = some (S.set n (.lst [.int g, .int x])) := by simp [setD, h, ixN]
theorem mulOk_r {i j : Int} (h : -(2 ^ 64) < j ∧ j < 2 ^ 64) : mulOk i j = true := by simp only [mulOk, decide_eq_true_eq]; exact .inl (.inr h)
theorem mulOk_l {i j : Int} (h : -(2 ^ 64) < i ∧ i < 2 ^ 64) : mulOk i j = true := by simp only [mulOk, decide_eq_true_eq]; exact .inl (.inl h)
theorem take_ok (h : Hand n S) {many : Int} (hm : 0 < many) (hb : many < 2 ^ 64) : (run 2 3 mTake [.obj n, .int many] S).sat fun d S' => (∃ i, d = .int i ∧ 0 ≤ i ∧ i < many) ∧ FrH n S S' := by
  obtain ⟨g, s, e⟩ := h
  have h : Hand n S := ⟨g, s, e⟩
  have hlog : many.natAbs.log2 < 9000 := lg_lt (m := 0) (by omega)
  rw [sat_run]
  refine ⟨rfl, ?_⟩
  unfold mTake
  have l2 : ∀ j : Nat, j < 2 ^ 64 → 0 < j → j.log2 < 9000 := fun j hj h0 => Nat.lt_trans ((Nat.log2_lt (by omega)).mpr hj) (by decide)
  by_cases hg : 0 < g
  · simp [ix0 e, hg, mod_int, fdiv_int, hm, hlog, gSub, eVar, eK, set0 e]
    exact ⟨⟨Int.emod_nonneg _ (by omega), Int.emod_lt_of_pos _ hm⟩, .set h _ _⟩
  · have e2 : (S.set n (.lst [.int g, .int ((s * 1181783497276652981 + 12345678910987) % 2305843009213693951)]))[n]? = some (.lst [.int g, .int ((s * 1181783497276652981 + 12345678910987) % 2305843009213693951)]) := by
      simp [List.getElem?_set_self h.lt]
    simp [ix0 e, ix1 e, ix1 e2, hg, mod_int, fdiv_int, mul_int, hm, hlog, gSub, eVar, eK, set1 e, mulOk_r]
    refine ⟨l2 _ (by decide) (by decide), mulOk_r (by omega), l2 _ (by decide) (by decide), ⟨Int.emod_nonneg _ (by omega), Int.emod_lt_of_pos _ hm⟩, .set h _ _⟩
/-- the take of a law -/
def IsTake (tk : FN) : Prop := ∀ (n : Nat) (S : Store) (many : Int), Hand n S → 0 < many → many < 2 ^ 64 → (tk [.obj n, .int many] S).sat fun d S' => (∃ i, d = .int i ∧ 0 ≤ i ∧ i < many) ∧ FrH n S S'
theorem isTake : IsTake (run 2 3 mTake) := fun n S many h h1 h2 => take_ok h h1 h2
def mPick (tk : FN) : SD := sRet (e2 ixD (eVar 1) (eN (callK tk []) (aCons (eVar 0) (aCons (eN lenD (aCons (eVar 1) (aNil))) (aNil)))))
def IsPick (pk : FN) : Prop := ∀ (n : Nat) (S : Store) (l : List D), Hand n S → l ≠ [] → l.length < 2 ^ 32 → ((pk [.obj n, .lst l] S).sat fun d S' => d ∈ l ∧ FrH n S S') ∧ (pk [.obj n, .tup l] S).sat fun d S' => d ∈ l ∧ FrH n S S'
theorem atI_mem {α : Type} {l : List α} {i : Int} (h0 : 0 ≤ i) (h : i < l.length) : ∃ x ∈ l, atI l i = some x := by
  refine ⟨l[i.toNat]'(by omega), List.getElem_mem _, ?_⟩
  simp only [atI, ixN]
  simp [h0, h, show i.toNat < l.length by omega]
theorem isPick {tk : FN} (ht : IsTake tk) : IsPick (run 2 2 (mPick tk)) := fun n S l h h1 h2 => by
  have hl : 0 < l.length := (match l, h1 with | _ :: _, _ => by simp)
  constructor
  all_goals
    rw [sat_run]
    refine ⟨rfl, ?_⟩
    unfold mPick
    simp
    refine sat_mono (ht n S l.length h (by omega) (by omega)) fun d S' q => ?_
    obtain ⟨⟨i, rfl, h0, h3⟩, fr⟩ := q
    obtain ⟨x, hx, e⟩ := atI_mem h0 h3
    simp [ixD, e, hx, fr]
/-! the hand -/
def mHand : SD :=
    sSeq (sAsg (e2 addD (e2 mulD (eK (.int 3)) (eVar 1)) (eN lenD (aCons (eVar 0) (aNil)))) (gName 2))
    (sSeq (sIf (tOfE (e2 ltD (eVar 1) (eN lenD (aCons (eVar 0) (aNil))))) (sAsg (e2 ixD (eVar 0) (eVar 1)) (gName 2)) (sSkip))
    (sSeq (sAsg (e2 mulD (e2 modD (eN absD (aCons (eVar 2) (aNil))) (e2 powD (e2 powD (eK (.int 10)) (eK (.int 60))) (eK (.int 5)))) (eN intD (aCons (e2 geD (eN absD (aCons (eVar 2) (aNil))) (e2 powD (eK (.int 10)) (eK (.int 18)))) (aNil)))) (gName 3))
    (sRet (eN mkObj (aCons (eVar 3) (aCons (e2 modD (e2 mulD (e2 addD (e2 addD (e2 modD (eVar 2) (eK (.int 2305843009213693951))) (e2 mulD (e2 mulD (eK (.int 7919)) (eVar 1)) (eVar 1))) (eK (.int 11))) (eK (.int 48271))) (eK (.int 2305843009213693951))) (aNil)))))))
def IsHand (hd : FN) : Prop := ∀ (S : Store) (ns : List Int) (k : Int), 0 ≤ k → k < 2 ^ 32 → (hd [.scr ns, .int k] S).sat fun d S' => d = .obj S.length ∧ ∃ g s : Int, S' = S ++ [.lst [.int g, .int s]]
def T60 : Int := 10 ^ 60
def T300 : Int := 10 ^ 300
theorem T300_pos : 0 < T300 := by decide +kernel
theorem pw1 : powD (.int 10) (.int 60) S = .ok (.int T60) S := by kernel_rfl
theorem pw2 : powD (.int T60) (.int 5) S = .ok (.int T300) S := by kernel_rfl
theorem pw3 : powD (.int 10) (.int 18) S = .ok (.int 1000000000000000000) S := by kernel_rfl
theorem isHand : IsHand (run 2 4 mHand) := fun S ns k h0 hk => by
  rw [sat_run]
  refine ⟨rfl, ?_⟩
  have key : ∀ c : Int, ((sSeq (sAsg (e2 mulD (e2 modD (eN absD (aCons (eVar 2) (aNil))) (e2 powD (e2 powD (eK (.int 10)) (eK (.int 60))) (eK (.int 5)))) (eN intD (aCons (e2 geD (eN absD (aCons (eVar 2) (aNil))) (e2 powD (eK (.int 10)) (eK (.int 18)))) (aNil)))) (gName 3))
    (sRet (eN mkObj (aCons (eVar 3) (aCons (e2 modD (e2 mulD (e2 addD (e2 addD (e2 modD (eVar 2) (eK (.int 2305843009213693951))) (e2 mulD (e2 mulD (eK (.int 7919)) (eVar 1)) (eVar 1))) (eK (.int 11))) (eK (.int 48271))) (eK (.int 2305843009213693951))) (aNil)))))) [some (.scr ns), some (.int k), some (.int c), none] S).sat
      (fun _ S1 => D.non = .obj S.length ∧ ∃ g s : Int, S1 = S ++ [.lst [.int g, .int s]]) (fun d S' => d = .obj S.length ∧ ∃ g s : Int, S' = S ++ [.lst [.int g, .int s]]) (fun _ _ => False) fun _ _ => False := fun c => by
    simp [pw1, pw2, pw3, absD, intD, mod_int, mul_int, T300_pos]
    refine ⟨mulOk_r (by split <;> omega), mulOk_l (by omega), mulOk_r (by omega), mulOk_r (by omega), by decide⟩
  unfold mHand
  simp only [ssat_seq, ssat_asg, sat_e2, sat_eK, sat_eVar, ssat_if, sat_eN, sat_aCons, sat_aNil]
  simp [mul_int, mulOk_l]
  by_cases hc : k < ns.length
  · obtain ⟨x, hx, e⟩ := atI_mem (l := ns) h0 hc
    simp [hc, ixD, e]
    have := key x
    simpa [mul_int, mulOk_l] using this
  · simp [hc]
    have := key (3 * k + ns.length)
    simpa [mul_int, mulOk_l] using this
end
end L3
set_option Elab.async false
set_option linter.all false
set_option maxRecDepth 100000
set_option maxHeartbeats 4000000
/-! L3S: steps of plain laws, common to all. -/
namespace L3
open PySem L2
section
variable {S : Store} {env : EnvD} {Q : D → Store → Prop}
@[simp] theorem isi_tup {l : List D} : isiD [.tup l, .ty "tuple"] S = .ok (.bl true) S := by kernel_rfl
@[simp] theorem isi_str {s : Str} : isiD [.str s, .ty "str"] S = .ok (.bl true) S := by kernel_rfl
@[simp] theorem isi_bl {b : Bool} : isiD [.bl b, .ty "bool"] S = .ok (.bl true) S := by kernel_rfl
@[simp] theorem isi_lst_tup {l : List D} : isiD [.lst l, .ty "tuple"] S = .ok (.bl false) S := by kernel_rfl
@[simp] theorem isi_dic_tup {k} {l : List D} : isiD [.dic k l, .ty "tuple"] S = .ok (.bl false) S := by kernel_rfl
@[simp] theorem isi_str_tup {l : Str} : isiD [.str l, .ty "tuple"] S = .ok (.bl false) S := by kernel_rfl
@[simp] theorem isi_int_tup {l : Int} : isiD [.int l, .ty "tuple"] S = .ok (.bl false) S := by kernel_rfl
@[simp] theorem isi_bl_tup {l : Bool} : isiD [.bl l, .ty "tuple"] S = .ok (.bl false) S := by kernel_rfl
@[simp] theorem isi_non_tup : isiD [.non, .ty "tuple"] S = .ok (.bl false) S := by kernel_rfl
@[simp] theorem isi_lst_str {l : List D} : isiD [.lst l, .ty "str"] S = .ok (.bl false) S := by kernel_rfl
@[simp] theorem isi_tup_str {l : List D} : isiD [.tup l, .ty "str"] S = .ok (.bl false) S := by kernel_rfl
@[simp] theorem isi_dic_str {k} {l : List D} : isiD [.dic k l, .ty "str"] S = .ok (.bl false) S := by kernel_rfl
@[simp] theorem isi_int_str {l : Int} : isiD [.int l, .ty "str"] S = .ok (.bl false) S := by kernel_rfl
@[simp] theorem isi_bl_str {l : Bool} : isiD [.bl l, .ty "str"] S = .ok (.bl false) S := by kernel_rfl
@[simp] theorem isi_non_str : isiD [.non, .ty "str"] S = .ok (.bl false) S := by kernel_rfl
@[simp] theorem isi_int {l : Int} : isiD [.int l, .ty "int"] S = .ok (.bl true) S := by kernel_rfl
@[simp] theorem isi_bl_int {l : Bool} : isiD [.bl l, .ty "int"] S = .ok (.bl true) S := by kernel_rfl
@[simp] theorem isi_int_bl {l : Int} : isiD [.int l, .ty "bool"] S = .ok (.bl false) S := by kernel_rfl
@[simp] theorem isi_tup_int {l : List D} : isiD [.tup l, .ty "int"] S = .ok (.bl false) S := by kernel_rfl
@[simp] theorem isi_lst_int {l : List D} : isiD [.lst l, .ty "int"] S = .ok (.bl false) S := by kernel_rfl
@[simp] theorem isi_dic_int {k} {l : List D} : isiD [.dic k l, .ty "int"] S = .ok (.bl false) S := by kernel_rfl
@[simp] theorem isi_str_int {l : Str} : isiD [.str l, .ty "int"] S = .ok (.bl false) S := by kernel_rfl
@[simp] theorem isi_non_int : isiD [.non, .ty "int"] S = .ok (.bl false) S := by kernel_rfl
theorem eq_bl {a b : Bool} : eqD (.bl a) (.bl b) S = .ok (.bl (a == b)) S := by cases a <;> cases b <;> kernel_rfl
@[simp] theorem eq_strs {a b : Str} : eqD (.str a) (.str b) S = .ok (.bl (a == b)) S := nrfl rfl
@[simp] theorem ne_strs {a b : Str} : neD (.str a) (.str b) S = .ok (.bl (!(a == b))) S := nrfl rfl
@[simp] theorem eq_tup0 {l : List D} : eqD (.tup l) (.tup []) S = .ok (.bl l.isEmpty) S := nrfl rfl
@[simp] theorem ne_tup0 {l : List D} : neD (.tup l) (.tup []) S = .ok (.bl (!l.isEmpty)) S := nrfl rfl
theorem all_lst : ∀ bs : List Bool, allBls (bs.map D.bl) = some bs
  | [] => rfl
  | b :: bs => by simp [allBls, all_lst bs]
theorem all_bl (bs : List Bool) : allD [.lst (bs.map D.bl)] S = .ok (.bl (bs.all id)) S := by simp [allD, asL, all_lst]
theorem sum_lst : ∀ bs : List Int, allInts (bs.map D.int) = some bs
  | [] => rfl
  | b :: bs => by simp [allInts, sum_lst bs]
theorem sum_int (bs : List Int) : sumD [.lst (bs.map D.int)] S = .ok (.int bs.sum) S := by simp [sumD, asL, sum_lst]
theorem small {n : Nat} (h : n ≤ 1000) : n ≤ sizeLine := Nat.le_trans h (by decide)
theorem add_lst {a b : List D} (h : a.length + b.length ≤ sizeLine) : addD (.lst a) (.lst b) S = .ok (.lst (a ++ b)) S := by simp [addD, asL, h]
theorem add_tup {a b : List D} (h : a.length + b.length ≤ sizeLine) : addD (.tup a) (.tup b) S = .ok (.tup (a ++ b)) S := by simp [addD, h]
theorem add_str {a b : Str} (h : a.length + b.length ≤ sizeLine) : addD (.str a) (.str b) S = .ok (.str (a ++ b)) S := by simp [addD, h]
theorem mem_range {lo hi : Int} {x : D} (h : x ∈ rangeD lo hi) : ∃ i : Int, x = .int i ∧ lo ≤ i ∧ i < hi := by
  simp only [rangeD, List.mem_map, List.mem_range] at h
  obtain ⟨a, ha, rfl⟩ := h
  exact ⟨_, rfl, by omega, by omega⟩
variable {N B C : EnvD → Store → Prop} {T : D → Store → Prop}
theorem for_each {g : GD} {body : SD} (I : EnvD → Store → Prop) {xs : List D} (h0 : I env S)
    (hs : ∀ x ∈ xs, ∀ e S, I e S → (g x e S).sat (fun e S => (body e S).sat I T N I) (fun _ _ => False) (fun _ _ => False) fun _ _ => False)
    (hN : ∀ e S, I e S → N e S) : (forL g body xs env S).sat N T B C :=
  for_rule (fun _ => I) h0 (fun j hj e S h => hs _ (List.getElem_mem hj) e S h) hN
theorem for_n {i : Nat} {body : SD} (I : EnvD → Store → Prop) {xs : List D} (h0 : I env S)
    (hs : ∀ x ∈ xs, ∀ e S, I e S → (body (e.set i (some x)) S).sat I T N I) (hN : ∀ e S, I e S → N e S) : (forL (gName i) body xs env S).sat N T B C :=
  for_each I h0 (fun x hx e S h => by rw [gName_eq, ssat_nx]; exact hs x hx e S h) hN
theorem seq_rule {a b : SD} (M : EnvD → Store → Prop) (h : (a env S).sat M T B C) (k : ∀ e S, M e S → (b e S).sat N T B C) : (sSeq a b env S).sat N T B C := by
  rw [ssat_seq]; exact ssat_mono h k (fun _ _ h => h) (fun _ _ h => h) fun _ _ h => h
/-! slices -/
@[simp] theorem sat_pNo {QO : Option Int → Store → Prop} : (pNo env S).sat QO = QO none S := sat_ok
@[simp] theorem sat_pYes {a : ED} {QO : Option Int → Store → Prop} : (pYes a env S).sat QO = (a env S).sat fun x S1 => ∃ i, x = .int i ∧ QO (some i) S1 := by
  unfold pYes; rw [sat_bind]; congr; funext x S1
  cases x <;> simp
@[simp] theorem sat_eSl {a : ED} {l h : PD} : (eSl a l h env S).sat Q = (a env S).sat fun x S1 => (l env S1).sat fun lo S2 => (h env S2).sat fun hi S3 => (slD x lo hi S3).sat Q := by
  unfold eSl; simp only [sat_bind]
@[simp] theorem sl_tup {l : List D} {lo hi : Option Int} : slD (.tup l) lo hi S = .ok (.tup (cutL l lo hi)) S := nrfl rfl
@[simp] theorem sl_lst {l : List D} {lo hi : Option Int} : slD (.lst l) lo hi S = .ok (.lst (cutL l lo hi)) S := nrfl rfl
@[simp] theorem sat_eBackT {a : ED} : (eBackT a env S).sat Q = (a env S).sat fun x S1 => ∃ l, x = .tup l ∧ Q (.tup l.reverse) S1 := by
  unfold eBackT; rw [sat_bind]; congr; funext x S1
  cases x <;> simp
@[simp] theorem sat_eDic0 : (eDic0 env S).sat Q = Q (.dic [] []) S := sat_ok
@[simp] theorem sat_eDct0 : (eDct0 env S).sat Q = Q (.obj S.length) (S ++ [.dK []]) := sat_ok
end
end L3
set_option Elab.async false
set_option linter.all false
set_option maxRecDepth 100000
set_option maxHeartbeats 4000000
/-! L3T: names, programs as trees, draws. -/
namespace L3
open PySem L2
def WORDS : List Str := ["plus", "times", "most", "row", "say", "less", "below", "if", "let", "each", "num", "name", "any", "rest", "called", "count"]
/-- a sign that is a small letter -/
def isLet (c : Nat) : Bool := decide (97 ≤ c) && decide (c ≤ 122)
structure NameOk (s : Str) : Prop where
  lo : 1 ≤ s.length
  hi : s.length ≤ 8
  lt : s.cps.toList.all isLet = true
  nw : s ∉ WORDS
/-- programs -/
inductive Tm where
  | num (i : Int) | nam (s : Str) | nd (w m : Str) (ps : List Tm)
mutual
def Tm.d : Tm → D
  | .num i => .tup [.str "num", .int i, .tup []]
  | .nam s => .tup [.str "name", .str s, .tup []]
  | .nd w m ps => .tup [.str w, .str m, .tup (Tm.ds ps)]
def Tm.ds : List Tm → List D
  | [] => []
  | t :: ts => t.d :: Tm.ds ts
end
mutual
def Tm.size : Tm → Nat
  | .num _ => 1
  | .nam _ => 1
  | .nd _ _ ps => 1 + Tm.sizes ps
def Tm.sizes : List Tm → Nat
  | [] => 0
  | t :: ts => t.size + Tm.sizes ts
end
mutual
def Tm.dep : Tm → Nat
  | .num _ => 1
  | .nam _ => 1
  | .nd _ _ ps => 1 + Tm.deps ps
def Tm.deps : List Tm → Nat
  | [] => 0
  | t :: ts => max t.dep (Tm.deps ts)
end
theorem Tm.ds_map : ∀ ts : List Tm, Tm.ds ts = ts.map Tm.d
  | [] => rfl
  | t :: ts => by simp [Tm.ds, Tm.ds_map ts]
theorem Tm.ds_len (ts : List Tm) : (Tm.ds ts).length = ts.length := by simp [Tm.ds_map]
theorem Tm.sizes_app : ∀ a b : List Tm, Tm.sizes (a ++ b) = Tm.sizes a + Tm.sizes b
  | [], b => by simp [Tm.sizes]
  | t :: a, b => by simp [Tm.sizes, Tm.sizes_app a b]; omega
theorem Tm.deps_le {B : Nat} : ∀ {ts : List Tm}, Tm.deps ts ≤ B ↔ ∀ t ∈ ts, t.dep ≤ B
  | [] => by simp [Tm.deps]
  | t :: ts => by simp [Tm.deps, Tm.deps_le (ts := ts), Nat.max_le]
theorem Tm.size_pos : ∀ t : Tm, 1 ≤ t.size
  | .num _ => by simp [Tm.size]
  | .nam _ => by simp [Tm.size]
  | .nd _ _ ps => by simp [Tm.size]
theorem Tm.dep_pos : ∀ t : Tm, 1 ≤ t.dep
  | .num _ => by simp [Tm.dep]
  | .nam _ => by simp [Tm.dep]
  | .nd _ _ ps => by simp [Tm.dep]
/-- a word's fewest and most parts, whether it gives a name -/
def shape (w : Str) : Option (Nat × Nat × Bool) :=
  if w = "plus" ∨ w = "times" ∨ w = "most" then some (1, 6, false)
  else if w = "row" then some (0, 6, false)
  else if w = "say" then some (1, 1, false)
  else if w = "less" ∨ w = "below" then some (2, 2, false)
  else if w = "if" then some (3, 3, false)
  else if w = "let" ∨ w = "each" then some (2, 2, true)
  else none
inductive Good : Tm → Prop where
  | num {i : Int} : 0 ≤ i → i ≤ 9972 → Good (.num i)
  | nam {s : Str} : NameOk s → Good (.nam s)
  | nd {w m : Str} {ps : List Tm} {f mo : Nat} {g : Bool} : shape w = some (f, mo, g) → f ≤ ps.length → ps.length ≤ mo → (g = true → NameOk m) → (g = false → m = "") → (∀ p ∈ ps, Good p) → Good (.nd w m ps)
/-! ### the hand's frame, another object apart -/
/-- where a draw is made from -/
inductive Src (n : Nat) (S : Store) : D → List D → Prop where
  | lst (l : List D) : Src n S (.lst l) l
  | tup (l : List D) : Src n S (.tup l) l
  | str (z : Str) : z.length ≤ 1000 → Src n S (.str z) (z.cps.toList.map sgn)
  | obj {q : Nat} {l : List D} : q ≠ n → S[q]? = some (.lst l) → Src n S (.obj q) l
theorem Src.fr {n : Nat} {S S' : Store} {x : D} {l : List D} (h : Src n S x l) (f : FrH n S S') : Src n S' x l := by
  cases h with
  | lst => exact .lst _
  | tup => exact .tup _
  | str _ hz => exact .str _ hz
  | obj hq e => exact .obj hq (f.fr _ _ hq e)
theorem Src.len {n : Nat} {S : Store} {x : D} {l : List D} (h : Src n S x l) : lenD [x] S = .ok (.int l.length) S := by
  cases h with
  | lst => rfl
  | tup => rfl
  | str z hz =>
    unfold lenD
    simp only
    rw [if_pos (small hz)]
    simp [Str.length]
  | obj _ e => exact len_obj e
theorem atI_map {α β : Type} (f : α → β) (l : List α) (i : Int) : atI (l.map f) i = (atI l i).map f := by
  unfold atI
  rw [List.length_map]
  cases ixN l.length i with
  | none => rfl
  | some j => simp
theorem Src.ix {n : Nat} {S : Store} {x : D} {l : List D} (h : Src n S x l) {i : Int} (h0 : 0 ≤ i) (h1 : i < l.length) : ∃ d ∈ l, ixD x (.int i) S = .ok d S := by
  obtain ⟨d, hd, e⟩ := atI_mem h0 h1
  refine ⟨d, hd, ?_⟩
  cases h with
  | lst => simp [ixD, e]
  | tup => simp [ixD, e]
  | str z hz =>
    rw [atI_map] at e
    cases q : atI z.cps.toList i with
    | none => rw [q] at e; cases e
    | some c =>
      rw [q] at e
      cases e
      simp only [ixD]
      rw [if_pos (small hz), q]
  | obj _ e2 => simp [ixD, e2, e]
def IsPick2 (pk : FN) : Prop := ∀ (n : Nat) (S : Store) (x : D) (l : List D), Hand n S → Src n S x l → l ≠ [] → l.length < 2 ^ 32 → (pk [.obj n, x] S).sat fun d S' => d ∈ l ∧ FrH n S S'
theorem isPick2 {tk : FN} (ht : IsTake tk) : IsPick2 (run 2 2 (mPick tk)) := fun n S x l h hs h1 h2 => by
  have hl : 0 < l.length := (match l, h1 with | _ :: _, _ => by simp)
  rw [sat_run]
  refine ⟨rfl, ?_⟩
  unfold mPick
  simp only [ssat_sRet, sat_e2, sat_eVar, sat_eN, sat_aCons, sat_aNil, callK_eq, List.append_nil, List.map_cons, List.map_nil, List.length_cons, List.length_nil, List.replicate, List.getElem?_cons_succ, List.getElem?_cons_zero, List.cons_append, List.nil_append, hs.len, sat_ok]
  refine sat_mono (ht n S l.length h (by omega) (by omega)) fun d S' q => ?_
  obtain ⟨⟨i, rfl, h0, h3⟩, fr⟩ := q
  obtain ⟨d, hd, e⟩ := (hs.fr fr).ix h0 h3
  rw [e, sat_ok]
  exact ⟨hd, fr⟩
/-- a comprehension's turns, what they have made so far told -/
theorem lc_acc {i : Nat} {te : ED} {env : EnvD} (I : List D → Store → Prop) : ∀ {xs : List D} {acc : List D} {S : Store} {Q : List D → Store → Prop},
    I acc S → (∀ x ∈ xs, ∀ acc S, I acc S → (te (env.set i (some x)) S).sat fun y S' => I (acc ++ [y]) S') → (∀ ys S', ys.length = xs.length → I (acc ++ ys) S' → Q ys S') → lcSat (gName i) tYesD te env xs S Q
  | [], acc, S, Q, hI, ht, hQ => hQ [] S rfl (by simpa using hI)
  | x :: xs, acc, S, Q, hI, ht, hQ => by
    unfold lcSat
    simp only [gName, tYesD, sat_ok, if_true]
    refine sat_mono (ht x (List.mem_cons_self ..) acc S hI) fun y S3 h => ?_
    refine lc_acc I (acc := acc ++ [y]) h (fun x hx => ht x (List.mem_cons_of_mem _ hx)) fun ys S' h1 h2 => hQ _ _ (by simp [h1]) (by simpa using h2)
/-! ### letters -/
def LET : Str := "abcdefghijklmnopqrstuvwxyz"
theorem let_ix {i : Int} (h0 : 0 ≤ i) (h1 : i < 26) (S : Store) : ∃ c, isLet c = true ∧ ixD (.str LET) (.int i) S = .ok (.str ⟨#[c]⟩) S := by
  obtain ⟨d, hd, e⟩ := (Src.str (n := 0) (S := S) LET (by decide +kernel)).ix h0 (by rw [show (LET.cps.toList.map sgn).length = 26 by decide +kernel]; omega)
  simp only [List.mem_map] at hd
  obtain ⟨c, hc, rfl⟩ := hd
  have : LET.cps.toList.all isLet = true := by decide +kernel
  exact ⟨c, List.all_eq_true.mp this c hc, e⟩
theorem let_src {n : Nat} {S : Store} : Src n S (.str LET) (LET.cps.toList.map sgn) := .str _ (by decide +kernel)
theorem let_mem {d : D} (h : d ∈ LET.cps.toList.map sgn) : ∃ c, isLet c = true ∧ d = .str ⟨#[c]⟩ := by
  simp only [List.mem_map] at h
  obtain ⟨c, hc, rfl⟩ := h
  have : LET.cps.toList.all isLet = true := by decide +kernel
  exact ⟨c, List.all_eq_true.mp this c hc, rfl⟩
/-- a text of letters of such a length that no word has -/
theorem name_one {c : Nat} (h : isLet c = true) : NameOk ⟨#[c]⟩ := by
  refine ⟨by simp [Str.length], by simp [Str.length], by simp [h], fun hw => ?_⟩
  have : ∀ s ∈ WORDS, s.length ≠ 1 := by decide +kernel
  exact this _ hw rfl
theorem nameWithX {s : Str} (h : s ∈ WORDS) : NameOk (s ++ "x") := by
  have a : WORDS.all (fun s => decide (1 ≤ (s ++ "x").length) && decide ((s ++ "x").length ≤ 8) && (s ++ "x").cps.toList.all isLet && decide ((s ++ "x") ∉ WORDS)) = true := by decide +kernel
  have := List.all_eq_true.mp a s h
  simp only [Bool.and_eq_true, decide_eq_true_eq] at this
  exact ⟨this.1.1.1, this.1.1.2, this.1.2, this.2⟩
end L3
set_option Elab.async false
set_option linter.all false
set_option maxRecDepth 100000
set_option maxHeartbeats 4000000
/-! L3U: drawn names, drawn numbers. -/
namespace L3
open PySem L2
theorem sz0 : ((0 : Nat) ≤ sizeLine) = True := eq_true (by decide)
theorem sz1 : ((1 : Nat) ≤ sizeLine) = True := eq_true (by decide)
theorem sz2 : ((2 : Nat) ≤ sizeLine) = True := eq_true (by decide)
theorem sz3 : ((3 : Nat) ≤ sizeLine) = True := eq_true (by decide)
theorem sz4 : ((4 : Nat) ≤ sizeLine) = True := eq_true (by decide)
theorem sz5 : ((5 : Nat) ≤ sizeLine) = True := eq_true (by decide)
theorem sz6 : ((6 : Nat) ≤ sizeLine) = True := eq_true (by decide)
theorem sz7 : ((7 : Nat) ≤ sizeLine) = True := eq_true (by decide)
theorem sz8 : ((8 : Nat) ≤ sizeLine) = True := eq_true (by decide)
theorem sz10 : ((10 : Nat) ≤ sizeLine) = True := eq_true (by decide)
theorem sz17 : ((17 : Nat) ≤ sizeLine) = True := eq_true (by decide)
-- a step of a plain law: what the terms at hand come to
local macro_rules | `(tactic| open_k) => `(tactic| simp only [ssat_seq, ssat_asg, ssat_sRet, ssat_sExpr, ssat_if, ssat_skip, ssat_par, ssat_nx, ssat_ret, ssat_for, sat_e2, sat_e1, sat_eN, sat_aCons, sat_aNil, sat_eVar, sat_eK, sat_tOfE, sat_tTruth, sat_tNot, sat_tAnd, sat_tOr, sat_eIf, sat_eBM, sat_iSeq, sat_iArgs, sat_eAnd, sat_eOr, sat_eNot, sat_eChain, sat_eSl, sat_pNo, sat_pYes, sat_eLc, sat_eKw, sat_mkTup, sat_mkLst, sat_mkObj, sat_ok, callK_eq, List.append_nil, List.map_cons, List.map_nil, List.length_cons, List.length_nil, List.replicate, List.getElem?_cons_succ, List.getElem?_cons_zero, List.cons_append, List.nil_append, List.set_cons_succ, List.set_cons_zero, gName_eq, gTup_tup, gNames_cons, gNames_nil, Nat.zero_add, Nat.reduceAdd, Nat.reduceSub, sz0, sz1, sz2, sz3, sz4, sz5, sz6, sz7, sz8, sz10, sz17, true_and, add_int, sub_int, neg_int, lt_int, le_int, gt_int, ge_int, eq_int, ne_int, blD_bl, truthD_bl, itemsD_lst, itemsD_tup, wipeD, eq_strs, ne_strs, sl_tup, sl_lst, if_true, if_false, Bool.false_eq_true, sat_range1, sat_range2, tuple_lst, tuple_tup, len_tup, len_lst, len_scr])
def mCalled (tk pk : FN) : SD :=
    sSeq (sAsg (eK (.str "abcdefghijklmnopqrstuvwxyz")) (gName 2))
    (sSeq (sAsg (eBM "str" splitD (eK (.str "plus times most row say less below if let each num name any rest called count")) (aCons (eK (.str " ")) (aNil))) (gName 3))
    (sSeq (sAsg (eN mkTup (aCons (eN (callK tk []) (aCons (eVar 0) (aCons (eK (.int 676)) (aNil)))) (aCons (eN (callK pk []) (aCons (eVar 0) (aCons (eN mkLst (aCons (eK (.int 1)) (aCons (eK (.int 3)) (aCons (eK (.int 7)) (aCons (eK (.int 25)) (aCons (eK (.int 27)) (aCons (eK (.int 51)) (aCons (eK (.int 105)) (aNil))))))))) (aNil)))) (aNil)))) (gTup [4, 5]))
    (sSeq (sIf (tAnd (tOfE (e2 ltD (eVar 1) (eK (.int 27)))) (tOfE (e2 eqD (eN (callK tk []) (aCons (eVar 0) (aCons (eK (.int 6)) (aNil)))) (eK (.int 0))))) (sRet (eLc (iArgs range1 (aCons (eVar 1) (aNil))) [6] (gName 6) (tYesD) (e2 ixD (eVar 2) (e2 modD (e2 addD (eVar 4) (eVar 6)) (eK (.int 26)))))) (sSkip))
    (sSeq (sAsg (eBM "str" joinD (eK (.str "")) (aCons (eLc (iArgs range1 (aCons (eN (callK pk []) (aCons (eVar 0) (aCons (eN mkLst (aCons (eK (.int 0)) (aCons (eK (.int 0)) (aCons (eK (.int 1)) (aCons (eK (.int 2)) (aCons (eK (.int 6)) (aNil))))))) (aNil)))) (aNil))) [6] (gName 6) (tYesD) (eN (callK pk []) (aCons (eVar 0) (aCons (eVar 2) (aNil))))) (aNil))) (gName 7))
    (sSeq (sPar [8, 9] (aCons (eN (callK tk []) (aCons (eVar 0) (aCons (e2 addD (eN lenD (aCons (eVar 7) (aNil))) (eK (.int 1))) (aNil)))) (aCons (eN mkObj (aNil)) (aNil))))
    (sSeq (sFor (iArgs range1 (aCons (eVar 1) (aNil))) (gName 6) (sSeq (sAsg (e2 modD (e2 addD (eVar 4) (e2 mulD (eVar 5) (eVar 6))) (eK (.int 676))) (gName 10))
    (sSeq (sAsg (e2 addD (e2 ixD (eVar 2) (e2 fdivD (eVar 10) (eK (.int 26)))) (e2 ixD (eVar 2) (e2 modD (eVar 10) (eK (.int 26))))) (gName 11))
    (sSeq (sAsg (e2 addD (e2 addD (eSl (eVar 7) (pNo) (pYes (eVar 8))) (eVar 11)) (eSl (eVar 7) (pYes (eVar 8)) (pNo))) (gName 12))
    (sExpr (eBM "list" appendD (eVar 9) (aCons (e2 addD (eVar 12) (e2 mulD (eK (.str "x")) (eN intD (aCons (e2 inD (eVar 12) (eVar 3)) (aNil))))) (aNil))))))))
    (sRet (eVar 9))))))))
def mDigit (tk pk : FN) : SD :=
    sRet (eN (callK pk []) (aCons (eVar 0) (aCons (eN mkLst (aCons (eK (.int 0)) (aCons (eK (.int 1)) (aCons (eK (.int 2)) (aCons (eK (.int 3)) (aCons (eN (callK tk []) (aCons (eVar 0) (aCons (eK (.int 6)) (aNil)))) (aCons (eK (.int 9972)) (aCons (eN (callK tk []) (aCons (eVar 0) (aCons (eK (.int 9973)) (aNil)))) (aNil))))))))) (aNil))))
theorem split_words {S : Store} : splitD (.str "plus times most row say less below if let each num name any rest called count") [.str " "] S = .ok (.lst (WORDS.map .str)) S := by kernel_rfl
theorem mt_str {z : Str} {S : Store} : mtD (.str z) S = some "str" := rfl
/-- names, as a list that stays or one that was made since -/
def PoolV (S S' : Store) (d : D) (l : List Str) : Prop := d = .lst (l.map .str) ∨ ∃ q, S.length ≤ q ∧ d = .obj q ∧ S'[q]? = some (.lst (l.map .str))
theorem in_words {s : Str} {S : Store} (h : s.cps.toList.all isLet = true) : inD (.str s) (.lst (WORDS.map .str)) S = .ok (.bl (decide (s ∈ WORDS))) S := by
  have ok : PyData.strOk s = true := by
    unfold PyData.strOk
    rw [← Array.all_toList, List.all_eq_true]
    intro c hc
    have := List.all_eq_true.mp h c hc
    simp only [isLet, Bool.and_eq_true, decide_eq_true_eq] at this
    simp only [decide_eq_true_eq]; omega
  have ws : toPyL (WORDS.map .str) = some (WORDS.map .str) := by kernel_rfl
  have e : memD (.str s) (.lst (WORDS.map .str)) S = some (decide (s ∈ WORDS)) := by
    simp only [memD, memData, toPy, ok, if_true, ws, Option.map_some]
    rw [if_pos (show (PyData.str s).depth ≤ 64 by simp [PyData.depth])]
    congr 1
    rw [Bool.eq_iff_iff]
    simp only [List.any_map, List.any_eq_true, Function.comp, decide_eq_true_eq, PyData.eqv]
    constructor
    · rintro ⟨x, hx, e⟩
      have : x = s := by simpa using e
      exact this ▸ hx
    · intro hx
      exact ⟨s, hx, by simp⟩
  unfold inD
  rw [e]
theorem join_letters : ∀ (cs : List Nat), Txt.join "" (cs.map fun c => (⟨#[c]⟩ : Str)) = ⟨cs.toArray⟩ := by
  intro cs
  rw [TL.join_eq]
  have : TL.tl (Str.join "" (cs.map fun c => (⟨#[c]⟩ : Str))) = cs := by
    rw [TL.tl_join]
    have e0 : TL.tl "" = [] := by decide +kernel
    rw [e0]
    induction cs with
    | nil => rfl
    | cons c cs ih =>
      cases cs with
      | nil => rfl
      | cons b cs =>
        simp only [List.map_cons, TL.joinL, List.nil_append] at ih ⊢
        rw [ih]
        rfl
  have e : ∀ z : Str, z = ⟨(TL.tl z).toArray⟩ := fun z => by
    cases z with
    | mk a => simp [TL.tl]
  rw [e (Str.join _ _), this]
section
variable {S : Store} {env : EnvD} {N B C : EnvD → Store → Prop} {T : D → Store → Prop} {a b c d e r : SD}
theorem seq2 (M : EnvD → Store → Prop) (h : (sSeq a b env S).sat M T B C) (k : ∀ e S, M e S → (r e S).sat N T B C) : (sSeq a (sSeq b r) env S).sat N T B C := by
  rw [ssat_seq] at h ⊢
  exact ssat_mono h (fun _ _ h => seq_rule M h k) (fun _ _ h => h) (fun _ _ h => h) fun _ _ h => h
theorem seq3 (M : EnvD → Store → Prop) (h : (sSeq a (sSeq b c) env S).sat M T B C) (k : ∀ e S, M e S → (r e S).sat N T B C) : (sSeq a (sSeq b (sSeq c r)) env S).sat N T B C := by
  rw [ssat_seq] at h ⊢
  exact ssat_mono h (fun _ _ h => seq2 M h k) (fun _ _ h => h) (fun _ _ h => h) fun _ _ h => h
theorem seq4 (M : EnvD → Store → Prop) (h : (sSeq a (sSeq b (sSeq c d)) env S).sat M T B C) (k : ∀ e S, M e S → (r e S).sat N T B C) : (sSeq a (sSeq b (sSeq c (sSeq d r))) env S).sat N T B C := by
  rw [ssat_seq] at h ⊢
  exact ssat_mono h (fun _ _ h => seq3 M h k) (fun _ _ h => h) (fun _ _ h => h) fun _ _ h => h
theorem seq5 (M : EnvD → Store → Prop) (h : (sSeq a (sSeq b (sSeq c (sSeq d e))) env S).sat M T B C) (k : ∀ e S, M e S → (r e S).sat N T B C) : (sSeq a (sSeq b (sSeq c (sSeq d (sSeq e r)))) env S).sat N T B C := by
  rw [ssat_seq] at h ⊢
  exact ssat_mono h (fun _ _ h => seq4 M h k) (fun _ _ h => h) (fun _ _ h => h) fun _ _ h => h
end
theorem FrH.mk2 {n : Nat} {S S' : Store} (h : FrH n S S') (o : O) : FrH n S (S' ++ [o]) := h.trans (.app h.hd o)
theorem len_s {z : Str} {S : Store} (h : z.length ≤ 1000) : lenD [.str z] S = .ok (.int z.length) S := by
  unfold lenD; simp only; rw [if_pos (small h)]
theorem sl_str {z : Str} {lo hi : Option Int} {S : Store} (h : z.length ≤ 1000) : slD (.str z) lo hi S = .ok (.str (cutS z lo hi)) S := by
  unfold slD; simp only; rw [if_pos (small h)]
theorem md {i : Int} : 0 ≤ i % 26 ∧ i % 26 < 26 := ⟨Int.emod_nonneg _ (by decide), Int.emod_lt_of_pos _ (by decide)⟩
theorem mulx {b : Bool} {S : Store} : mulD (.str "x") (.int (if b = true then 1 else 0)) S = .ok (.str (if b = true then "x" else "")) S := by cases b <;> kernel_rfl
theorem strs_map : ∀ l : List Str, allStrs (l.map .str) = some l
  | [] => rfl
  | s :: l => by simp [allStrs, strs_map l]
/-- a stem, two letters put into it -/
theorem word_ok {st : List Nat} {a b : Nat} {sp : Nat} (hs : st.all isLet = true) (ha : isLet a = true) (hb : isLet b = true) (hl : st.length ≤ 6) (hsp : sp ≤ st.length) (z : Str) (hz : z = ⟨(st.take sp ++ [a, b] ++ st.drop sp).toArray⟩) :
    z.cps.toList.all isLet = true ∧ z.length ≤ 8 ∧ NameOk (z ++ (if decide (z ∈ WORDS) = true then ("x" : Str) else ("" : Str))) := by
  have e1 : z.cps.toList = st.take sp ++ [a, b] ++ st.drop sp := by rw [hz]
  have l1 : z.length = st.length + 2 := by
    rw [TL.len_tl]
    show z.cps.toList.length = _
    rw [e1]; simp; omega
  have al : z.cps.toList.all isLet = true := by
    rw [e1]
    simp only [List.all_append, List.all_cons, List.all_nil, ha, hb, Bool.and_true, Bool.and_eq_true]
    rw [List.all_eq_true] at hs ⊢
    refine ⟨fun x hx => hs x (List.mem_of_mem_take hx), ?_⟩
    rw [List.all_eq_true]
    exact fun x hx => hs x (List.mem_of_mem_drop hx)
  refine ⟨al, by omega, ?_⟩
  by_cases hw : z ∈ WORDS
  · simp only [hw, decide_true, if_true]
    exact nameWithX hw
  · simp only [hw, decide_false, Bool.false_eq_true, if_false]
    have : z ++ ("" : Str) = z := by
      apply TL.ext_tl
      show (z.cps ++ ("" : Str).cps).toList = z.cps.toList
      rw [Array.toList_append, show ("" : Str).cps.toList = [] by decide +kernel, List.append_nil]
    rw [this]
    exact ⟨by omega, by omega, al, hw⟩
theorem called_ok {tk pk : FN} (ht : IsTake tk) (hp : IsPick2 pk) {n : Nat} {S : Store} (hS : Hand n S) {many : Nat} (hm : many ≤ 1000) : (run 2 13 (mCalled tk pk) [.obj n, .int many] S).sat fun d S' => FrH n S S' ∧ ∃ l : List Str, l.length = many ∧ (∀ s ∈ l, NameOk s) ∧ PoolV S S' d l := by
  rw [sat_run]
  refine ⟨rfl, ?_⟩
  unfold mCalled
  have okm : okRng (many : Int) = true := by simp [okRng]; omega
  refine seq4 (fun e S1 => ∃ f b : Int, e = [some (.obj n), some (.int many), some (.str LET), some (.lst (WORDS.map .str)), some (.int f), some (.int b), none, none, none, none, none, none, none] ∧ 0 ≤ f ∧ 0 ≤ b ∧ FrH n S S1) ?_ ?_
  · open_k
    simp only [mt_str, split_words, sat_ok, true_and]
    refine sat_mono (ht n S 676 hS (by decide) (by decide)) fun d1 S1 ⟨⟨f, e1, f0, f1⟩, fr1⟩ => ?_
    subst e1
    refine sat_mono (hp n S1 _ _ fr1.hd (.lst _) (by simp) (by simp)) fun d2 S2 ⟨hb, fr2⟩ => ?_
    obtain ⟨b, rfl, b0⟩ : ∃ b : Int, d2 = .int b ∧ 0 ≤ b := by
      simp at hb
      rcases hb with rfl | rfl | rfl | rfl | rfl | rfl | rfl <;> exact ⟨_, rfl, by decide⟩
    have fin : ∀ S3, FrH n S S3 → ∃ f_1 b_1 : Int, [some (D.obj n), some (D.int ↑many), some (D.str "abcdefghijklmnopqrstuvwxyz"), some (D.lst (List.map D.str WORDS)), some (D.int f), some (D.int b), none, none, none, none, none, none, none] = [some (.obj n), some (.int many), some (.str LET), some (.lst (WORDS.map .str)), some (.int f_1), some (.int b_1), none, none, none, none, none, none, none] ∧ 0 ≤ f_1 ∧ 0 ≤ b_1 ∧ FrH n S S3 := fun S3 fr => ⟨f, b, rfl, f0, b0, fr⟩
    by_cases h27 : (many : Int) < 27
    · simp only [h27, decide_true, if_true]
      refine sat_mono (ht n S2 6 fr2.hd (by decide) (by decide)) fun d3 S3 ⟨⟨z, e3, _, _⟩, fr3⟩ => ?_
      subst e3
      open_k
      by_cases hz : z = 0
      · simp only [hz, decide_true, if_true]
        refine ⟨okm, by rw [rangeD_len]; exact small (by omega), ?_⟩
        refine lc_rule (fun S' => S' = S3) (fun _ y => ∃ s, y = .str s ∧ NameOk s) rfl (fun x hx S4 e4 => ?_) fun ys S5 e5 hy => ?_
        · subst e4
          obtain ⟨i, rfl, i0, i1⟩ := mem_range hx
          open_k
          simp only [mod_int]
          refine ⟨by decide, ?_⟩
          obtain ⟨c, hc, e⟩ := let_ix (md (i := f + i)).1 (md (i := f + i)).2 S4
          rw [show ("abcdefghijklmnopqrstuvwxyz" : Str) = LET from rfl, e, sat_ok]
          exact ⟨⟨_, rfl, name_one hc⟩, rfl⟩
        · subst e5
          obtain ⟨l, rfl, hl⟩ : ∃ l : List Str, ys = l.map .str ∧ ∀ s ∈ l, NameOk s := by
            clear okm hm h27 fin
            generalize rangeD 0 (many : Int) = xs at hy
            induction hy with
            | nil => exact ⟨[], rfl, by simp⟩
            | cons p _ ih =>
              obtain ⟨s, rfl, hs⟩ := p
              obtain ⟨l, rfl, hl⟩ := ih
              exact ⟨s :: l, rfl, by simpa using ⟨hs, hl⟩⟩
          have := hy.len
          simp at this
          exact ⟨(fr1.trans fr2).trans fr3, l, this, hl, .inl rfl⟩
      · simp only [hz, decide_false, Bool.false_eq_true, if_false]
        exact fin S3 ((fr1.trans fr2).trans fr3)
    · simp only [h27, decide_false, Bool.false_eq_true, if_false]
      exact fin S2 (fr1.trans fr2)
  · rintro e S1 ⟨f, b, rfl, f0, b0, fr⟩
    have hlt := hS.lt
    refine seq2 (fun e S2 => ∃ (st : List Nat) (sp q : Nat), e = [some (.obj n), some (.int many), some (.str LET), some (.lst (WORDS.map .str)), some (.int f), some (.int b), none, some (.str ⟨st.toArray⟩), some (.int sp), some (.obj q), none, none, none] ∧
      st.all isLet = true ∧ st.length ≤ 6 ∧ sp ≤ st.length ∧ FrH n S S2 ∧ S.length ≤ q ∧ S2[q]? = some (.lst [])) ?_ ?_
    · open_k
      simp only [mt_str, true_and]
      refine sat_mono (hp n S1 _ _ fr.hd (.lst _) (by simp) (by simp)) fun d2 S2 ⟨hb, fr2⟩ => ?_
      obtain ⟨L, rfl, hL⟩ : ∃ L : Nat, d2 = .int L ∧ L ≤ 6 := by
        simp at hb
        rcases hb with rfl | rfl | rfl | rfl
        · exact ⟨0, rfl, by decide⟩
        · exact ⟨1, rfl, by decide⟩
        · exact ⟨2, rfl, by decide⟩
        · exact ⟨6, rfl, by decide⟩
      open_k
      refine ⟨by simp [okRng]; omega, by rw [rangeD_len]; exact small (by omega), ?_⟩
      refine lc_rule (FrH n S) (fun _ y => ∃ c, y = .str ⟨#[c]⟩ ∧ isLet c = true) (fr.trans fr2) (fun x hx S4 h4 => ?_) fun ys S5 h5 hy => ?_
      · open_k
        refine sat_mono (hp n S4 _ _ h4.hd let_src (by decide +kernel) (by decide +kernel)) fun d S5 ⟨hd, fr5⟩ => ?_
        obtain ⟨c, hc, rfl⟩ := let_mem hd
        exact ⟨⟨c, rfl, hc⟩, h4.trans fr5⟩
      · obtain ⟨st, rfl, hst⟩ : ∃ st : List Nat, ys = (st.map fun c => (⟨#[c]⟩ : Str)).map .str ∧ st.all isLet = true := by
          clear hb
          generalize rangeD 0 (L : Int) = xs at hy
          induction hy with
          | nil => exact ⟨[], rfl, rfl⟩
          | cons p _ ih =>
            obtain ⟨c, rfl, hc⟩ := p
            obtain ⟨st, rfl, hst⟩ := ih
            exact ⟨c :: st, rfl, by simp only [List.all_cons, hc, hst, Bool.and_self]⟩
        have hl := hy.len
        simp at hl
        have ej : joinD (.str "") [.lst ((st.map fun c => (⟨#[c]⟩ : Str)).map .str)] S5 = .ok (.str ⟨st.toArray⟩) S5 := by
          simp only [joinD, asS, asL, Option.bind_some, strs_map]
          have : (((st.map fun c => (⟨#[c]⟩ : Str)).map (·.length)).sum + (st.map fun c => (⟨#[c]⟩ : Str)).length * Str.length "") ≤ 16777216 := by
            have e0 : Str.length "" = 0 := by decide +kernel
            have e1 : (st.map fun c => (⟨#[c]⟩ : Str)).map (·.length) = st.map fun _ => 1 := by simp [Str.length]
            have es : ∀ l : List Nat, (l.map fun _ => 1).sum = l.length := fun l => by
              induction l with
              | nil => rfl
              | cons a l ih => simp [ih]; omega
            rw [e0, e1, es]
            simp; omega
          rw [if_pos this, join_letters]
        rw [ej]
        have hlen : (⟨st.toArray⟩ : Str).length = st.length := by simp [Str.length]
        simp only [sat_ok, len_s (show (⟨st.toArray⟩ : Str).length ≤ 1000 by rw [hlen]; omega), hlen, add_int]
        refine sat_mono (ht n S5 _ h5.hd (by omega) (by omega)) fun d S6 ⟨⟨z, e6, z0, z1⟩, fr6⟩ => ?_
        subst e6
        have fr7 := h5.trans fr6
        exact ⟨st, z.toNat, S6.length, by rw [Int.toNat_of_nonneg z0], hst, by omega, by omega, fr7.mk2 _, fr7.le, by simp⟩
    · rintro e S2 ⟨st, sp, q, rfl, hst, hl6, hsp, fr2, hq, e2⟩
      have hqn : q ≠ n := by omega
      have hlen : (⟨st.toArray⟩ : Str).length = st.length := by simp [Str.length]
      refine seq_rule (fun e S3 => (∃ a6 a10 a11 a12 : Option D, e = [some (.obj n), some (.int many), some (.str LET), some (.lst (WORDS.map .str)), some (.int f), some (.int b), a6, some (.str ⟨st.toArray⟩), some (.int sp), some (.obj q), a10, a11, a12]) ∧
        FrH n S S3 ∧ ∃ l : List Str, l.length = many ∧ (∀ s ∈ l, NameOk s) ∧ S3[q]? = some (.lst (l.map .str))) ?_ ?_
      · open_k
        refine ⟨okm, ?_⟩
        refine for_rule (fun j e S3 => (∃ a6 a10 a11 a12 : Option D, e = [some (.obj n), some (.int many), some (.str LET), some (.lst (WORDS.map .str)), some (.int f), some (.int b), a6, some (.str ⟨st.toArray⟩), some (.int sp), some (.obj q), a10, a11, a12]) ∧
          FrH n S S3 ∧ ∃ l : List Str, l.length = j ∧ (∀ s ∈ l, NameOk s) ∧ S3[q]? = some (.lst (l.map .str))) ⟨⟨_, _, _, _, rfl⟩, fr2, [], rfl, by simp, e2⟩ ?_ ?_
        · rintro j hj e S3 ⟨⟨a6, a10, a11, a12, rfl⟩, fr3, l, hl, hn, e3⟩
          rw [rangeD_get hj]
          have hj' : j < many := by simpa using hj
          open_k
          rw [mul_int]
          refine ⟨mulOk_r (by omega), ?_⟩
          open_k
          rw [mod_int]
          refine ⟨by decide, ?_⟩
          have m676 : ∀ i : Int, 0 ≤ i % 676 ∧ i % 676 < 676 := fun i => ⟨Int.emod_nonneg _ (by decide), Int.emod_lt_of_pos _ (by decide)⟩
          obtain ⟨v, hv⟩ : ∃ v : Int, (f + b * (0 + (j : Int))) % 676 = v := ⟨_, rfl⟩
          have hv2 := m676 (f + b * (0 + (j : Int)))
          rw [hv] at hv2 ⊢
          rw [fdiv_int]
          refine ⟨by decide, ?_⟩
          obtain ⟨c1, hc1, ec1⟩ := let_ix (i := v / 26) (by omega) (by omega) S3
          rw [ec1, sat_ok, mod_int]
          refine ⟨by decide, ?_⟩
          obtain ⟨c2, hc2, ec2⟩ := let_ix (md (i := v)).1 (md (i := v)).2 S3
          rw [ec2, sat_ok]
          have one : ∀ c : Nat, (⟨#[c]⟩ : Str).length = 1 := fun c => rfl
          rw [add_str (by rw [one, one]; exact small (by decide)), sat_ok]
          have hz1000 : (⟨st.toArray⟩ : Str).length ≤ 1000 := by rw [hlen]; omega
          have elo : cutS ⟨st.toArray⟩ none (some (sp : Int)) = ⟨(st.take sp).toArray⟩ := by
            unfold cutS
            rw [hlen, HT.sIx_none, HT.sIx_nat]
            simp [Nat.min_eq_left hsp]
          have ehi : cutS ⟨st.toArray⟩ (some (sp : Int)) none = ⟨(st.drop sp).toArray⟩ := by
            unfold cutS
            rw [hlen, HT.sIx_none, HT.sIx_nat]
            simp [Nat.min_eq_left hsp]
            rw [List.take_of_length_le (by simp)]
          refine ⟨_, rfl, ?_⟩
          rw [sl_str hz1000, elo, sat_ok]
          have lt : (⟨(st.take sp).toArray⟩ : Str).length ≤ 6 := by simp [Str.length]; omega
          have ld : (⟨(st.drop sp).toArray⟩ : Str).length ≤ 6 := by simp [Str.length]; omega
          have two : ((⟨#[c1]⟩ : Str) ++ (⟨#[c2]⟩ : Str)).length = 2 := rfl
          have app : ∀ a b : Str, (a ++ b).length = a.length + b.length := fun a b => by
            show (a.cps ++ b.cps).size = _
            rw [Array.size_append]; rfl
          rw [add_str (small (by rw [two]; omega)), sat_ok]
          refine ⟨_, rfl, ?_⟩
          rw [sl_str hz1000, ehi, sat_ok, add_str (small (by rw [app, two]; omega)), sat_ok]
          obtain ⟨z, hz⟩ : ∃ z : Str, z = (⟨(st.take sp).toArray⟩ : Str) ++ ((⟨#[c1]⟩ : Str) ++ (⟨#[c2]⟩ : Str)) ++ (⟨(st.drop sp).toArray⟩ : Str) := ⟨_, rfl⟩
          have hz2 : z = ⟨(st.take sp ++ [c1, c2] ++ st.drop sp).toArray⟩ := by
            rw [hz]
            apply TL.ext_tl
            show ((((st.take sp).toArray ++ (#[c1] ++ #[c2])) ++ (st.drop sp).toArray)).toList = _
            simp
          rw [← hz]
          obtain ⟨al, l8, ok⟩ := word_ok hst hc1 hc2 hl6 hsp z hz2
          refine ⟨mtD_obj e3, ?_⟩
          rw [in_words al, sat_ok]
          simp only [intD, sat_ok]
          rw [mulx, sat_ok]
          have lx : ∀ b : Bool, (if b = true then ("x" : Str) else "").length ≤ 1 := fun b => by cases b <;> decide +kernel
          rw [add_str (small (by have := lx (decide (z ∈ WORDS)); omega)), sat_ok, append_obj e3]
          refine ⟨Nat.lt_of_lt_of_le (m := 1000) (by simp; omega) (by decide), ⟨_, _, _, _, rfl⟩, fr3.put hS hq _, l ++ [z ++ (if decide (z ∈ WORDS) = true then ("x" : Str) else ("" : Str))], by simp [hl], ?_, ?_⟩
          · intro s hs
            rcases List.mem_append.mp hs with h | h
            · exact hn s h
            · simp only [List.mem_singleton] at h; rw [h]; exact ok
          · rw [List.getElem?_set_self (List.getElem?_eq_some_iff.mp e3).1]
            simp
        · rintro e S3 ⟨⟨a6, a10, a11, a12, rfl⟩, fr3, l, hl, hn, e3⟩
          simp at hl
          exact ⟨⟨_, _, _, _, rfl⟩, fr3, l, hl, hn, e3⟩
      · rintro e S3 ⟨⟨a6, a10, a11, a12, rfl⟩, fr3, l, hl, hn, e3⟩
        open_k
        exact ⟨fr3, l, hl, hn, .inr ⟨q, hq, rfl, e3⟩⟩
/-! ### drawn numbers -/
def IsDigit (dg : FN) : Prop := ∀ (n : Nat) (S : Store), Hand n S → (dg [.obj n] S).sat fun d S' => (∃ i : Int, d = .int i ∧ 0 ≤ i ∧ i ≤ 9972) ∧ FrH n S S'
theorem isDigit {tk pk : FN} (ht : IsTake tk) (hp : IsPick2 pk) : IsDigit (run 1 1 (mDigit tk pk)) := fun n S hS => by
  rw [sat_run]
  refine ⟨rfl, ?_⟩
  unfold mDigit
  open_k
  refine sat_mono (ht n S 6 hS (by decide) (by decide)) fun d1 S1 ⟨⟨a, e1, a0, a1⟩, fr1⟩ => ?_
  subst e1
  refine sat_mono (ht n S1 9973 fr1.hd (by decide) (by decide)) fun d2 S2 ⟨⟨b, e2, b0, b1⟩, fr2⟩ => ?_
  subst e2
  refine sat_mono (hp n S2 _ _ fr2.hd (.lst _) (by simp) (by simp)) fun d3 S3 ⟨h, fr3⟩ => ⟨?_, (fr1.trans fr2).trans fr3⟩
  simp at h
  rcases h with rfl | rfl | rfl | rfl | rfl | rfl | rfl <;> exact ⟨_, rfl, by omega, by omega⟩
end L3
set_option Elab.async false
set_option linter.all false
set_option maxRecDepth 100000
set_option maxHeartbeats 4000000
/-! L3V: drawn programs. -/
namespace L3
open PySem L2
local macro_rules | `(tactic| open_k) => `(tactic| simp only [ssat_seq, ssat_asg, ssat_sRet, ssat_sExpr, ssat_if, ssat_skip, ssat_par, ssat_nx, ssat_ret, ssat_for, sat_e2, sat_e1, sat_eN, sat_aCons, sat_aNil, sat_eVar, sat_eK, sat_tOfE, sat_tTruth, sat_tNot, sat_tAnd, sat_tOr, sat_eIf, sat_eBM, sat_iSeq, sat_iArgs, sat_eAnd, sat_eOr, sat_eNot, sat_eChain, sat_eSl, sat_pNo, sat_pYes, sat_eLc, sat_eKw, sat_mkTup, sat_mkLst, sat_mkObj, sat_ok, callK_eq, List.append_nil, List.map_cons, List.map_nil, List.length_cons, List.length_nil, List.replicate, List.getElem?_cons_succ, List.getElem?_cons_zero, List.cons_append, List.nil_append, List.set_cons_succ, List.set_cons_zero, gName_eq, gTup_tup, gNames_cons, gNames_nil, Nat.zero_add, Nat.reduceAdd, Nat.reduceSub, sz0, sz1, sz2, sz3, sz4, sz5, sz6, sz7, sz8, sz10, sz17, true_and, add_int, sub_int, neg_int, lt_int, le_int, gt_int, ge_int, eq_int, ne_int, blD_bl, truthD_bl, itemsD_lst, itemsD_tup, wipeD, eq_strs, ne_strs, sl_tup, sl_lst, if_true, if_false, Bool.false_eq_true, sat_range1, sat_range2, tuple_lst, tuple_tup, len_tup, len_lst, len_scr, D.int.injEq, exists_eq_left', mt_str])
def mGrown (tk pk dg gr : FN) : SD :=
    sSeq (sAsg (e2 subD (e2 ixD (eVar 1) (eK (.str "left"))) (eK (.int 1))) (gSub (eVar 1) (eK (.str "left"))))
    (sSeq (sIf (tOr (tOfE (e2 eqD (eVar 3) (eK (.int 0)))) (tOfE (e2 ltD (e2 ixD (eVar 1) (eK (.str "left"))) (eK (.int 4))))) (sSeq (sIf (tOfE (e2 ltD (eN (callK tk []) (aCons (eVar 0) (aCons (eK (.int 5)) (aNil)))) (eK (.int 3)))) (sRet (eN mkTup (aCons (eK (.str "name")) (aCons (eN (callK pk []) (aCons (eVar 0) (aCons (e2 addD (e2 addD (eSl (eVar 2) (pYes (e1 negD (eK (.int 2)))) (pNo)) (eSl (eVar 2) (pYes (e1 negD (eK (.int 2)))) (pNo))) (e2 ixD (eVar 1) (eK (.str "pool")))) (aNil)))) (aCons (eN mkTup (aNil)) (aNil)))))) (sSkip))
    (sRet (eN mkTup (aCons (eK (.str "num")) (aCons (eN (callK dg []) (aCons (eVar 0) (aNil))) (aCons (eN mkTup (aNil)) (aNil))))))) (sSkip))
    (sSeq (sPar [4, 5] (aCons (eN (callK tk []) (aCons (eVar 0) (aCons (eK (.int 13)) (aNil)))) (aCons (eN (callK pk []) (aCons (eVar 0) (aCons (eN mkLst (aCons (eK (.int 2)) (aCons (eK (.int 2)) (aCons (eK (.int 3)) (aCons (eK (.int 1)) (aCons (eK (.int 4)) (aNil))))))) (aNil)))) (aNil))))
    (sSeq (sIf (tOfE (e2 ltD (eVar 4) (eK (.int 4)))) (sSeq (sAsg (e2 ixD (eN mkLst (aCons (eK (.str "plus")) (aCons (eK (.str "times")) (aCons (eK (.str "most")) (aCons (eK (.str "plus")) (aNil)))))) (eVar 4)) (gName 6))
    (sRet (eN mkTup (aCons (eVar 6) (aCons (eK (.str "")) (aCons (eN tupleD (aCons (eLc (iArgs range1 (aCons (eVar 5) (aNil))) [7] (gName 7) (tYesD) (eN (callK gr []) (aCons (eVar 0) (aCons (eVar 1) (aCons (eVar 2) (aCons (e2 subD (eVar 3) (eK (.int 1))) (aNil))))))) (aNil))) (aNil))))))) (sSkip))
    (sSeq (sIf (tOfE (e2 ltD (eVar 4) (eK (.int 7)))) (sSeq (sAsg (eN (callK pk []) (aCons (eVar 0) (aCons (eN mkLst (aCons (eVar 5) (aCons (eK (.int 0)) (aCons (eK (.int 3)) (aCons (eK (.int 4)) (aCons (eK (.int 5)) (aNil))))))) (aNil)))) (gName 5))
    (sRet (eN mkTup (aCons (eK (.str "row")) (aCons (eK (.str "")) (aCons (eN tupleD (aCons (eLc (iArgs range1 (aCons (eVar 5) (aNil))) [7] (gName 7) (tYesD) (eN (callK gr []) (aCons (eVar 0) (aCons (eVar 1) (aCons (eVar 2) (aCons (e2 subD (eVar 3) (eK (.int 1))) (aNil))))))) (aNil))) (aNil))))))) (sSkip))
    (sSeq (sIf (tOfE (e2 ltD (eVar 4) (eK (.int 10)))) (sSeq (sAsg (e2 ixD (eN mkLst (aCons (eK (.str "let")) (aCons (eK (.str "each")) (aCons (eK (.str "let")) (aNil))))) (e2 subD (eVar 4) (eK (.int 7)))) (gName 6))
    (sSeq (sPar [8, 9] (aCons (eN (callK pk []) (aCons (eVar 0) (aCons (e2 ixD (eVar 1) (eK (.str "pool"))) (aNil)))) (aCons (eN (callK gr []) (aCons (eVar 0) (aCons (eVar 1) (aCons (eVar 2) (aCons (e2 subD (eVar 3) (eK (.int 1))) (aNil)))))) (aNil))))
    (sRet (eN mkTup (aCons (eVar 6) (aCons (eVar 8) (aCons (eN mkTup (aCons (eVar 9) (aCons (eN (callK gr []) (aCons (eVar 0) (aCons (eVar 1) (aCons (e2 addD (eVar 2) (eN mkLst (aCons (eVar 8) (aNil)))) (aCons (e2 subD (eVar 3) (eK (.int 1))) (aNil)))))) (aNil)))) (aNil)))))))) (sSkip))
    (sSeq (sAsg (e2 ixD (eN mkLst (aCons (eK (.str "say")) (aCons (eN (callK pk []) (aCons (eVar 0) (aCons (eN mkLst (aCons (eK (.str "less")) (aCons (eK (.str "below")) (aNil)))) (aNil)))) (aCons (eK (.str "if")) (aNil))))) (e2 subD (eVar 4) (eK (.int 10)))) (gName 6))
    (sRet (eN mkTup (aCons (eVar 6) (aCons (eK (.str "")) (aCons (eN tupleD (aCons (eLc (iArgs range1 (aCons (e2 subD (eVar 4) (eK (.int 9))) (aNil))) [7] (gName 7) (tYesD) (eN (callK gr []) (aCons (eVar 0) (aCons (eVar 1) (aCons (eVar 2) (aCons (e2 subD (eVar 3) (eK (.int 1))) (aNil))))))) (aNil))) (aNil))))))))))))
/-- what is still to come, the names to choose from -/
def Pot (p : Nat) (left : Int) (pv : D) (S : Store) : Prop := S[p]? = some (.dK [(.inr "left", .int left), (.inr "pool", pv)])
section
variable {n p : Nat} {S S' S'' : Store} {left x : Int} {pv : D}
theorem pot_left (h : Pot p left pv S) : ixD (.obj p) (.str "left") S = .ok (.int left) S := by
  simp only [ixD, show S[p]? = _ from h]
  kernel_rfl
theorem pot_pool (h : Pot p left pv S) : ixD (.obj p) (.str "pool") S = .ok pv S := by
  simp only [ixD, show S[p]? = _ from h]
  kernel_rfl
theorem pot_set (h : Pot p left pv S) : setD (.obj p) (.str "left") (.int x) S = some (S.set p (.dK [(.inr "left", .int x), (.inr "pool", pv)])) := by
  simp only [setD, show S[p]? = _ from h]
  kernel_rfl
/-- the hand and the pot alone have changed -/
structure FrX (n p : Nat) (S S' : Store) : Prop where
  le : S.length ≤ S'.length
  fr : ∀ m o, m ≠ n → m ≠ p → S[m]? = some o → S'[m]? = some o
  hd : Hand n S'
theorem FrX.of (h : FrH n S S') : FrX n p S S' := ⟨h.le, fun m o hm _ e => h.fr m o hm e, h.hd⟩
theorem FrX.trans (h : FrX n p S S') (g : FrX n p S' S'') : FrX n p S S'' := ⟨Nat.le_trans h.le g.le, fun m o h1 h2 e => g.fr m o h1 h2 (h.fr m o h1 h2 e), g.hd⟩
theorem FrX.toH (h : FrX n p S S') (o : O) (e : S[p]? = some o) (e' : S'[p]? = some o) : FrH n S S' := ⟨h.le, fun m o' hm e1 => by
  by_cases hp : m = p
  · subst hp; rw [e] at e1; cases e1; exact e'
  · exact h.fr m o' hm hp e1, h.hd⟩
theorem Pot.fr (h : Pot p left pv S) (hp : p ≠ n) (f : FrH n S S') : Pot p left pv S' := f.fr _ _ hp h
theorem FrX.set (h : Hand n S) (hp : n ≠ p) (o : O) : FrX n p S (S.set p o) := by
  refine ⟨by simp, fun m o' _ hm e => by rw [List.getElem?_set_ne (Ne.symm hm)]; exact e, ?_⟩
  obtain ⟨g, s, e⟩ := h
  exact ⟨g, s, by rw [List.getElem?_set_ne (Ne.symm hp)]; exact e⟩
/-- the names to choose from -/
inductive Pool (n p : Nat) (S : Store) : D → List Str → Prop where
  | lst (l : List Str) : Pool n p S (.lst (l.map .str)) l
  | obj {q : Nat} {l : List Str} : q ≠ n → q ≠ p → S[q]? = some (.lst (l.map .str)) → Pool n p S (.obj q) l
theorem Pool.fr {l : List Str} (h : Pool n p S pv l) (f : FrX n p S S') : Pool n p S' pv l := by
  cases h with
  | lst => exact .lst _
  | obj h1 h2 e => exact .obj h1 h2 (f.fr _ _ h1 h2 e)
theorem Pool.src {l : List Str} (h : Pool n p S pv l) : Src n S pv (l.map .str) := by
  cases h with
  | lst => exact .lst _
  | obj h1 h2 e => exact .obj h1 e
theorem Pool.add {l : List Str} (h : Pool n p S pv l) {a : List D} (hz : a.length + l.length ≤ sizeLine) : addD (.lst a) pv S = .ok (.lst (a ++ l.map .str)) S := by
  cases h with
  | lst => exact add_lst (by simpa using hz)
  | obj h1 h2 e => simp [addD, asL, e, hz]
theorem gsub_eq {mo mi : ED} {o i v : D} {env : EnvD} (ho : mo env S = .ok o S) (hi : mi env S = .ok i S) (h : setD o i v S = some S') : gSub mo mi v env S = .nx env S' := by simp [gSub, ho, hi, h]
end
theorem cutL_mem {α : Type} {l : List α} {lo hi : Option Int} {x : α} (h : x ∈ cutL l lo hi) : x ∈ l := List.mem_of_mem_drop (List.mem_of_mem_take h)
theorem cutL_len {α : Type} {l : List α} {lo hi : Option Int} : (cutL l lo hi).length ≤ l.length := by
  unfold cutL
  rw [List.length_take, List.length_drop]; omega
def GrownOk (gr : FN) (level : Nat) : Prop := ∀ (n p : Nat) (S : Store) (left : Int) (pv : D) (pool scope : List Str), Hand n S → n ≠ p → Pot p left pv S → Pool n p S pv pool → pool ≠ [] → pool.length ≤ 500 → (∀ s ∈ pool, NameOk s) →
  (∀ s ∈ scope, NameOk s) → scope.length + level ≤ 200 → (gr [.obj n, .obj p, .lst (scope.map .str), .int level] S).sat fun d S' => ∃ t : Tm, d = t.d ∧ Good t ∧ t.dep ≤ level + 1 ∧ FrX n p S S' ∧ Pot p (left - t.size) pv S' ∧
    (left ≤ 4 → t.size = 1) ∧ (5 ≤ left → 3 - 4 * (level : Int) ≤ left - t.size)
theorem kids {gr : FN} {L : Nat} (hg : GrownOk gr L) {n p : Nat} {S : Store} {left : Int} {pv : D} {pool scope : List Str} (hS : Hand n S) (hnp : n ≠ p) (hpot : Pot p left pv S) (hpool : Pool n p S pv pool) (h0 : pool ≠ []) (h1 : pool.length ≤ 500) (hn : ∀ s ∈ pool, NameOk s)
    (hs : ∀ s ∈ scope, NameOk s) (hl : scope.length + L ≤ 200) (hleft : 4 ≤ left) {m : Nat} (hm : m ≤ 5) {env : EnvD} {i : Nat} (hi : 4 ≤ i) (e0 : env[0]? = some (some (.obj n))) (e1 : env[1]? = some (some (.obj p))) (e2' : env[2]? = some (some (.lst (scope.map .str)))) (e3 : env[3]? = some (some (.int ((L + 1 : Nat) : Int))))
    {Q : List D → Store → Prop} (hQ : ∀ ts S', ts.length = m → (∀ t ∈ ts, Good t) → Tm.deps ts ≤ L + 1 → FrX n p S S' → Pot p (left - Tm.sizes ts) pv S' → 3 - 4 * ((L + 1 : Nat) : Int) ≤ left - Tm.sizes ts → Q (Tm.ds ts) S') :
    lcSat (gName i) tYesD (eN (callK gr []) (aCons (eVar 0) (aCons (eVar 1) (aCons (eVar 2) (aCons (e2 subD (eVar 3) (eK (.int 1))) (aNil)))))) env (rangeD 0 m) S Q := by
  refine lc_acc (acc := []) (fun acc S' => ∃ ts, acc = Tm.ds ts ∧ (∀ t ∈ ts, Good t) ∧ Tm.deps ts ≤ L + 1 ∧ FrX n p S S' ∧ Pot p (left - Tm.sizes ts) pv S' ∧ (ts = [] ∨ 3 - 4 * (L : Int) - ((ts.length : Int) - 1) ≤ left - Tm.sizes ts)) ?_ ?_ ?_
  · exact ⟨[], rfl, by simp, by simp [Tm.deps], ⟨Nat.le_refl _, fun _ _ _ _ e => e, hS⟩, by simpa [Tm.sizes] using hpot, .inl rfl⟩
  · rintro x hx acc S1 ⟨ts, rfl, hgood, hdep, fr, pot, hb⟩
    have g : ∀ j : Nat, j < 4 → (env.set i (some x))[j]? = env[j]? := fun j hj => by rw [List.getElem?_set_ne (by omega)]
    simp only [sat_eN, sat_aCons, sat_aNil, sat_eVar, g 0 (by decide), g 1 (by decide), g 2 (by decide), e0, e1, e2', sat_e2, g 3 (by decide), e3, sat_eK, sub_int, sat_ok, callK_eq, List.append_nil]
    rw [show (((L + 1 : Nat) : Int) - 1) = (L : Int) by omega]
    refine sat_mono (hg n p S1 _ pv pool scope fr.hd hnp pot (hpool.fr fr) h0 h1 hn hs hl) fun d S2 q => ?_
    obtain ⟨t, rfl, g1, g2, fr2, pot2, b1, b2⟩ := q
    have es : Tm.sizes (ts ++ [t]) = Tm.sizes ts + t.size := by rw [Tm.sizes_app]; simp [Tm.sizes]
    refine ⟨ts ++ [t], by simp [Tm.ds_map], ?_, ?_, fr.trans fr2, ?_, .inr ?_⟩
    · intro t' ht
      rcases List.mem_append.mp ht with h | h
      · exact hgood t' h
      · simp only [List.mem_singleton] at h; rw [h]; exact g1
    · rw [Tm.deps_le] at hdep ⊢
      intro t' ht
      rcases List.mem_append.mp ht with h | h
      · exact hdep t' h
      · simp only [List.mem_singleton] at h; rw [h]; exact g2
    · rw [es]
      have : left - ((Tm.sizes ts + t.size : Nat) : Int) = left - Tm.sizes ts - t.size := by omega
      rw [this]; exact pot2
    · rw [es]
      have e : left - ((Tm.sizes ts + t.size : Nat) : Int) = left - Tm.sizes ts - t.size := by omega
      rw [e]
      simp only [List.length_append, List.length_cons, List.length_nil]
      have b1 := b1
      have b2 := b2
      by_cases h5 : 5 ≤ left - (Tm.sizes ts : Int)
      · have := b2 h5; omega
      · have := b1 (by omega)
        rcases hb with rfl | hb
        · simp [Tm.sizes] at h5 ⊢; omega
        · omega
  · rintro ys S1 hlen ⟨ts, e, hgood, hdep, fr, pot, hb⟩
    simp only [List.nil_append] at e
    subst e
    have hl2 : ts.length = m := by rw [Tm.ds_len] at hlen; simpa using hlen
    refine hQ ts S1 hl2 hgood hdep fr pot ?_
    rcases hb with rfl | hb
    · simp [Tm.sizes]; omega
    · omega
end L3
set_option Elab.async false
set_option linter.all false
set_option maxRecDepth 100000
set_option maxHeartbeats 4000000
/-! L3W: drawn programs, the law. -/
namespace L3
open PySem L2
local macro_rules | `(tactic| open_k) => `(tactic| simp only [ssat_seq, ssat_asg, ssat_sRet, ssat_sExpr, ssat_if, ssat_skip, ssat_par, ssat_nx, ssat_ret, ssat_for, sat_e2, sat_e1, sat_eN, sat_aCons, sat_aNil, sat_eVar, sat_eK, sat_tOfE, sat_tTruth, sat_tNot, sat_tAnd, sat_tOr, sat_eIf, sat_eBM, sat_iSeq, sat_iArgs, sat_eAnd, sat_eOr, sat_eNot, sat_eChain, sat_eSl, sat_pNo, sat_pYes, sat_eLc, sat_eKw, sat_mkTup, sat_mkLst, sat_mkObj, sat_ok, callK_eq, List.append_nil, List.map_cons, List.map_nil, List.length_cons, List.length_nil, List.replicate, List.getElem?_cons_succ, List.getElem?_cons_zero, List.cons_append, List.nil_append, List.set_cons_succ, List.set_cons_zero, gName_eq, gTup_tup, gNames_cons, gNames_nil, Nat.zero_add, Nat.reduceAdd, Nat.reduceSub, sz0, sz1, sz2, sz3, sz4, sz5, sz6, sz7, sz8, sz10, sz17, true_and, add_int, sub_int, neg_int, lt_int, le_int, gt_int, ge_int, eq_int, ne_int, blD_bl, truthD_bl, itemsD_lst, itemsD_tup, wipeD, eq_strs, ne_strs, sl_tup, sl_lst, if_true, if_false, Bool.false_eq_true, sat_range1, sat_range2, tuple_lst, tuple_tup, len_tup, len_lst, len_scr, D.int.injEq, exists_eq_left', mt_str])
theorem grown_ok {tk pk dg gr : FN} (ht : IsTake tk) (hp : IsPick2 pk) (hd : IsDigit dg) {L : Nat} (ih : L ≠ 0 → GrownOk gr (L - 1)) : GrownOk (run 4 10 (mGrown tk pk dg gr)) L := by
  intro n p S left pv pool scope hS hnp hpot hpool h0 h1 hn hs hl
  rw [sat_run]
  refine ⟨rfl, ?_⟩
  unfold mGrown
  have pl : p < S.length := (List.getElem?_eq_some_iff.mp hpot).1
  refine seq_rule (fun e S1 => e = [some (D.obj n), some (D.obj p), some (D.lst (List.map D.str scope)), some (D.int (L : Int)), none, none, none, none, none, none] ∧ FrX n p S S1 ∧ Pot p (left - 1) pv S1) ?_ ?_
  · open_k
    rw [pot_left hpot]
    open_k
    rw [gsub_eq (o := .obj p) (i := .str "left") (by simp [eVar]) (by simp [eK]) (pot_set hpot)]
    open_k
    exact ⟨FrX.set hS hnp _, by show (S.set p _)[p]? = _; rw [List.getElem?_set_self pl]⟩
  rintro e S1 ⟨rfl, fr1, pot1⟩
  have pool1 := hpool.fr fr1
  refine seq_rule (fun e S2 => e = [some (D.obj n), some (D.obj p), some (D.lst (List.map D.str scope)), some (D.int (L : Int)), none, none, none, none, none, none] ∧ S2 = S1 ∧ L ≠ 0 ∧ 4 ≤ left - 1) ?_ ?_
  · have leaf : (sSeq (sIf (tOfE (e2 ltD (eN (callK tk []) (aCons (eVar 0) (aCons (eK (.int 5)) (aNil)))) (eK (.int 3)))) (sRet (eN mkTup (aCons (eK (.str "name")) (aCons (eN (callK pk []) (aCons (eVar 0) (aCons (e2 addD (e2 addD (eSl (eVar 2) (pYes (e1 negD (eK (.int 2)))) (pNo)) (eSl (eVar 2) (pYes (e1 negD (eK (.int 2)))) (pNo))) (e2 ixD (eVar 1) (eK (.str "pool")))) (aNil)))) (aCons (eN mkTup (aNil)) (aNil)))))) (sSkip))
    (sRet (eN mkTup (aCons (eK (.str "num")) (aCons (eN (callK dg []) (aCons (eVar 0) (aNil))) (aCons (eN mkTup (aNil)) (aNil)))))) [some (D.obj n), some (D.obj p), some (D.lst (List.map D.str scope)), some (D.int (L : Int)), none, none, none, none, none, none] S1).sat (fun _ _ => False) (fun d S' => ∃ t : Tm, d = t.d ∧ Good t ∧ t.size = 1 ∧ t.dep = 1 ∧ FrH n S1 S') (fun _ _ => False) (fun _ _ => False) := by
      open_k
      refine sat_mono (ht n S1 5 fr1.hd (by decide) (by decide)) fun d1 S2 ⟨⟨f, e1, f0, f1⟩, fr2⟩ => ?_
      subst e1
      open_k
      by_cases h3 : f < 3
      · simp only [h3, decide_true, if_true]
        have ec : cutL (scope.map D.str) (some (-2)) none = (cutL scope (some (-2)) none).map D.str := by unfold cutL; simp
        have lc : (cutL scope (some (-2)) none).length ≤ 200 := Nat.le_trans cutL_len (by omega)
        rw [ec, add_lst (small (by simp; omega)), sat_ok, pot_pool (pot1.fr (Ne.symm hnp) fr2), sat_ok]
        rw [← List.map_append, (pool1.fr (.of fr2)).add (small (by simp; omega)), sat_ok, ← List.map_append]
        refine sat_mono (hp n S2 _ _ fr2.hd (.lst _) (by simp [h0]) (by simp; omega)) fun d2 S3 ⟨hb, fr3⟩ => ?_
        simp only [List.mem_map] at hb
        obtain ⟨z, hz, rfl⟩ := hb
        have hz : NameOk z := by
          rcases List.mem_append.mp hz with h | h
          · rcases List.mem_append.mp h with h | h <;> exact hs z (cutL_mem h)
          · exact hn z h
        exact ⟨.nam z, rfl, .nam hz, rfl, rfl, fr2.trans fr3⟩
      · simp only [h3, decide_false, Bool.false_eq_true, if_false]
        refine sat_mono (hd n S2 fr2.hd) fun d2 S3 ⟨⟨i, e2, i0, i1⟩, fr3⟩ => ?_
        subst e2
        exact ⟨.num i, rfl, .num i0 i1, rfl, rfl, fr2.trans fr3⟩
    have fin : ∀ d S', (∃ t : Tm, d = t.d ∧ Good t ∧ t.size = 1 ∧ t.dep = 1 ∧ FrH n S1 S') → ∃ t : Tm, d = t.d ∧ Good t ∧ t.dep ≤ L + 1 ∧ FrX n p S S' ∧ Pot p (left - t.size) pv S' ∧ (left ≤ 4 → t.size = 1) ∧ (5 ≤ left → 3 - 4 * (L : Int) ≤ left - t.size) := by
      rintro d S' ⟨t, e, g, s1, d1, fr⟩
      refine ⟨t, e, g, by omega, fr1.trans (.of fr), ?_, fun _ => s1, fun _ => by rw [s1]; omega⟩
      rw [s1]; exact pot1.fr (Ne.symm hnp) fr
    rw [ssat_if, sat_tOr]
    simp only [sat_tOfE, sat_e2, sat_eVar, sat_eK, List.getElem?_cons_succ, List.getElem?_cons_zero, eq_int, sat_ok, blD_bl]
    by_cases hL : (L : Int) = 0
    · rw [if_pos (decide_eq_true hL)]
      exact ssat_mono leaf (fun _ _ h => h.elim) fin (fun _ _ h => h.elim) (fun _ _ h => h.elim)
    · simp only [hL, decide_false, Bool.false_eq_true, if_false, pot_left pot1, sat_ok, lt_int, blD_bl]
      by_cases h4 : left - 1 < 4
      · rw [if_pos (decide_eq_true h4)]
        exact ssat_mono leaf (fun _ _ h => h.elim) fin (fun _ _ h => h.elim) (fun _ _ h => h.elim)
      · simp only [h4, decide_false, Bool.false_eq_true, if_false, ssat_skip]
        exact ⟨trivial, trivial, by omega, by omega⟩
  rintro e S2 ⟨rfl, rfl, hL, h4⟩
  obtain ⟨L, rfl⟩ : ∃ L', L = L' + 1 := ⟨L - 1, by omega⟩
  have ih := ih (by omega)
  rw [Nat.add_sub_cancel] at ih
  refine seq_rule (fun e S3 => ∃ (lot : Int) (m : Nat), e = [some (D.obj n), some (D.obj p), some (D.lst (List.map D.str scope)), some (D.int ((L + 1 : Nat) : Int)), some (.int lot), some (.int (m : Int)), none, none, none, none] ∧ 0 ≤ lot ∧ lot < 13 ∧ 1 ≤ m ∧ m ≤ 4 ∧ FrX n p S S3 ∧ Pot p (left - 1) pv S3) ?_ ?_
  · open_k
    refine sat_mono (ht n S2 13 fr1.hd (by decide) (by decide)) fun d1 S3 ⟨⟨f, e1, f0, f1⟩, fr2⟩ => ?_
    subst e1
    refine sat_mono (hp n S3 _ _ fr2.hd (.lst _) (by simp) (by simp)) fun d2 S4 ⟨hb, fr3⟩ => ?_
    have : ∃ m : Nat, d2 = .int m ∧ 1 ≤ m ∧ m ≤ 4 := by
      simp at hb
      rcases hb with rfl | rfl | rfl | rfl
      · exact ⟨2, rfl, by decide, by decide⟩
      · exact ⟨3, rfl, by decide, by decide⟩
      · exact ⟨1, rfl, by decide, by decide⟩
      · exact ⟨4, rfl, by decide, by decide⟩
    obtain ⟨m, rfl, m1, m4⟩ := this
    exact ⟨f, m, rfl, f0, f1, m1, m4, fr1.trans (.of (fr2.trans fr3)), pot1.fr (Ne.symm hnp) (fr2.trans fr3)⟩
  rintro e S3 ⟨lot, m, rfl, l0, l1, m1, m4, fr3, pot3⟩
  have pool3 := hpool.fr fr3
  have made : ∀ (w : Str) (ts : List Tm) (S' : Store) (f mo : Nat), shape w = some (f, mo, false) → f ≤ ts.length → ts.length ≤ mo → (∀ t ∈ ts, Good t) → Tm.deps ts ≤ L + 1 → FrX n p S3 S' → Pot p (left - 1 - Tm.sizes ts) pv S' → 3 - 4 * ((L + 1 : Nat) : Int) ≤ left - 1 - Tm.sizes ts →
      ∃ t : Tm, D.tup [.str w, .str "", .tup (Tm.ds ts)] = t.d ∧ Good t ∧ t.dep ≤ L + 1 + 1 ∧ FrX n p S S' ∧ Pot p (left - t.size) pv S' ∧ (left ≤ 4 → t.size = 1) ∧ (5 ≤ left → 3 - 4 * ((L + 1 : Nat) : Int) ≤ left - t.size) := by
    intro w ts S' f mo hw hf hmo hg hdp fr pot b
    have e : left - ((Tm.nd w "" ts).size : Int) = left - 1 - Tm.sizes ts := by simp only [Tm.size]; omega
    refine ⟨.nd w "" ts, rfl, .nd hw hf hmo (fun h => by cases h) (fun _ => rfl) hg, by simp only [Tm.dep]; omega, fr3.trans fr, by rw [e]; exact pot, fun h => by omega, fun _ => by rw [e]; exact b⟩
  have pickW : ∀ (l : List Str) (i : Int) (S : Store), 0 ≤ i → i < l.length → ∃ w ∈ l, ixD (.lst (l.map .str)) (.int i) S = .ok (.str w) S := by
    intro l i S h0 h1
    obtain ⟨d, hd, e⟩ := (Src.lst (n := n) (S := S) (l.map .str)).ix h0 (by simpa using h1)
    simp only [List.mem_map] at hd
    obtain ⟨w, hw, rfl⟩ := hd
    exact ⟨w, hw, e⟩
  rw [ssat_seq, ssat_if]
  simp only [sat_tOfE, sat_e2, sat_eVar, sat_eK, List.getElem?_cons_succ, List.getElem?_cons_zero, lt_int, sat_ok, blD_bl]
  by_cases c4 : lot < 4
  · rw [if_pos (decide_eq_true c4)]
    obtain ⟨w, hw, e⟩ := pickW ["plus", "times", "most", "plus"] lot S3 l0 (by simpa using c4)
    have hsh : shape w = some (1, 6, false) := by
      simp at hw; rcases hw with rfl | rfl | rfl | rfl <;> decide +kernel
    simp only [List.map_cons, List.map_nil] at e
    open_k
    rw [e, sat_ok]
    refine ⟨by simp [okRng]; omega, by rw [rangeD_len]; exact small (by omega), ?_⟩
    refine kids ih fr3.hd hnp pot3 pool3 h0 h1 hn hs (by omega) (by omega) (by omega) (by decide) rfl rfl rfl rfl fun ts S' hlen hg hdp fr pot b => ?_
    exact made w ts S' _ _ hsh (by omega) (by omega) hg hdp fr pot b
  rw [if_neg (by simpa using c4), ssat_skip, ssat_seq, ssat_if]
  simp only [sat_tOfE, sat_e2, sat_eVar, sat_eK, List.getElem?_cons_succ, List.getElem?_cons_zero, lt_int, sat_ok, blD_bl]
  by_cases c7 : lot < 7
  · rw [if_pos (decide_eq_true c7)]
    open_k
    refine sat_mono (hp n S3 _ _ fr3.hd (.lst _) (by simp) (by simp)) fun d2 S4 ⟨hb, fr4⟩ => ?_
    have : ∃ m : Nat, d2 = .int m ∧ m ≤ 5 := by
      simp at hb
      rcases hb with rfl | rfl | rfl | rfl | rfl
      · exact ⟨m, rfl, by omega⟩
      · exact ⟨0, rfl, by decide⟩
      · exact ⟨3, rfl, by decide⟩
      · exact ⟨4, rfl, by decide⟩
      · exact ⟨5, rfl, by decide⟩
    obtain ⟨m, rfl, m5⟩ := this
    open_k
    have fr5 := fr3.trans (.of fr4)
    refine ⟨by simp [okRng]; omega, by rw [rangeD_len]; exact small (by omega), ?_⟩
    refine kids ih fr4.hd hnp (pot3.fr (Ne.symm hnp) fr4) (hpool.fr fr5) h0 h1 hn hs (by omega) (by omega) (by omega) (by decide) rfl rfl rfl rfl fun ts S' hlen hg hdp fr pot b => ?_
    exact made "row" ts S' 0 6 (by decide +kernel) (by omega) (by omega) hg hdp ((FrX.of fr4).trans fr) pot b
  rw [if_neg (by simpa using c7), ssat_skip, ssat_seq, ssat_if]
  simp only [sat_tOfE, sat_e2, sat_eVar, sat_eK, List.getElem?_cons_succ, List.getElem?_cons_zero, lt_int, sat_ok, blD_bl]
  by_cases c10 : lot < 10
  · rw [if_pos (decide_eq_true c10)]
    obtain ⟨w, hw, e⟩ := pickW ["let", "each", "let"] (lot - 7) S3 (by omega) (by simp; omega)
    have hsh : shape w = some (2, 2, true) := by
      simp at hw; rcases hw with rfl | rfl | rfl <;> decide +kernel
    simp only [List.map_cons, List.map_nil] at e
    open_k
    rw [e, sat_ok]
    rw [pot_pool pot3, sat_ok]
    refine sat_mono (hp n S3 _ _ fr3.hd pool3.src (by simp [h0]) (by simp; omega)) fun d2 S4 ⟨hb, fr4⟩ => ?_
    simp only [List.mem_map] at hb
    obtain ⟨z, hz, rfl⟩ := hb
    have fr5 := fr3.trans (.of fr4)
    have el : (((L + 1 : Nat) : Int) - 1) = (L : Int) := by omega
    rw [el]
    refine sat_mono (ih n p S4 _ pv pool scope fr4.hd hnp (pot3.fr (Ne.symm hnp) fr4) (hpool.fr fr5) h0 h1 hn hs (by omega)) fun d3 S5 q => ?_
    obtain ⟨t1, rfl, g1, dp1, fr6, pot6, b1, b2⟩ := q
    rw [show ([D.str z] : List D) = [z].map D.str from rfl, add_lst (small (by simp; omega)), sat_ok, ← List.map_append]
    refine sat_mono (ih n p S5 _ pv pool (scope ++ [z]) fr6.hd hnp pot6 (hpool.fr (fr5.trans fr6)) h0 h1 hn (by
      intro s h
      rcases List.mem_append.mp h with h | h
      · exact hs s h
      · simp only [List.mem_singleton] at h; rw [h]; exact hn z hz) (by simp; omega)) fun d4 S6 q => ?_
    obtain ⟨t2, rfl, g2, dp2, fr7, pot7, b3, b4⟩ := q
    have es : left - ((Tm.nd w z [t1, t2]).size : Int) = left - 1 - t1.size - t2.size := by simp only [Tm.size, Tm.sizes]; omega
    refine ⟨.nd w z [t1, t2], rfl, .nd hsh (by simp) (by simp) (fun _ => hn z hz) (fun h => by cases h) (by simp [g1, g2]), by simp only [Tm.dep, Tm.deps]; omega, (fr5.trans fr6).trans fr7, by rw [es]; exact pot7, fun h => by omega, fun _ => ?_⟩
    rw [es]
    by_cases h5 : 5 ≤ left - 1
    · have := b2 h5
      by_cases h6 : 5 ≤ left - 1 - (t1.size : Int)
      · have := b4 h6; omega
      · have := b3 (by omega); omega
    · have := b1 (by omega)
      have := b3 (by omega)
      omega
  rw [if_neg (by simpa using c10), ssat_skip]
  open_k
  refine sat_mono (hp n S3 _ _ fr3.hd (.lst _) (by simp) (by simp)) fun d2 S4 ⟨hb, fr4⟩ => ?_
  have fr5 := fr3.trans (.of fr4)
  have : ∃ w0 : Str, d2 = .str w0 ∧ (w0 = "less" ∨ w0 = "below") := by
    simp at hb
    rcases hb with rfl | rfl
    · exact ⟨_, rfl, .inl rfl⟩
    · exact ⟨_, rfl, .inr rfl⟩
  obtain ⟨w0, rfl, hw0⟩ := this
  obtain ⟨w, k, ek, e, hsh⟩ : ∃ (w : Str) (k : Nat), lot - 9 = k ∧ ixD (.lst [.str "say", .str w0, .str "if"]) (.int (lot - 10)) S4 = .ok (.str w) S4 ∧ shape w = some (k, k, false) ∧ k ≤ 3 := by
    have : lot = 10 ∨ lot = 11 ∨ lot = 12 := by omega
    rcases this with rfl | rfl | rfl
    · exact ⟨"say", 1, rfl, rfl, by decide +kernel, by decide⟩
    · refine ⟨w0, 2, rfl, rfl, ?_, by decide⟩
      rcases hw0 with rfl | rfl <;> decide +kernel
    · exact ⟨"if", 3, rfl, rfl, by decide +kernel, by decide⟩
  rw [e, sat_ok]
  rw [ek]
  refine ⟨by simp [okRng]; omega, by rw [rangeD_len]; exact small (by omega), ?_⟩
  refine kids ih fr4.hd hnp (pot3.fr (Ne.symm hnp) fr4) (hpool.fr fr5) h0 h1 hn hs (by omega) (by omega) (by omega) (by decide) rfl rfl rfl rfl fun ts S' hlen hg hdp fr pot b => ?_
  exact made w ts S' k k hsh.1 (by omega) (by omega) hg hdp ((FrX.of fr4).trans fr) pot b
theorem grown_all {tk pk dg : FN} {gr : Nat → FN} (ht : IsTake tk) (hp : IsPick2 pk) (hd : IsDigit dg) (hg : ∀ f, gr (f + 1) = run 4 10 (mGrown tk pk dg (gr f))) : ∀ L f, L < f → GrownOk (gr f) L
  | L, 0, h => absurd h (by omega)
  | 0, f + 1, _ => by rw [hg]; exact grown_ok ht hp hd fun h => absurd rfl h
  | L + 1, f + 1, h => by rw [hg]; exact grown_ok ht hp hd fun _ => grown_all ht hp hd hg L f (by omega)
end L3
set_option Elab.async false
set_option linter.all false
set_option maxRecDepth 100000
set_option maxHeartbeats 4000000
/-! L3X: a drawn program, handed out. -/
namespace L3
open PySem L2
local macro_rules | `(tactic| open_k) => `(tactic| simp only [ssat_seq, ssat_asg, ssat_sRet, ssat_sExpr, ssat_if, ssat_skip, ssat_par, ssat_nx, ssat_ret, ssat_for, sat_e2, sat_e1, sat_eN, sat_aCons, sat_aNil, sat_eVar, sat_eK, sat_tOfE, sat_tTruth, sat_tNot, sat_tAnd, sat_tOr, sat_eIf, sat_eBM, sat_iSeq, sat_iArgs, sat_eAnd, sat_eOr, sat_eNot, sat_eChain, sat_eSl, sat_pNo, sat_pYes, sat_eLc, sat_eKw, sat_mkTup, sat_mkLst, sat_mkObj, sat_ok, callK_eq, List.append_nil, List.map_cons, List.map_nil, List.length_cons, List.length_nil, List.replicate, List.getElem?_cons_succ, List.getElem?_cons_zero, List.cons_append, List.nil_append, List.set_cons_succ, List.set_cons_zero, gName_eq, gTup_tup, gNames_cons, gNames_nil, Nat.zero_add, Nat.reduceAdd, Nat.reduceSub, sz0, sz1, sz2, sz3, sz4, sz5, sz6, sz7, sz8, sz10, sz17, true_and, add_int, sub_int, neg_int, lt_int, le_int, gt_int, ge_int, eq_int, ne_int, blD_bl, truthD_bl, itemsD_lst, itemsD_tup, wipeD, eq_strs, ne_strs, sl_tup, sl_lst, if_true, if_false, Bool.false_eq_true, sat_range1, sat_range2, tuple_lst, tuple_tup, len_tup, len_lst, len_scr, D.int.injEq, exists_eq_left', mt_str])
def mCode (tk cl gr : FN) : SD :=
    sSeq (sAsg (eN (callK cl []) (aCons (eVar 0) (aCons (e2 addD (eK (.int 1)) (eN (callK tk []) (aCons (eVar 0) (aCons (eK (.int 5)) (aNil))))) (aNil)))) (gName 2))
    (sRet (eN (callK gr []) (aCons (eVar 0) (aCons (eDct [(eK (.str "left"), eVar 1), (eK (.str "pool"), eVar 2)]) (aCons (eN mkLst (aNil)) (aCons (e2 addD (eK (.int 3)) (eN (callK tk []) (aCons (eVar 0) (aCons (eK (.int 5)) (aNil))))) (aNil)))))))
def IsCalled (cl : FN) : Prop := ∀ (n : Nat) (S : Store) (many : Nat), Hand n S → many ≤ 1000 → (cl [.obj n, .int many] S).sat fun d S' => FrH n S S' ∧ ∃ l : List Str, l.length = many ∧ (∀ s ∈ l, NameOk s) ∧ PoolV S S' d l
theorem isCalled {tk pk : FN} (ht : IsTake tk) (hp : IsPick2 pk) : IsCalled (run 2 13 (mCalled tk pk)) := fun n S many h hm => called_ok ht hp h hm
theorem code_ok {tk cl gr : FN} (ht : IsTake tk) (hc : IsCalled cl) (hg : ∀ L, L ≤ 7 → GrownOk gr L) {n : Nat} {S : Store} (hS : Hand n S) {left : Nat} (h5 : 5 ≤ left) : (run 2 3 (mCode tk cl gr) [.obj n, .int left] S).sat fun d S' => ∃ t : Tm, d = t.d ∧ Good t ∧ t.dep ≤ 8 ∧ t.size ≤ left + 25 ∧ FrH n S S' := by
  rw [sat_run]
  refine ⟨rfl, ?_⟩
  unfold mCode
  refine seq_rule (fun e S1 => ∃ (pv : D) (l : List Str), e = [some (.obj n), some (.int left), some pv] ∧ FrH n S S1 ∧ 1 ≤ l.length ∧ l.length ≤ 5 ∧ (∀ s ∈ l, NameOk s) ∧ PoolV S S1 pv l) ?_ ?_
  · open_k
    refine sat_mono (ht n S 5 hS (by decide) (by decide)) fun d1 S1 ⟨⟨f, e1, f0, f1⟩, fr1⟩ => ?_
    subst e1
    open_k
    have e : (1 + f) = ((1 + f.toNat : Nat) : Int) := by omega
    rw [e]
    refine sat_mono (hc n S1 _ fr1.hd (by omega)) fun d2 S2 ⟨fr2, l, hl, hn, pv⟩ => ?_
    refine ⟨d2, l, rfl, fr1.trans fr2, by omega, by omega, hn, ?_⟩
    rcases pv with h | ⟨q, h1, h2, h3⟩
    · exact .inl h
    · exact .inr ⟨q, Nat.le_trans fr1.le h1, h2, h3⟩
  rintro e S1 ⟨pv, l, rfl, fr1, l1, l5, hn, hpv⟩
  open_k
  have ed : (eDct [(eK (D.str "left"), eVar 1), (eK (D.str "pool"), eVar 2)] [some (D.obj n), some (D.int left), some pv] S1) = .ok (.obj S1.length) (S1 ++ [.dK [(.inr "left", .int left), (.inr "pool", pv)]]) := by
    simp [eDct, pairsD, R.nox, R.bind, eK, eVar]
    kernel_rfl
  rw [ed, sat_ok]
  have fr2 := fr1.mk2 (.dK [(.inr "left", .int left), (.inr "pool", pv)])
  have pot2 : Pot S1.length left pv (S1 ++ [.dK [(.inr "left", .int left), (.inr "pool", pv)]]) := by simp [Pot]
  have nl : n < S1.length := fr1.hd.lt
  have pool2 : Pool n S1.length (S1 ++ [.dK [(.inr "left", .int left), (.inr "pool", pv)]]) pv l := by
    rcases hpv with h | ⟨q, h1, rfl, h3⟩
    · rw [h]; exact .lst l
    · have hq := (List.getElem?_eq_some_iff.mp h3).1
      have := hS.lt
      exact .obj (by omega) (by omega) (by rw [List.getElem?_append_left hq]; exact h3)
  refine sat_mono (ht n _ 5 fr2.hd (by decide) (by decide)) fun d2 S2 ⟨⟨f, e2, f0, f1⟩, fr3⟩ => ?_
  subst e2
  open_k
  have e : (3 + f) = ((3 + f.toNat : Nat) : Int) := by omega
  rw [e]
  have l0 : l ≠ [] := by intro h; rw [h] at l1; simp at l1
  refine sat_mono (hg (3 + f.toNat) (by omega) n S1.length S2 left pv l [] fr3.hd (by omega) (pot2.fr (by omega) fr3) (pool2.fr (.of fr3)) l0 (by omega) hn (by simp) (by simp; omega)) fun d3 S3 q => ?_
  obtain ⟨t, rfl, g1, dp, fr4, pot4, b1, b2⟩ := q
  have := b2 (by omega)
  refine ⟨t, rfl, g1, by omega, by omega, ?_⟩
  have fx : FrH n S S2 := fr2.trans fr3
  exact ⟨Nat.le_trans fx.le fr4.le, fun m o hm e => fr4.fr m o hm (by have := (List.getElem?_eq_some_iff.mp e).1; have := fr1.le; omega) (fx.fr m o hm e), fr4.hd⟩
end L3
set_option Elab.async false
set_option linter.all false
set_option maxRecDepth 100000
set_option maxHeartbeats 4000000
/-! L3Y: any thing, what a program is. -/
namespace L3
open PySem L2
local macro_rules | `(tactic| open_k) => `(tactic| simp only [ssat_seq, ssat_asg, ssat_sRet, ssat_sExpr, ssat_if, ssat_skip, ssat_par, ssat_nx, ssat_ret, ssat_for, sat_e2, sat_e1, sat_eN, sat_aCons, sat_aNil, sat_eVar, sat_eK, sat_tOfE, sat_tTruth, sat_tNot, sat_tAnd, sat_tOr, sat_eIf, sat_eBM, sat_iSeq, sat_iArgs, sat_eAnd, sat_eOr, sat_eNot, sat_eChain, sat_eSl, sat_pNo, sat_pYes, sat_eLc, sat_eKw, sat_mkTup, sat_mkLst, sat_mkObj, sat_ok, callK_eq, List.append_nil, List.map_cons, List.map_nil, List.length_cons, List.length_nil, List.replicate, List.getElem?_cons_succ, List.getElem?_cons_zero, List.cons_append, List.nil_append, List.set_cons_succ, List.set_cons_zero, gName_eq, gTup_tup, gNames_cons, gNames_nil, Nat.zero_add, Nat.reduceAdd, Nat.reduceSub, sz0, sz1, sz2, sz3, sz4, sz5, sz6, sz7, sz8, sz10, sz17, true_and, add_int, sub_int, neg_int, lt_int, le_int, gt_int, ge_int, eq_int, ne_int, blD_bl, truthD_bl, itemsD_lst, itemsD_tup, wipeD, eq_strs, ne_strs, sl_tup, sl_lst, if_true, if_false, Bool.false_eq_true, sat_range1, sat_range2, tuple_lst, tuple_tup, len_tup, len_lst, len_scr, D.int.injEq, exists_eq_left', mt_str])
/-- signs that stand for themselves -/
def asc (s : Str) : Bool := decide (s.length ≤ 9) && s.cps.toList.all fun c => decide (c < 128)
/-- things as the laws hand them out -/
inductive U (B : Nat) : D → Prop where
  | non : U B .non
  | bl (b : Bool) : U B (.bl b)
  | int {i : Int} : -10000 ≤ i → i ≤ 10000 → U B (.int i)
  | str {s : Str} : asc s = true → U B (.str s)
  | tup {l : List D} : l.length ≤ B → (∀ x ∈ l, U B x) → U B (.tup l)
  | lst {l : List D} : l.length ≤ B → (∀ x ∈ l, U B x) → U B (.lst l)
  | dic : U B (.dic [] [])
def isNm : D → Bool
  | .str s => decide (1 ≤ s.length) && decide (s.length ≤ 8) && !decide (s ∈ WORDS) && s.cps.toList.all isLet
  | _ => false
def isNum : D → Bool
  | .int i => decide (0 ≤ i) && decide (i ≤ 9972)
  | _ => false
def isEmp : D → Bool
  | .str s => decide (s = "")
  | _ => false
def fits (w : Str) (m : D) (n : Nat) : Bool := match shape w with
  | some (f, mo, g) => decide (f ≤ n) && decide (n ≤ mo) && (if g = true then isNm m else isEmp m)
  | none => false
/-- a program, so many things deep at most -/
def ok : Nat → D → Bool
  | 0, _ => false
  | k + 1, .tup [.str w, m, .tup ps] =>
    if w = "num" then isNum m && ps.isEmpty
    else if w = "name" then isNm m && ps.isEmpty
    else fits w m ps.length && ps.all (ok k)
  | _ + 1, _ => false
/-- its things -/
def szz : Nat → D → Int
  | 0, _ => 0
  | k + 1, .tup [.str _, _, .tup ps] => 1 + (ps.map (szz k)).sum
  | _ + 1, _ => 0
theorem asc_ok {s : Str} (h : asc s = true) : PyData.strOk s = true := by
  simp only [asc, Bool.and_eq_true, decide_eq_true_eq] at h
  unfold PyData.strOk
  rw [← Array.all_toList, List.all_eq_true]
  intro c hc
  have := List.all_eq_true.mp h.2 c hc
  simp only [decide_eq_true_eq] at this ⊢; omega
theorem asc_len {s : Str} (h : asc s = true) : s.length ≤ 9 := by
  simp only [asc, Bool.and_eq_true, decide_eq_true_eq] at h; exact h.1
theorem name_asc {s : Str} (h : NameOk s) : asc s = true := by
  simp only [asc, Bool.and_eq_true, decide_eq_true_eq]
  refine ⟨by have := h.hi; omega, ?_⟩
  rw [List.all_eq_true]
  intro c hc
  have := List.all_eq_true.mp h.lt c hc
  simp only [isLet, Bool.and_eq_true, decide_eq_true_eq] at this ⊢; omega
theorem words_asc {s : Str} (h : s ∈ WORDS) : asc s = true := by
  have a : WORDS.all asc = true := by decide +kernel
  exact List.all_eq_true.mp a s h
theorem shape_word {w : Str} {f mo : Nat} {g : Bool} (h : shape w = some (f, mo, g)) : w ∈ WORDS ∧ w ≠ "num" ∧ w ≠ "name" := by
  unfold shape at h
  split at h
  · rename_i q; rcases q with rfl | rfl | rfl <;> decide +kernel
  split at h
  · rename_i q; subst q; decide +kernel
  split at h
  · rename_i q; subst q; decide +kernel
  split at h
  · rename_i q; rcases q with rfl | rfl <;> decide +kernel
  split at h
  · rename_i q; subst q; decide +kernel
  split at h
  · rename_i q; rcases q with rfl | rfl <;> decide +kernel
  cases h
theorem shape_most {w : Str} {f mo : Nat} {g : Bool} (h : shape w = some (f, mo, g)) : mo ≤ 6 := by
  unfold shape at h
  repeat' split at h
  all_goals first | (cases h; done) | (cases h; decide)
theorem Good.u : ∀ t : Tm, Good t → U 6 t.d
  | _, .num h0 h1 => by
    simp only [Tm.d]
    refine .tup (by simp) fun x hx => ?_
    simp only [List.mem_cons, List.not_mem_nil, or_false] at hx
    rcases hx with rfl | rfl | rfl
    · exact .str (by decide +kernel)
    · exact .int (by omega) (by omega)
    · exact .tup (by simp) (by simp)
  | _, .nam h => by
    simp only [Tm.d]
    refine .tup (by simp) fun x hx => ?_
    simp only [List.mem_cons, List.not_mem_nil, or_false] at hx
    rcases hx with rfl | rfl | rfl
    · exact .str (by decide +kernel)
    · exact .str (name_asc h)
    · exact .tup (by simp) (by simp)
  | _, .nd (w := w) (m := m) (ps := ps) hw hf hm hg hn hp => by
    simp only [Tm.d]
    refine .tup (by simp) fun x hx => ?_
    simp only [List.mem_cons, List.not_mem_nil, or_false] at hx
    rcases hx with rfl | rfl | rfl
    · exact .str (words_asc (shape_word hw).1)
    · rename_i g
      cases g with
      | true => exact .str (name_asc (hg rfl))
      | false => rw [hn rfl]; exact .str (by decide +kernel)
    · refine .tup (by rw [Tm.ds_len]; exact Nat.le_trans hm (shape_most hw)) fun x hx => ?_
      rw [Tm.ds_map, List.mem_map] at hx
      obtain ⟨t, ht, rfl⟩ := hx
      exact Good.u t (hp t ht)
theorem nm_name {s : Str} (h : NameOk s) : isNm (.str s) = true := by
  simp [isNm, h.lo, h.hi, h.lt, h.nw]
theorem Good.ok : ∀ (k : Nat) (t : Tm), Good t → t.dep ≤ k → ok k t.d = true
  | 0, t, _, h => absurd t.dep_pos (by omega)
  | k + 1, _, .num h0 h1, _ => by simp [Tm.d, L3.ok, isNum, h0, h1]
  | k + 1, _, .nam h, _ => by
    simp only [Tm.d, L3.ok]
    rw [if_neg (by decide +kernel), if_pos trivial, nm_name h]
    rfl
  | k + 1, _, .nd (w := w) (m := m) (ps := ps) (f := f) (mo := mo) (g := g) hw hf hm hg hn hp, hd => by
    simp only [Tm.dep] at hd
    have hd : Tm.deps ps ≤ k := by omega
    rw [Tm.deps_le] at hd
    have hm' : (if g = true then isNm (.str m) else isEmp (.str m)) = true := by
      cases g with
      | true => exact nm_name (hg rfl)
      | false => rw [hn rfl]; rfl
    simp only [Tm.d, L3.ok, if_neg (shape_word hw).2.1, if_neg (shape_word hw).2.2, fits, hw, Tm.ds_len, hm', hf, hm, decide_true, Bool.and_true, Bool.true_and, List.all_eq_true]
    intro x hx
    rw [Tm.ds_map, List.mem_map] at hx
    obtain ⟨t, ht, rfl⟩ := hx
    exact Good.ok k t (hp t ht) (hd t ht)
theorem szz_tm : ∀ (k : Nat) (t : Tm), t.dep ≤ k → szz k t.d = t.size
  | 0, t, h => absurd t.dep_pos (by omega)
  | k + 1, .num _, _ => by simp [Tm.d, szz, Tm.size]
  | k + 1, .nam _, _ => by simp [Tm.d, szz, Tm.size]
  | k + 1, .nd w m ps, h => by
    simp only [Tm.dep] at h
    have hd : Tm.deps ps ≤ k := by omega
    rw [Tm.deps_le] at hd
    have : ∀ ts : List Tm, (∀ t ∈ ts, t.dep ≤ k) → ((ts.map Tm.d).map (szz k)).sum = (Tm.sizes ts : Int) := by
      intro ts
      induction ts with
      | nil => intro _; rfl
      | cons t ts ih =>
        intro h
        simp only [List.map_cons, List.sum_cons, Tm.sizes]
        rw [szz_tm k t (h t (List.mem_cons_self ..)), ih fun t ht => h t (List.mem_cons_of_mem _ ht)]
        omega
    simp only [Tm.d, szz, Tm.ds_map, Tm.size]
    rw [this ps hd]; omega
theorem U.mono {B B' : Nat} (hB : B ≤ B') : ∀ {x : D}, U B x → U B' x
  | _, .non => .non
  | _, .bl b => .bl b
  | _, .int h0 h1 => .int h0 h1
  | _, .str h => .str h
  | _, .tup h hl => .tup (Nat.le_trans h hB) fun x hx => U.mono hB (hl x hx)
  | _, .lst h hl => .lst (Nat.le_trans h hB) fun x hx => U.mono hB (hl x hx)
  | _, .dic => .dic
/-! signs -/
theorem let_list : LET.cps.toList = List.range' 97 26 := by decide +kernel
theorem mem_let (c : Nat) : decide (c ∈ LET.cps.toList) = isLet c := by
  rw [let_list]
  simp only [List.mem_range'_1, isLet]
  rw [Bool.eq_iff_iff]
  simp only [decide_eq_true_eq, Bool.and_eq_true]
  omega
theorem in_let {c : Nat} {S : Store} : inD (sgn c) (.str LET) S = .ok (.bl (isLet c)) S := by
  rw [← mem_let]
  rfl
theorem ge_a {c : Nat} {S : Store} : leD (.str "a") (sgn c) S = .ok (.bl (decide (97 ≤ c))) S := by
  have e : ("a" : Str).cps.toList = [97] := by decide +kernel
  show leD (.str "a") (.str ⟨#[c]⟩) S = _
  simp only [leD, e]
  congr 3
  rw [Bool.eq_iff_iff]
  simp only [Bool.not_eq_true', decide_eq_false_iff_not, decide_eq_true_eq, List.cons_lt_cons_iff, List.not_lt_nil, and_false, or_false, Nat.not_lt]
theorem le_z {c : Nat} {S : Store} : leD (sgn c) (.str "z") S = .ok (.bl (decide (c ≤ 122))) S := by
  have e : ("z" : Str).cps.toList = [122] := by decide +kernel
  show leD (.str ⟨#[c]⟩) (.str "z") S = _
  simp only [leD, e]
  congr 3
  rw [Bool.eq_iff_iff]
  simp only [Bool.not_eq_true', decide_eq_false_iff_not, decide_eq_true_eq, List.cons_lt_cons_iff, List.not_lt_nil, and_false, or_false, Nat.not_lt]
theorem items_str {s : Str} {S : Store} (h : s.length ≤ 1000) : itemsD (.str s) S = .ok (s.cps.toList.map sgn) S := by
  unfold itemsD; simp only
end L3
set_option Elab.async false
set_option linter.all false
set_option maxRecDepth 100000
set_option maxHeartbeats 4000000
/-! L3Z: what any thing is shown as. -/
namespace L3
open PySem L2
mutual
def wt : D → Nat
  | .tup l => 100 + wts l
  | .lst l => 100 + wts l
  | .non => 100 | .bl _ => 100 | .int _ => 100 | .str _ => 100 | .dic _ _ => 100 | .obj _ => 100 | .glb _ => 100 | .ty _ => 100 | .scr _ => 100 | .kd _ _ => 100
def wts : List D → Nat
  | [] => 0
  | x :: xs => wt x + wts xs
end
mutual
def dp : D → Nat
  | .tup l => 1 + dps l
  | .lst l => 1 + dps l
  | .dic _ _ => 1
  | .non => 0 | .bl _ => 0 | .int _ => 0 | .str _ => 0 | .obj _ => 0 | .glb _ => 0 | .ty _ => 0 | .scr _ => 0 | .kd _ _ => 0
def dps : List D → Nat
  | [] => 0
  | x :: xs => max (dp x) (dps xs)
end
theorem int_signs (i : Int) : ∀ c ∈ (toString i).toList, 45 ≤ c.toNat := by
  have nat : ∀ (n : Nat), ∀ c ∈ (Nat.repr n).toList, 45 ≤ c.toNat := by
    intro n c hc
    rw [Nat.toList_repr] at hc
    have h := Nat.isDigit_of_mem_toDigits (by decide) (by decide) hc
    simp only [Char.isDigit, Bool.and_eq_true, decide_eq_true_eq] at h
    have e : c.val.toNat = c.toNat := rfl
    have h2 : 48 ≤ c.val.toNat := by simpa using UInt32.le_iff_toNat_le.mp h.1
    omega
  intro c hc
  rw [Int.toString_eq_repr, Int.repr_eq_if] at hc
  split at hc
  · exact nat _ c hc
  · rw [String.toList_append, List.mem_append] at hc
    rcases hc with hc | hc
    · have : c = '-' := by simpa using hc
      subst this; decide
    · exact nat _ c hc
theorem tl_of (s : String) : (Str.ofString s).cps.toList = s.toList.map Char.toNat := by rw [Str.ofString_eq_toList]
theorem int_not (i : Int) : (((toString i : String) : Str) == "''") = false := by
  rw [beq_eq_false_iff_ne]
  intro h
  have e : (Str.ofString (toString i)).cps.toList = [39, 39] := by rw [h]; decide +kernel
  rw [tl_of] at e
  have : 39 ∈ (toString i).toList.map Char.toNat := by rw [e]; simp
  rw [List.mem_map] at this
  obtain ⟨c, hc, h39⟩ := this
  have := int_signs i c hc
  omega
theorem first_not {a b : Str} {s : Str} (ha : a.cps.toList.head? ≠ some 39) (h0 : a.cps.toList ≠ []) (h : s = a ++ b) : (s == "''") = false := by
  rw [beq_eq_false_iff_ne]
  rintro rfl
  have e : ("''" : Str).cps.toList = [39, 39] := by decide +kernel
  rw [h] at e
  have e : a.cps.toList ++ b.cps.toList = [39, 39] := by rw [← e]; show _ = (a.cps ++ b.cps).toList; simp
  cases q : a.cps.toList with
  | nil => exact h0 q
  | cons c cs =>
    rw [q] at e ha
    simp only [List.cons_append, List.cons.injEq] at e
    exact ha (by simp [e.1])
theorem reprChar_pos (q c : Nat) : 1 ≤ (Builtin.Str.reprChar q c).length := by
  unfold Builtin.Str.reprChar
  simp only []
  repeat' split
  all_goals simp
theorem fold_ge (q : Nat) : ∀ (l : List Nat) (acc : Array Nat), acc.size + l.length ≤ (l.foldl (fun out c => out ++ (Builtin.Str.reprChar q c).toArray) acc).size
  | [], acc => Nat.le_refl _
  | c :: r, acc => by
    have ih := fold_ge q r (acc ++ (Builtin.Str.reprChar q c).toArray)
    have := reprChar_pos q c
    simp only [List.foldl_cons, List.length_cons]
    simp only [Array.size_append, List.size_toArray] at ih
    omega
theorem reprText_ge (x : Str) : x.length + 2 ≤ (reprText x).length := by
  unfold reprText
  show _ ≤ ((x.cps.foldl (fun out c => out ++ (Builtin.Str.reprChar (reprQuote x) c).toArray) #[reprQuote x]).push (reprQuote x)).size
  rw [Array.size_push, ← Array.foldl_toList]
  have := fold_ge (reprQuote x) x.cps.toList #[reprQuote x]
  have e1 : (#[reprQuote x] : Array Nat).size = 1 := rfl
  have e2 : x.cps.toList.length = x.length := by simp [Str.length]
  omega
theorem str_emp (x : Str) : (reprText x == "''") = decide (x = "") := by
  rw [Bool.eq_iff_iff, beq_iff_eq, decide_eq_true_eq]
  constructor
  · intro h
    have := reprText_ge x
    rw [h] at this
    have e : ("''" : Str).length = 2 := by decide +kernel
    have l0 : x.length = 0 := by omega
    apply TL.ext_tl
    show x.cps.toList = ("" : Str).cps.toList
    have : x.cps.toList = [] := by
      have : x.cps.toList.length = 0 := by simpa [Str.length] using l0
      exact List.length_eq_zero_iff.mp this
    rw [this]; decide +kernel
  · rintro rfl; decide +kernel
theorem join_le (ts : List Str) : (Str.join ", " ts).length ≤ piled ts := by
  by_cases h : ts = []
  · subst h; decide +kernel
  · have := join_length_add ts h; omega
mutual
theorem shown_ok {B : Nat} : ∀ {x : D}, U B x → ∃ a, toPyR x = some a ∧ a.showable = true ∧ a.shown.length + 2 ≤ wt x ∧ a.depth ≤ dp x ∧ (a.shown == "''") = isEmp x
  | .non, _ => ⟨.none, rfl, by simp [PyData.showable], by rw [PyData.shown_none]; simp only [wt]; decide +kernel, by simp [PyData.depth, dp], by rw [PyData.shown_none]; simp only [isEmp]; decide +kernel⟩
  | .bl b, _ => ⟨.bool b, rfl, by simp [PyData.showable], by rw [PyData.shown_bool]; simp only [wt]; cases b <;> decide +kernel, by simp [PyData.depth, dp], by rw [PyData.shown_bool]; simp only [isEmp]; cases b <;> decide +kernel⟩
  | .int i, h => by
    cases h with
    | int h0 h1 =>
      have hn : i.natAbs < 10 ^ 5 := by omega
      refine ⟨.int i, rfl, ?_, ?_, by simp [PyData.depth, dp], ?_⟩
      · simp only [PyData.showable, decide_eq_true_eq]
        by_cases z : i.natAbs = 0
        · rw [z]; decide
        · exact Nat.lt_trans ((Nat.log2_lt z).mpr (Nat.lt_trans hn (by decide : (10 : Nat) ^ 5 < 2 ^ 20))) (by decide)
      · rw [PyData.shown_int]
        have := int_text_length_le10 (k := 5) (by decide) hn
        have e : (Str.ofString (toString i)).length = (toString i).length := by
          rw [Str.ofString_eq_toList]
          simp only [Str.length, List.size_toArray, List.length_map]
          first | exact String.length_toList | rfl | simp [String.length]
        simp only [wt]
        omega
      · rw [PyData.shown_int, int_not]; rfl
  | .str s, h => by
    cases h with
    | str hs =>
      refine ⟨.str s, rfl, by simp [PyData.showable], ?_, by simp [PyData.depth, dp], ?_⟩
      · rw [PyData.shown_str]
        have l9 := asc_len hs
        have := StrLaws.reprText_len s (by
          intro c hc
          simp only [asc, Bool.and_eq_true, decide_eq_true_eq] at hs
          have := List.all_eq_true.mp hs.2 c hc
          simp only [decide_eq_true_eq] at this
          exact Nat.lt_trans this (by decide))
        simp only [wt]
        omega
      · rw [PyData.shown_str, str_emp]; rfl
  | .tup l, h => by
    have h : ∀ x ∈ l, U B x := by cases h with | tup _ h => exact h
    obtain ⟨as, e1, e2, e3, e4⟩ := showns_ok h
    refine ⟨.tuple as, by simp only [toPyR, e1]; rfl, by simpa [PyData.showable] using e2, ?_, by simp only [PyData.depth, dp]; omega, ?_⟩
    · rw [PyData.shown_tuple, strLen_append, strLen_append]
      have := join_le (PyData.shownAll as)
      have a1 : (("(" : String) : Str).length = 1 := rfl
      have a2 : (((if as.length == 1 then ",)" else ")" : String) : Str)).length ≤ 2 := by split <;> decide
      simp only [wt]; omega
    · rw [PyData.shown_tuple, Str.append_assoc]
      rw [first_not (a := "(") (by decide +kernel) (by decide +kernel) rfl]; rfl
  | .lst l, h => by
    have h : ∀ x ∈ l, U B x := by cases h with | lst _ h => exact h
    obtain ⟨as, e1, e2, e3, e4⟩ := showns_ok h
    refine ⟨.list as, by simp only [toPyR, e1]; rfl, by simpa [PyData.showable] using e2, ?_, by simp only [PyData.depth, dp]; omega, ?_⟩
    · rw [PyData.shown_list, strLen_append, strLen_append]
      have := join_le (PyData.shownAll as)
      have a1 : (("[" : String) : Str).length = 1 := rfl
      have a2 : (("]" : String) : Str).length = 1 := rfl
      simp only [wt]; omega
    · rw [PyData.shown_list, Str.append_assoc]
      rw [first_not (a := "[") (by decide +kernel) (by decide +kernel) rfl]; rfl
  | .dic ks l, h => by
    cases h with
    | dic =>
      refine ⟨.dict [], rfl, by simp [PyData.showable, PyData.showableKv], ?_, by simp [PyData.depth, PyData.depthKv, dp], ?_⟩
      · rw [PyData.shown_dict, PyData.shownKv_nil]; simp only [wt]; decide +kernel
      · rw [PyData.shown_dict, PyData.shownKv_nil]; simp only [isEmp]; decide +kernel
  | .obj _, h => nomatch h
  | .glb _, h => nomatch h
  | .ty _, h => nomatch h
  | .scr _, h => nomatch h
  | .kd _ _, h => nomatch h
theorem showns_ok {B : Nat} : ∀ {l : List D}, (∀ x ∈ l, U B x) → ∃ as, toPyRL l = some as ∧ PyData.showableAll as = true ∧ piled (PyData.shownAll as) ≤ wts l ∧ PyData.depthAll as ≤ dps l
  | [], _ => ⟨[], rfl, by simp [PyData.showableAll], by simp [PyData.shownAll, piled, wts], by simp [PyData.depthAll, dps]⟩
  | x :: l, h => by
    obtain ⟨a, e1, e2, e3, e4, _⟩ := shown_ok (h x (List.mem_cons_self ..))
    obtain ⟨as, f1, f2, f3, f4⟩ := showns_ok fun y hy => h y (List.mem_cons_of_mem _ hy)
    refine ⟨a :: as, by simp only [toPyRL, e1, f1], by simp [PyData.showableAll, e2, f2], ?_, by simp only [PyData.depthAll, dps]; omega⟩
    simp only [PyData.shownAll, piled_cons, wts]; omega
end
theorem repr_ok {B : Nat} {x : D} (h : U B x) (hw : wt x ≤ 1000000) (hd : dp x ≤ 100) : ∃ z : Str, (∀ S, reprD [x] S = .ok (.str z) S) ∧ (z == "''") = isEmp x := by
  obtain ⟨a, e1, e2, e3, e4, e5⟩ := shown_ok h
  refine ⟨a.shown, fun S => ?_, e5⟩
  have hde : deref x S = x := by cases h <;> rfl
  have hok : showOk a = true := by
    simp only [showOk, e2, Bool.true_and, Bool.and_eq_true, decide_eq_true_eq]
    exact ⟨Nat.le_trans (by omega) (by decide : 1000000 ≤ sizeLine), by omega⟩
  unfold reprD
  simp only [hde, e1]
  rw [if_pos hok]
theorem wt_mem : ∀ {l : List D} {x : D}, x ∈ l → wt x ≤ wts l
  | y :: l, x, h => by
    simp only [wts]
    rcases List.mem_cons.mp h with rfl | h
    · omega
    · have := wt_mem h; omega
theorem dp_mem : ∀ {l : List D} {x : D}, x ∈ l → dp x ≤ dps l
  | y :: l, x, h => by
    simp only [dps]
    rcases List.mem_cons.mp h with rfl | h
    · omega
    · have := dp_mem h; omega
theorem wts_app : ∀ a b : List D, wts (a ++ b) = wts a + wts b
  | [], b => by simp [wts]
  | x :: a, b => by simp only [List.cons_append, wts, wts_app a b]; omega
theorem dps_app : ∀ a b : List D, dps (a ++ b) = max (dps a) (dps b)
  | [], b => by simp [dps]
  | x :: a, b => by simp only [List.cons_append, dps, dps_app a b]; omega
theorem wt_pos (x : D) : 100 ≤ wt x := by cases x <;> simp [wt]
theorem len_wts : ∀ l : List D, 100 * l.length ≤ wts l
  | [] => by simp
  | x :: l => by
    have := wt_pos x
    have := len_wts l
    simp only [wts, List.length_cons]; omega
/-! steps one by one, what follows left alone -/
section
variable {env : EnvD} {S S1 : Store} {N B C : EnvD → Store → Prop} {T : D → Store → Prop} {c : TD} {a : ED} {r s t : SD}
theorem step_ret (hc : c env S = .ok true S1) (h : (a env S1).sat T) : (sSeq (sIf c (sRet a) t) r env S).sat N T B C := by
  rw [ssat_seq, ssat_if, hc, sat_ok, if_pos rfl, ssat_sRet]; exact h
theorem step_no (hc : c env S = .ok false S1) (h : (r env S1).sat N T B C) : (sSeq (sIf c s sSkip) r env S).sat N T B C := by
  rw [ssat_seq, ssat_if, hc, sat_ok, if_neg Bool.false_ne_true, ssat_skip]; exact h
theorem step_yes (hc : c env S = .ok true S1) (h : (sSeq s r env S1).sat N T B C) : (sSeq (sIf c s t) r env S).sat N T B C := by
  rw [ssat_seq, ssat_if, hc, sat_ok, if_pos rfl, ← ssat_seq]; exact h
theorem step_asg {d : D} {g : GD} {env' : EnvD} {S2 : Store} (ha : a env S = .ok d S1) (hg : g d env S1 = .nx env' S2) (h : (r env' S2).sat N T B C) : (sSeq (sAsg a g) r env S).sat N T B C := by
  rw [ssat_seq, ssat_asg, ha, sat_ok, hg, ssat_nx]; exact h
theorem step_expr {d : D} (ha : a env S = .ok d S1) (h : (r env S1).sat N T B C) : (sSeq (sExpr a) r env S).sat N T B C := by
  rw [ssat_seq, ssat_sExpr, ha, sat_ok]; exact h
end
end L3
set_option Elab.async false
set_option linter.all false
set_option maxRecDepth 100000
set_option maxHeartbeats 4000000
namespace K01
open PySem L2 L3
def fuel : Nat := 100000
def c_LETTERS : D := (.str "abcdefghijklmnopqrstuvwxyz")
def c_MOST_DEEP : D := (.int 10)
def c_MOST_SIGNS : D := (.int 8)
def c_MOST_THINGS : D := (.int 60)
def c_NAME : D := (.str "name")
def c_NUM : D := (.str "num")
def c_ROW : D := (.str "row")
def c_SHAPES : D := (.kd ["plus", "times", "most", "row", "say", "less", "below", "if", "let", "each"] [(.tup [(.int 1), (.int 6), (.bl false)]), (.tup [(.int 1), (.int 6), (.bl false)]), (.tup [(.int 1), (.int 6), (.bl false)]), (.tup [(.int 0), (.int 6), (.bl false)]), (.tup [(.int 1), (.int 1), (.bl false)]), (.tup [(.int 2), (.int 2), (.bl false)]), (.tup [(.int 2), (.int 2), (.bl false)]), (.tup [(.int 3), (.int 3), (.bl false)]), (.tup [(.int 2), (.int 2), (.bl true)]), (.tup [(.int 2), (.int 2), (.bl true)])])
def c_WORDS : D := (.tup [(.str "plus"), (.str "times"), (.str "most"), (.str "row"), (.str "say"), (.str "less"), (.str "below"), (.str "if"), (.str "let"), (.str "each"), (.str "num"), (.str "name"), (.str "any"), (.str "rest"), (.str "called"), (.str "count")])
def kbd_is_program_0_thing_g : List D → List D → List D := gath .non [(true, 0)]
def kbd_is_thing_with_3_widest_g : List D → List D → List D := gath .non [(false, 0), (false, 1), (false, 2), (true, 0)]
def m_is_whole (F : Nat → FN) : SD :=
    sRet (eAnd (eN isiD (aCons (eVar 0) (aCons (eK (.ty "int")) (aNil)))) (eNot (eN isiD (aCons (eVar 0) (aCons (eK (.ty "bool")) (aNil))))))
def m_is_number (F : Nat → FN) : SD :=
    sRet (eAnd (eN (callK (F 0) []) (aCons (eVar 0) (aNil))) (eChain leD leD (eVar 1) (eVar 0) (eVar 2)))
def m_is_name (F : Nat → FN) : SD :=
    sSeq (sIf (tOr (tNot (tTruth (eN isiD (aCons (eVar 0) (aCons (eK (.ty "str")) (aNil)))))) (tOr (tNot (tOfE (eChain leD leD (eK (.int 1)) (eN lenD (aCons (eVar 0) (aNil))) (eK c_MOST_SIGNS)))) (tOfE (e2 inD (eVar 0) (eK c_WORDS))))) (sRet (eK (.bl false))) (sSkip))
    (sRet (eN allD (aCons (eLc (iSeq (eVar 0)) [1] (gName 1) (tYesD) (e2 inD (eVar 1) (eK c_LETTERS))) (aNil))))
def m_is_leaf (F : Nat → FN) : SD :=
    sSeq (sAsg (eVar 0) (gTup [1, 2, 3]))
    (sSeq (sIf (tOfE (e2 neD (eVar 3) (eN mkTup (aNil)))) (sRet (eK (.bl false))) (sSkip))
    (sRet (eOr (eAnd (e2 eqD (eVar 1) (eK c_NUM)) (eN (callK (F 1) [(.int 0), (.int 9972)]) (aCons (eVar 2) (aNil)))) (eAnd (e2 eqD (eVar 1) (eK c_NAME)) (eN (callK (F 2) []) (aCons (eVar 2) (aNil)))))))
def m_is_mark (F : Nat → FN) : SD :=
    sSeq (sIf (tTruth (eVar 0)) (sRet (eN (callK (F 2) []) (aCons (eVar 1) (aNil)))) (sSkip))
    (sRet (eAnd (eN isiD (aCons (eVar 1) (aCons (eK (.ty "str")) (aNil)))) (e2 eqD (eVar 1) (eK (.str "")))))
def m_is_thing_with (F : Nat → FN) : SD :=
    sSeq (sIf (tOr (tOfE (e2 ltD (eVar 2) (eK (.int 1)))) (tOr (tNot (tTruth (eN isiD (aCons (eVar 1) (aCons (eK (.ty "tuple")) (aNil)))))) (tOfE (e2 neD (eN lenD (aCons (eVar 1) (aNil))) (eK (.int 3)))))) (sRet (eK (.bl false))) (sSkip))
    (sSeq (sAsg (eVar 1) (gTup [4, 5, 6]))
    (sSeq (sIf (tOr (tNot (tTruth (eN isiD (aCons (eVar 4) (aCons (eK (.ty "str")) (aNil)))))) (tNot (tTruth (eN isiD (aCons (eVar 6) (aCons (eK (.ty "tuple")) (aNil))))))) (sRet (eK (.bl false))) (sSkip))
    (sSeq (sIf (tOfE (e2 notInD (eVar 4) (eK c_SHAPES))) (sRet (eFnL 0 "is_leaf" (F 3) (aCons (eVar 1) (aNil)))) (sSkip))
    (sSeq (sAsg (e2 ixD (eK c_SHAPES) (eVar 4)) (gTup [7, 8, 9]))
    (sSeq (sIf (tOfE (e2 eqD (eVar 4) (eK c_ROW))) (sAsg (eVar 3) (gName 8)) (sSkip))
    (sSeq (sIf (tOr (tNot (tOfE (eChain leD leD (eVar 7) (eN lenD (aCons (eVar 6) (aNil))) (eVar 8)))) (tNot (tTruth (eN (callK (F 4) []) (aCons (eVar 9) (aCons (eVar 5) (aNil))))))) (sRet (eK (.bl false))) (sSkip))
    (sRet (eN allD (aCons (eLc (iSeq (eVar 6)) [10] (gName 10) (tYesD) (eKw (kwK (F 5) 3 1 kbd_is_thing_with_3_widest_g) (aCons (eVar 0) (aCons (eVar 10) (aCons (e2 subD (eVar 2) (eK (.int 1))) (aNil)))) (aCons (eVar 3) (aNil)))) (aNil))))))))))
def m_count_of (F : Nat → FN) : SD :=
    sRet (e2 addD (eK (.int 1)) (eN sumD (aCons (eLc (iSeq (e2 ixD (eVar 0) (eK (.int 2)))) [1] (gName 1) (tYesD) (eN (callK (F 6) []) (aCons (eVar 1) (aNil)))) (aNil))))
def m_is_program (F : Nat → FN) : SD :=
    sRet (eAnd (eN (callK (F 5) [(.int 6)]) (aCons (eK (.glb "is_leaf")) (aCons (eVar 0) (aCons (eK c_MOST_DEEP) (aNil))))) (e2 leD (eN (callK (F 6) []) (aCons (eVar 0) (aNil))) (eK c_MOST_THINGS)))
def m_law_hand (F : Nat → FN) : SD :=
    sSeq (sAsg (e2 addD (e2 mulD (eK (.int 3)) (eVar 1)) (eN lenD (aCons (eVar 0) (aNil)))) (gName 2))
    (sSeq (sIf (tOfE (e2 ltD (eVar 1) (eN lenD (aCons (eVar 0) (aNil))))) (sAsg (e2 ixD (eVar 0) (eVar 1)) (gName 2)) (sSkip))
    (sSeq (sAsg (e2 mulD (e2 modD (eN absD (aCons (eVar 2) (aNil))) (e2 powD (e2 powD (eK (.int 10)) (eK (.int 60))) (eK (.int 5)))) (eN intD (aCons (e2 geD (eN absD (aCons (eVar 2) (aNil))) (e2 powD (eK (.int 10)) (eK (.int 18)))) (aNil)))) (gName 3))
    (sRet (eN mkObj (aCons (eVar 3) (aCons (e2 modD (e2 mulD (e2 addD (e2 addD (e2 modD (eVar 2) (eK (.int 2305843009213693951))) (e2 mulD (e2 mulD (eK (.int 7919)) (eVar 1)) (eVar 1))) (eK (.int 11))) (eK (.int 48271))) (eK (.int 2305843009213693951))) (aNil)))))))
def m_law_take (F : Nat → FN) : SD :=
    sSeq (sIf (tOfE (e2 gtD (e2 ixD (eVar 0) (eK (.int 0))) (eK (.int 0)))) (sSeq (sAsg (e2 modD (e2 ixD (eVar 0) (eK (.int 0))) (eVar 1)) (gName 2))
    (sSeq (sAsg (e2 fdivD (e2 ixD (eVar 0) (eK (.int 0))) (eVar 1)) (gSub (eVar 0) (eK (.int 0))))
    (sRet (eVar 2)))) (sSkip))
    (sSeq (sAsg (e2 modD (e2 addD (e2 mulD (e2 ixD (eVar 0) (eK (.int 1))) (eK (.int 1181783497276652981))) (eK (.int 12345678910987))) (eK (.int 2305843009213693951))) (gSub (eVar 0) (eK (.int 1))))
    (sRet (e2 modD (e2 fdivD (e2 modD (e2 mulD (e2 fdivD (e2 ixD (eVar 0) (eK (.int 1))) (eK (.int 65537))) (e2 addD (e2 modD (e2 ixD (eVar 0) (eK (.int 1))) (eK (.int 65537))) (eK (.int 3)))) (eK (.int 2305843009213693921))) (eK (.int 97))) (eVar 1))))
def m_law_pick (F : Nat → FN) : SD :=
    sRet (e2 ixD (eVar 1) (eN (callK (F 9) []) (aCons (eVar 0) (aCons (eN lenD (aCons (eVar 1) (aNil))) (aNil)))))
def m_law_called (F : Nat → FN) : SD :=
    sSeq (sAsg (eK (.str "abcdefghijklmnopqrstuvwxyz")) (gName 2))
    (sSeq (sAsg (eBM "str" splitD (eK (.str "plus times most row say less below if let each num name any rest called count")) (aCons (eK (.str " ")) (aNil))) (gName 3))
    (sSeq (sAsg (eN mkTup (aCons (eN (callK (F 9) []) (aCons (eVar 0) (aCons (eK (.int 676)) (aNil)))) (aCons (eN (callK (F 10) []) (aCons (eVar 0) (aCons (eN mkLst (aCons (eK (.int 1)) (aCons (eK (.int 3)) (aCons (eK (.int 7)) (aCons (eK (.int 25)) (aCons (eK (.int 27)) (aCons (eK (.int 51)) (aCons (eK (.int 105)) (aNil))))))))) (aNil)))) (aNil)))) (gTup [4, 5]))
    (sSeq (sIf (tAnd (tOfE (e2 ltD (eVar 1) (eK (.int 27)))) (tOfE (e2 eqD (eN (callK (F 9) []) (aCons (eVar 0) (aCons (eK (.int 6)) (aNil)))) (eK (.int 0))))) (sRet (eLc (iArgs range1 (aCons (eVar 1) (aNil))) [6] (gName 6) (tYesD) (e2 ixD (eVar 2) (e2 modD (e2 addD (eVar 4) (eVar 6)) (eK (.int 26)))))) (sSkip))
    (sSeq (sAsg (eBM "str" joinD (eK (.str "")) (aCons (eLc (iArgs range1 (aCons (eN (callK (F 10) []) (aCons (eVar 0) (aCons (eN mkLst (aCons (eK (.int 0)) (aCons (eK (.int 0)) (aCons (eK (.int 1)) (aCons (eK (.int 2)) (aCons (eK (.int 6)) (aNil))))))) (aNil)))) (aNil))) [6] (gName 6) (tYesD) (eN (callK (F 10) []) (aCons (eVar 0) (aCons (eVar 2) (aNil))))) (aNil))) (gName 7))
    (sSeq (sPar [8, 9] (aCons (eN (callK (F 9) []) (aCons (eVar 0) (aCons (e2 addD (eN lenD (aCons (eVar 7) (aNil))) (eK (.int 1))) (aNil)))) (aCons (eN mkObj (aNil)) (aNil))))
    (sSeq (sFor (iArgs range1 (aCons (eVar 1) (aNil))) (gName 6) (sSeq (sAsg (e2 modD (e2 addD (eVar 4) (e2 mulD (eVar 5) (eVar 6))) (eK (.int 676))) (gName 10))
    (sSeq (sAsg (e2 addD (e2 ixD (eVar 2) (e2 fdivD (eVar 10) (eK (.int 26)))) (e2 ixD (eVar 2) (e2 modD (eVar 10) (eK (.int 26))))) (gName 11))
    (sSeq (sAsg (e2 addD (e2 addD (eSl (eVar 7) (pNo) (pYes (eVar 8))) (eVar 11)) (eSl (eVar 7) (pYes (eVar 8)) (pNo))) (gName 12))
    (sExpr (eBM "list" appendD (eVar 9) (aCons (e2 addD (eVar 12) (e2 mulD (eK (.str "x")) (eN intD (aCons (e2 inD (eVar 12) (eVar 3)) (aNil))))) (aNil))))))))
    (sRet (eVar 9))))))))
def m_law_digit (F : Nat → FN) : SD :=
    sRet (eN (callK (F 10) []) (aCons (eVar 0) (aCons (eN mkLst (aCons (eK (.int 0)) (aCons (eK (.int 1)) (aCons (eK (.int 2)) (aCons (eK (.int 3)) (aCons (eN (callK (F 9) []) (aCons (eVar 0) (aCons (eK (.int 6)) (aNil)))) (aCons (eK (.int 9972)) (aCons (eN (callK (F 9) []) (aCons (eVar 0) (aCons (eK (.int 9973)) (aNil)))) (aNil))))))))) (aNil))))
def m_law_grown (F : Nat → FN) : SD :=
    sSeq (sAsg (e2 subD (e2 ixD (eVar 1) (eK (.str "left"))) (eK (.int 1))) (gSub (eVar 1) (eK (.str "left"))))
    (sSeq (sIf (tOr (tOfE (e2 eqD (eVar 3) (eK (.int 0)))) (tOfE (e2 ltD (e2 ixD (eVar 1) (eK (.str "left"))) (eK (.int 4))))) (sSeq (sIf (tOfE (e2 ltD (eN (callK (F 9) []) (aCons (eVar 0) (aCons (eK (.int 5)) (aNil)))) (eK (.int 3)))) (sRet (eN mkTup (aCons (eK (.str "name")) (aCons (eN (callK (F 10) []) (aCons (eVar 0) (aCons (e2 addD (e2 addD (eSl (eVar 2) (pYes (e1 negD (eK (.int 2)))) (pNo)) (eSl (eVar 2) (pYes (e1 negD (eK (.int 2)))) (pNo))) (e2 ixD (eVar 1) (eK (.str "pool")))) (aNil)))) (aCons (eN mkTup (aNil)) (aNil)))))) (sSkip))
    (sRet (eN mkTup (aCons (eK (.str "num")) (aCons (eN (callK (F 12) []) (aCons (eVar 0) (aNil))) (aCons (eN mkTup (aNil)) (aNil))))))) (sSkip))
    (sSeq (sPar [4, 5] (aCons (eN (callK (F 9) []) (aCons (eVar 0) (aCons (eK (.int 13)) (aNil)))) (aCons (eN (callK (F 10) []) (aCons (eVar 0) (aCons (eN mkLst (aCons (eK (.int 2)) (aCons (eK (.int 2)) (aCons (eK (.int 3)) (aCons (eK (.int 1)) (aCons (eK (.int 4)) (aNil))))))) (aNil)))) (aNil))))
    (sSeq (sIf (tOfE (e2 ltD (eVar 4) (eK (.int 4)))) (sSeq (sAsg (e2 ixD (eN mkLst (aCons (eK (.str "plus")) (aCons (eK (.str "times")) (aCons (eK (.str "most")) (aCons (eK (.str "plus")) (aNil)))))) (eVar 4)) (gName 6))
    (sRet (eN mkTup (aCons (eVar 6) (aCons (eK (.str "")) (aCons (eN tupleD (aCons (eLc (iArgs range1 (aCons (eVar 5) (aNil))) [7] (gName 7) (tYesD) (eN (callK (F 13) []) (aCons (eVar 0) (aCons (eVar 1) (aCons (eVar 2) (aCons (e2 subD (eVar 3) (eK (.int 1))) (aNil))))))) (aNil))) (aNil))))))) (sSkip))
    (sSeq (sIf (tOfE (e2 ltD (eVar 4) (eK (.int 7)))) (sSeq (sAsg (eN (callK (F 10) []) (aCons (eVar 0) (aCons (eN mkLst (aCons (eVar 5) (aCons (eK (.int 0)) (aCons (eK (.int 3)) (aCons (eK (.int 4)) (aCons (eK (.int 5)) (aNil))))))) (aNil)))) (gName 5))
    (sRet (eN mkTup (aCons (eK (.str "row")) (aCons (eK (.str "")) (aCons (eN tupleD (aCons (eLc (iArgs range1 (aCons (eVar 5) (aNil))) [7] (gName 7) (tYesD) (eN (callK (F 13) []) (aCons (eVar 0) (aCons (eVar 1) (aCons (eVar 2) (aCons (e2 subD (eVar 3) (eK (.int 1))) (aNil))))))) (aNil))) (aNil))))))) (sSkip))
    (sSeq (sIf (tOfE (e2 ltD (eVar 4) (eK (.int 10)))) (sSeq (sAsg (e2 ixD (eN mkLst (aCons (eK (.str "let")) (aCons (eK (.str "each")) (aCons (eK (.str "let")) (aNil))))) (e2 subD (eVar 4) (eK (.int 7)))) (gName 6))
    (sSeq (sPar [8, 9] (aCons (eN (callK (F 10) []) (aCons (eVar 0) (aCons (e2 ixD (eVar 1) (eK (.str "pool"))) (aNil)))) (aCons (eN (callK (F 13) []) (aCons (eVar 0) (aCons (eVar 1) (aCons (eVar 2) (aCons (e2 subD (eVar 3) (eK (.int 1))) (aNil)))))) (aNil))))
    (sRet (eN mkTup (aCons (eVar 6) (aCons (eVar 8) (aCons (eN mkTup (aCons (eVar 9) (aCons (eN (callK (F 13) []) (aCons (eVar 0) (aCons (eVar 1) (aCons (e2 addD (eVar 2) (eN mkLst (aCons (eVar 8) (aNil)))) (aCons (e2 subD (eVar 3) (eK (.int 1))) (aNil)))))) (aNil)))) (aNil)))))))) (sSkip))
    (sSeq (sAsg (e2 ixD (eN mkLst (aCons (eK (.str "say")) (aCons (eN (callK (F 10) []) (aCons (eVar 0) (aCons (eN mkLst (aCons (eK (.str "less")) (aCons (eK (.str "below")) (aNil)))) (aNil)))) (aCons (eK (.str "if")) (aNil))))) (e2 subD (eVar 4) (eK (.int 10)))) (gName 6))
    (sRet (eN mkTup (aCons (eVar 6) (aCons (eK (.str "")) (aCons (eN tupleD (aCons (eLc (iArgs range1 (aCons (e2 subD (eVar 4) (eK (.int 9))) (aNil))) [7] (gName 7) (tYesD) (eN (callK (F 13) []) (aCons (eVar 0) (aCons (eVar 1) (aCons (eVar 2) (aCons (e2 subD (eVar 3) (eK (.int 1))) (aNil))))))) (aNil))) (aNil))))))))))))
def m_law_code (F : Nat → FN) : SD :=
    sSeq (sAsg (eN (callK (F 11) []) (aCons (eVar 0) (aCons (e2 addD (eK (.int 1)) (eN (callK (F 9) []) (aCons (eVar 0) (aCons (eK (.int 5)) (aNil))))) (aNil)))) (gName 2))
    (sRet (eN (callK (F 13) []) (aCons (eVar 0) (aCons (eDct [(eK (.str "left"), eVar 1), (eK (.str "pool"), eVar 2)]) (aCons (eN mkLst (aNil)) (aCons (e2 addD (eK (.int 3)) (eN (callK (F 9) []) (aCons (eVar 0) (aCons (eK (.int 5)) (aNil))))) (aNil)))))))
def m_law_is_whole (F : Nat → FN) : SD :=
    sRet (eAnd (eN isiD (aCons (eVar 0) (aCons (eK (.ty "int")) (aNil)))) (eAnd (eNot (eN isiD (aCons (eVar 0) (aCons (eK (.ty "bool")) (aNil))))) (eChain leD ltD (eK (.int 0)) (eVar 0) (eVar 1))))
def m_law_is_name (F : Nat → FN) : SD :=
    sSeq (sAsg (eBM "str" splitD (eK (.str "plus times most row say less below if let each num name any rest called count")) (aCons (eK (.str " ")) (aNil))) (gName 1))
    (sSeq (sIf (tOr (tNot (tTruth (eN isiD (aCons (eVar 0) (aCons (eK (.ty "str")) (aNil)))))) (tOr (tNot (tOfE (eChain leD leD (eK (.int 1)) (eN lenD (aCons (eVar 0) (aNil))) (eK (.int 8))))) (tOfE (e2 inD (eVar 0) (eVar 1))))) (sRet (eK (.bl false))) (sSkip))
    (sRet (eN allD (aCons (eLc (iSeq (eVar 0)) [2] (gName 2) (tYesD) (eChain leD leD (eK (.str "a")) (eVar 2) (eK (.str "z")))) (aNil)))))
def m_law_is_thing (F : Nat → FN) : SD :=
    sSeq (sIf (tOr (tNot (tTruth (eN isiD (aCons (eVar 0) (aCons (eK (.ty "tuple")) (aNil)))))) (tOr (tOfE (e2 neD (eN lenD (aCons (eVar 0) (aNil))) (eK (.int 3)))) (tNot (tTruth (eN isiD (aCons (e2 ixD (eVar 0) (eK (.int 0))) (aCons (eK (.ty "str")) (aNil)))))))) (sRet (eK (.bl false))) (sSkip))
    (sSeq (sAsg (eVar 0) (gTup [2, 3, 4]))
    (sSeq (sIf (tOr (tOfE (e2 eqD (eVar 1) (eK (.int 0)))) (tNot (tTruth (eN isiD (aCons (eVar 4) (aCons (eK (.ty "tuple")) (aNil))))))) (sRet (eK (.bl false))) (sSkip))
    (sSeq (sIf (tOr (tOfE (e2 eqD (eVar 2) (eK (.str "num")))) (tOfE (e2 eqD (eVar 2) (eK (.str "name"))))) (sSeq (sAsg (eIf (tOfE (e2 eqD (eVar 2) (eK (.str "num")))) (eN (callK (F 15) []) (aCons (eVar 3) (aCons (eK (.int 9973)) (aNil)))) (eN (callK (F 16) []) (aCons (eVar 3) (aNil)))) (gName 5))
    (sRet (eAnd (eVar 5) (e2 eqD (eVar 4) (eN mkTup (aNil)))))) (sSkip))
    (sSeq (sAsg (eDct [(eK (.str "plus"), eK (.str "123456")), (eK (.str "times"), eK (.str "123456")), (eK (.str "most"), eK (.str "123456")), (eK (.str "row"), eK (.str "0123456")), (eK (.str "say"), eK (.str "1")), (eK (.str "less"), eK (.str "2"))]) (gName 6))
    (sSeq (sExpr (eBM "dict" dupdD (eVar 6) (aCons (eDic [(eK (.str "below"), eK (.str "2")), (eK (.str "if"), eK (.str "3")), (eK (.str "let"), eK (.str "2")), (eK (.str "each"), eK (.str "2"))]) (aNil))))
    (sSeq (sIf (tOr (tOfE (e2 gtD (eN lenD (aCons (eVar 4) (aNil))) (eK (.int 9)))) (tOfE (e2 notInD (eN strD (aCons (eN lenD (aCons (eVar 4) (aNil))) (aNil))) (eBM "dict" dgetD (eVar 6) (aCons (eVar 2) (aCons (eK (.str "")) (aNil))))))) (sRet (eK (.bl false))) (sSkip))
    (sSeq (sIf (tOr (tAnd (tOfE (e2 inD (eVar 2) (eN mkTup (aCons (eK (.str "let")) (aCons (eK (.str "each")) (aNil)))))) (tNot (tTruth (eN (callK (F 16) []) (aCons (eVar 3) (aNil)))))) (tAnd (tOfE (e2 notInD (eVar 2) (eN mkTup (aCons (eK (.str "let")) (aCons (eK (.str "each")) (aNil)))))) (tOfE (e2 neD (eN reprD (aCons (eVar 3) (aNil))) (eK (.str "''")))))) (sRet (eK (.bl false))) (sSkip))
    (sRet (eN allD (aCons (eLc (iSeq (eVar 4)) [7] (gName 7) (tYesD) (eN (callK (F 17) []) (aCons (eVar 7) (aCons (e2 subD (eVar 1) (eK (.int 1))) (aNil))))) (aNil)))))))))))
def m_law_size (F : Nat → FN) : SD :=
    sRet (e2 addD (eK (.int 1)) (eN sumD (aCons (eLc (iSeq (e2 ixD (eVar 0) (eK (.int 2)))) [1] (gName 1) (tYesD) (eN (callK (F 18) []) (aCons (eVar 1) (aNil)))) (aNil))))
def m_law_is_program (F : Nat → FN) : SD :=
    sRet (eAnd (eN (callK (F 17) []) (aCons (eVar 0) (aCons (eK (.int 10)) (aNil)))) (e2 leD (eN (callK (F 18) []) (aCons (eVar 0) (aNil))) (eK (.int 60))))
def m_law_odd (F : Nat → FN) : SD :=
    sSeq (sAsg (eN mkLst (aCons (eK .non) (aCons (eK (.bl true)) (aCons (eK (.bl false)) (aCons (eK (.int 0)) (aCons (eK (.int 1)) (aCons (eK (.int 9972)) (aCons (eK (.int 9973)) (aCons (e1 negD (eK (.int 1))) (aCons (eK (.str "")) (aCons (eK (.str "a")) (aCons (eK (.str "A")) (aCons (eK (.str "abcdefgh")) (aCons (eK (.str "abcdefghi")) (aCons (eK (.str "a b")) (aCons (eK (.str "plus")) (aCons (eK (.str "row")) (aCons (eK (.str "if")) (aNil))))))))))))))))))) (gName 1))
    (sSeq (sAsg (e2 addD (eVar 1) (eN mkLst (aCons (eK (.str "num")) (aCons (eK (.str "name")) (aCons (eK (.str "any")) (aCons (eK (.str "let")) (aCons (eN mkLst (aNil)) (aCons (eDic0) (aCons (eN mkTup (aNil)) (aCons (eN mkTup (aCons (eK (.str "num")) (aCons (eK (.int 1)) (aCons (eN mkTup (aNil)) (aNil))))) (aCons (eN mkLst (aCons (eK (.str "num")) (aCons (eK (.int 1)) (aCons (eN mkTup (aNil)) (aNil))))) (aCons (eN mkTup (aCons (eK (.str "any")) (aCons (eK (.str "x")) (aCons (eN mkTup (aNil)) (aNil))))) (aNil))))))))))))) (gName 1))
    (sSeq (sAsg (e2 addD (eVar 1) (eN mkLst (aCons (eN mkTup (aCons (eK (.str "rest")) (aCons (eK (.str "x")) (aCons (eN mkTup (aNil)) (aNil))))) (aCons (eN mkTup (aCons (eK (.str "num")) (aCons (eK (.bl true)) (aCons (eN mkTup (aNil)) (aNil))))) (aCons (eN mkTup (aCons (eK (.str "name")) (aCons (eK (.str "if")) (aCons (eN mkTup (aNil)) (aNil))))) (aCons (eN mkTup (aCons (eK (.str "plus")) (aCons (eK (.str "")) (aCons (eN mkTup (aNil)) (aNil))))) (aCons (eN mkTup (aCons (eK (.str "row")) (aCons (eK (.str "")) (aCons (eN mkTup (aNil)) (aNil))))) (aNil)))))))) (gName 1))
    (sRet (eN (callK (F 10) []) (aCons (eVar 0) (aCons (e2 addD (eVar 1) (eN mkLst (aCons (eN mkTup (aCons (eK (.int 1)) (aCons (eK (.int 2)) (aCons (eK (.int 3)) (aNil))))) (aNil)))) (aNil)))))))
def m_law_bent (F : Nat → FN) : SD :=
    sSeq (sAsg (eN (callK (F 9) []) (aCons (eVar 0) (aCons (eK (.int 9)) (aNil)))) (gName 3))
    (sSeq (sIf (tAnd (tTruth (eN isiD (aCons (eVar 1) (aCons (eK (.ty "tuple")) (aNil))))) (tAnd (tOfE (e2 neD (eVar 1) (eN mkTup (aNil)))) (tAnd (tOfE (e2 ltD (eVar 3) (eK (.int 6)))) (tOfE (e2 gtD (eVar 2) (eK (.int 0))))))) (sSeq (sAsg (eN (callK (F 9) []) (aCons (eVar 0) (aCons (eN lenD (aCons (eVar 1) (aNil))) (aNil)))) (gName 4))
    (sRet (e2 addD (e2 addD (eSl (eVar 1) (pNo) (pYes (eVar 4))) (eN mkTup (aCons (eN (callK (F 21) []) (aCons (eVar 0) (aCons (e2 ixD (eVar 1) (eVar 4)) (aCons (e2 subD (eVar 2) (eK (.int 1))) (aNil))))) (aNil)))) (eSl (eVar 1) (pYes (e2 addD (eVar 4) (eK (.int 1)))) (pNo))))) (sSkip))
    (sSeq (sIf (tOr (tNot (tTruth (eN isiD (aCons (eVar 1) (aCons (eK (.ty "tuple")) (aNil)))))) (tOfE (e2 eqD (eVar 3) (eK (.int 6))))) (sRet (eN (callK (F 20) []) (aCons (eVar 0) (aNil)))) (sSkip))
    (sSeq (sAsg (eN (callK (F 9) []) (aCons (eVar 0) (aCons (e2 addD (eN lenD (aCons (eVar 1) (aNil))) (eK (.int 1))) (aNil)))) (gName 4))
    (sSeq (sAsg (eN mkLst (aCons (e2 addD (e2 addD (eSl (eVar 1) (pNo) (pYes (eVar 4))) (eN mkTup (aCons (eN (callK (F 20) []) (aCons (eVar 0) (aNil))) (aNil)))) (eSl (eVar 1) (pYes (eVar 4)) (pNo))) (aCons (e2 addD (eSl (eVar 1) (pNo) (pYes (eVar 4))) (eSl (eVar 1) (pYes (e2 addD (eVar 4) (eK (.int 1)))) (pNo))) (aCons (eN listD (aCons (eVar 1) (aNil))) (aNil))))) (gName 5))
    (sSeq (sAsg (eBackT (eSl (eVar 1) (pYes (eVar 4)) (pYes (e2 addD (eVar 4) (eK (.int 2)))))) (gName 6))
    (sSeq (sAsg (e2 addD (eVar 5) (eN mkLst (aCons (e2 addD (e2 addD (eSl (eVar 1) (pNo) (pYes (eVar 4))) (eVar 6)) (eSl (eVar 1) (pYes (e2 addD (eVar 4) (eK (.int 2)))) (pNo))) (aCons (e2 addD (eSl (eVar 1) (pNo) (pYes (e2 addD (eVar 4) (eK (.int 1))))) (eSl (eVar 1) (pYes (eVar 4)) (pNo))) (aNil))))) (gName 5))
    (sRet (eN (callK (F 10) []) (aCons (eVar 0) (aCons (eVar 5) (aNil)))))))))))
def m_law_right (F : Nat → FN) : SD :=
    sSeq (sAsg (eN reprD (aCons (eVar 0) (aNil))) (gName 1))
    (sSeq (sAsg (eN mkLst (aCons (eN (callK (F 7) []) (aCons (eVar 0) (aNil))) (aCons (eKw (kwK (F 7) 0 1 kbd_is_program_0_thing_g) aNil (aCons (eVar 0) (aNil))) (aNil)))) (gName 2))
    (sRet (eAnd (e2 eqD (eVar 2) (e2 mulD (eN mkLst (aCons (eN (callK (F 19) []) (aCons (eVar 0) (aNil))) (aNil))) (eK (.int 2)))) (eAnd (eN isiD (aCons (e2 ixD (eVar 2) (eK (.int 0))) (aCons (eK (.ty "bool")) (aNil)))) (e2 eqD (eN reprD (aCons (eVar 0) (aNil))) (eVar 1))))))
def m_law (F : Nat → FN) : SD :=
    sSeq (sFor (iArgs range1 (aCons (eN maxD (aCons (eK (.int 1)) (aCons (eN minD (aCons (eK (.int 5)) (aCons (eN lenD (aCons (eVar 0) (aNil))) (aNil)))) (aNil)))) (aNil))) (gName 1) (sSeq (sAsg (eN (callK (F 8) []) (aCons (eVar 0) (aCons (eVar 1) (aNil)))) (gName 2))
    (sSeq (sAsg (eN (callK (F 14) []) (aCons (eVar 2) (aCons (e2 addD (eK (.int 6)) (eN (callK (F 9) []) (aCons (eVar 2) (aCons (eK (.int 22)) (aNil))))) (aNil)))) (gName 3))
    (sSeq (sIf (tOr (tNot (tTruth (eN (callK (F 19) []) (aCons (eVar 3) (aNil))))) (tNot (tTruth (eN (callK (F 22) []) (aCons (eVar 3) (aNil)))))) (sRet (eK (.bl false))) (sSkip))
    (sFor (iArgs range1 (aCons (eK (.int 10)) (aNil))) (gName 4) (sSeq (sAsg (eN (callK (F 21) []) (aCons (eVar 2) (aCons (eVar 3) (aCons (eK (.int 9)) (aNil))))) (gName 5))
    (sSeq (sIf (tOfE (e2 eqD (eN (callK (F 9) []) (aCons (eVar 2) (aCons (eK (.int 3)) (aNil)))) (eK (.int 0)))) (sAsg (eN (callK (F 21) []) (aCons (eVar 2) (aCons (eVar 5) (aCons (eK (.int 9)) (aNil))))) (gName 5)) (sSkip))
    (sIf (tNot (tTruth (eN (callK (F 22) []) (aCons (eVar 5) (aNil))))) (sRet (eK (.bl false))) (sSkip)))))))))
    (sRet (eK (.bl true)))
def tab (F : Nat → FN) : List FN := [run 1 1 (m_is_whole F),
  run 3 3 (m_is_number F),
  run 1 2 (m_is_name F),
  run 1 4 (m_is_leaf F),
  run 2 2 (m_is_mark F),
  run 4 11 (m_is_thing_with F),
  run 1 2 (m_count_of F),
  run 1 1 (m_is_program F),
  run 2 4 (m_law_hand F),
  run 2 3 (m_law_take F),
  run 2 2 (m_law_pick F),
  run 2 13 (m_law_called F),
  run 1 1 (m_law_digit F),
  run 4 10 (m_law_grown F),
  run 2 3 (m_law_code F),
  run 2 2 (m_law_is_whole F),
  run 1 3 (m_law_is_name F),
  run 2 8 (m_law_is_thing F),
  run 1 2 (m_law_size F),
  run 1 1 (m_law_is_program F),
  run 1 2 (m_law_odd F),
  run 3 7 (m_law_bent F),
  run 1 3 (m_law_right F),
  run 1 6 (m_law F)]
def Fs : Nat → Nat → FN
  | 0, _ => fun _ _ => .bad
  | k + 1, i => (tab (Fs k)).getD i fun _ _ => .bad
theorem Fs_is_whole (k : Nat) : Fs (k + 1) 0 = run 1 1 (m_is_whole (Fs k)) := rfl
theorem Fs_is_number (k : Nat) : Fs (k + 1) 1 = run 3 3 (m_is_number (Fs k)) := rfl
theorem Fs_is_name (k : Nat) : Fs (k + 1) 2 = run 1 2 (m_is_name (Fs k)) := rfl
theorem Fs_is_leaf (k : Nat) : Fs (k + 1) 3 = run 1 4 (m_is_leaf (Fs k)) := rfl
theorem Fs_is_mark (k : Nat) : Fs (k + 1) 4 = run 2 2 (m_is_mark (Fs k)) := rfl
theorem Fs_is_thing_with (k : Nat) : Fs (k + 1) 5 = run 4 11 (m_is_thing_with (Fs k)) := rfl
theorem Fs_count_of (k : Nat) : Fs (k + 1) 6 = run 1 2 (m_count_of (Fs k)) := rfl
theorem Fs_is_program (k : Nat) : Fs (k + 1) 7 = run 1 1 (m_is_program (Fs k)) := rfl
theorem Fs_law_hand (k : Nat) : Fs (k + 1) 8 = run 2 4 (m_law_hand (Fs k)) := rfl
theorem Fs_law_take (k : Nat) : Fs (k + 1) 9 = run 2 3 (m_law_take (Fs k)) := rfl
theorem Fs_law_pick (k : Nat) : Fs (k + 1) 10 = run 2 2 (m_law_pick (Fs k)) := rfl
theorem Fs_law_called (k : Nat) : Fs (k + 1) 11 = run 2 13 (m_law_called (Fs k)) := rfl
theorem Fs_law_digit (k : Nat) : Fs (k + 1) 12 = run 1 1 (m_law_digit (Fs k)) := rfl
theorem Fs_law_grown (k : Nat) : Fs (k + 1) 13 = run 4 10 (m_law_grown (Fs k)) := rfl
theorem Fs_law_code (k : Nat) : Fs (k + 1) 14 = run 2 3 (m_law_code (Fs k)) := rfl
theorem Fs_law_is_whole (k : Nat) : Fs (k + 1) 15 = run 2 2 (m_law_is_whole (Fs k)) := rfl
theorem Fs_law_is_name (k : Nat) : Fs (k + 1) 16 = run 1 3 (m_law_is_name (Fs k)) := rfl
theorem Fs_law_is_thing (k : Nat) : Fs (k + 1) 17 = run 2 8 (m_law_is_thing (Fs k)) := rfl
theorem Fs_law_size (k : Nat) : Fs (k + 1) 18 = run 1 2 (m_law_size (Fs k)) := rfl
theorem Fs_law_is_program (k : Nat) : Fs (k + 1) 19 = run 1 1 (m_law_is_program (Fs k)) := rfl
theorem Fs_law_odd (k : Nat) : Fs (k + 1) 20 = run 1 2 (m_law_odd (Fs k)) := rfl
theorem Fs_law_bent (k : Nat) : Fs (k + 1) 21 = run 3 7 (m_law_bent (Fs k)) := rfl
theorem Fs_law_right (k : Nat) : Fs (k + 1) 22 = run 1 3 (m_law_right (Fs k)) := rfl
theorem Fs_law (k : Nat) : Fs (k + 1) 23 = run 1 6 (m_law (Fs k)) := rfl
end K01
set_option Elab.async false
set_option linter.all false
set_option maxRecDepth 100000
set_option maxHeartbeats 4000000
namespace K01
open PySem PySem.Spec PyProof.Rows L2 L3
def topS (i : Nat) : Stmt := PySem.Challenge.pw_holepatterns_k01_programs_spoilt_anywher.main.body.getD i (.Pass ⟨0, 0, 0, 0⟩)
abbrev s_is_whole : Stmt := topS 7
abbrev N_is_whole : List Str := ["thing"]
theorem sc_is_whole : FnScope N_is_whole ["thing"] (defScope s_is_whole) := ⟨rfl, rfl, rfl, by decide +kernel, rfl, by decide +kernel, by decide +kernel⟩
abbrev s_is_number : Stmt := topS 8
abbrev N_is_number : List Str := ["thing", "low", "high"]
theorem sc_is_number : FnScope N_is_number ["thing", "low", "high"] (defScope s_is_number) := ⟨rfl, rfl, rfl, by decide +kernel, rfl, by decide +kernel, by decide +kernel⟩
abbrev s_is_name : Stmt := topS 9
abbrev N_is_name : List Str := ["thing", "sign"]
theorem sc_is_name : FnScope N_is_name ["thing"] (defScope s_is_name) := ⟨rfl, rfl, rfl, by decide +kernel, rfl, by decide +kernel, by decide +kernel⟩
abbrev s_is_leaf : Stmt := topS 16
abbrev N_is_leaf : List Str := ["thing", "word", "mark", "parts"]
theorem sc_is_leaf : FnScope N_is_leaf ["thing"] (defScope s_is_leaf) := ⟨rfl, rfl, rfl, by decide +kernel, rfl, by decide +kernel, by decide +kernel⟩
abbrev s_is_mark : Stmt := topS 17
abbrev N_is_mark : List Str := ["gives", "mark"]
theorem sc_is_mark : FnScope N_is_mark ["gives", "mark"] (defScope s_is_mark) := ⟨rfl, rfl, rfl, by decide +kernel, rfl, by decide +kernel, by decide +kernel⟩
abbrev s_is_thing_with : Stmt := topS 18
abbrev N_is_thing_with : List Str := ["leaf_look", "thing", "deep", "widest", "word", "mark", "parts", "fewest", "most", "gives", "part"]
theorem sc_is_thing_with : FnScope N_is_thing_with ["leaf_look", "thing", "deep", "widest"] (defScope s_is_thing_with) := ⟨rfl, rfl, rfl, by decide +kernel, rfl, by decide +kernel, by decide +kernel⟩
abbrev s_count_of : Stmt := topS 19
abbrev N_count_of : List Str := ["thing", "part"]
theorem sc_count_of : FnScope N_count_of ["thing"] (defScope s_count_of) := ⟨rfl, rfl, rfl, by decide +kernel, rfl, by decide +kernel, by decide +kernel⟩
abbrev s_is_program : Stmt := topS 20
abbrev N_is_program : List Str := ["thing"]
theorem sc_is_program : FnScope N_is_program ["thing"] (defScope s_is_program) := ⟨rfl, rfl, rfl, by decide +kernel, rfl, by decide +kernel, by decide +kernel⟩
abbrev s_law_hand : Stmt := topS 22
abbrev N_law_hand : List Str := ["_law_script", "_law_k", "_law_cell", "_law_great"]
theorem sc_law_hand : FnScope N_law_hand ["_law_script", "_law_k"] (defScope s_law_hand) := ⟨rfl, rfl, rfl, by decide +kernel, rfl, by decide +kernel, by decide +kernel⟩
abbrev s_law_take : Stmt := topS 23
abbrev N_law_take : List Str := ["_law_hand_here", "_law_many", "_law_digit_here"]
theorem sc_law_take : FnScope N_law_take ["_law_hand_here", "_law_many"] (defScope s_law_take) := ⟨rfl, rfl, rfl, by decide +kernel, rfl, by decide +kernel, by decide +kernel⟩
abbrev s_law_pick : Stmt := topS 24
abbrev N_law_pick : List Str := ["_law_hand_here", "_law_some"]
theorem sc_law_pick : FnScope N_law_pick ["_law_hand_here", "_law_some"] (defScope s_law_pick) := ⟨rfl, rfl, rfl, by decide +kernel, rfl, by decide +kernel, by decide +kernel⟩
abbrev s_law_called : Stmt := topS 25
abbrev N_law_called : List Str := ["_law_hand_here", "_law_many", "_law_letters", "_law_shut", "_law_first", "_law_by", "_law_k", "_law_stem", "_law_spot", "_law_found", "_law_n", "_law_pair", "_law_word"]
theorem sc_law_called : FnScope N_law_called ["_law_hand_here", "_law_many"] (defScope s_law_called) := ⟨rfl, rfl, rfl, by decide +kernel, rfl, by decide +kernel, by decide +kernel⟩
abbrev s_law_digit : Stmt := topS 26
abbrev N_law_digit : List Str := ["_law_hand_here"]
theorem sc_law_digit : FnScope N_law_digit ["_law_hand_here"] (defScope s_law_digit) := ⟨rfl, rfl, rfl, by decide +kernel, rfl, by decide +kernel, by decide +kernel⟩
abbrev s_law_grown : Stmt := topS 27
abbrev N_law_grown : List Str := ["_law_hand_here", "_law_pot", "_law_scope", "_law_level", "_law_lot", "_law_many", "_law_word", "_law_k", "_law_given", "_law_first"]
theorem sc_law_grown : FnScope N_law_grown ["_law_hand_here", "_law_pot", "_law_scope", "_law_level"] (defScope s_law_grown) := ⟨rfl, rfl, rfl, by decide +kernel, rfl, by decide +kernel, by decide +kernel⟩
abbrev s_law_code : Stmt := topS 28
abbrev N_law_code : List Str := ["_law_hand_here", "_law_size_here", "_law_pool"]
theorem sc_law_code : FnScope N_law_code ["_law_hand_here", "_law_size_here"] (defScope s_law_code) := ⟨rfl, rfl, rfl, by decide +kernel, rfl, by decide +kernel, by decide +kernel⟩
abbrev s_law_is_whole : Stmt := topS 29
abbrev N_law_is_whole : List Str := ["_law_item", "_law_beyond"]
theorem sc_law_is_whole : FnScope N_law_is_whole ["_law_item", "_law_beyond"] (defScope s_law_is_whole) := ⟨rfl, rfl, rfl, by decide +kernel, rfl, by decide +kernel, by decide +kernel⟩
abbrev s_law_is_name : Stmt := topS 30
abbrev N_law_is_name : List Str := ["_law_item", "_law_shut", "_law_sign"]
theorem sc_law_is_name : FnScope N_law_is_name ["_law_item"] (defScope s_law_is_name) := ⟨rfl, rfl, rfl, by decide +kernel, rfl, by decide +kernel, by decide +kernel⟩
abbrev s_law_is_thing : Stmt := topS 31
abbrev N_law_is_thing : List Str := ["_law_item", "_law_room", "_law_word", "_law_mark", "_law_parts", "_law_good", "_law_sizes", "_law_part"]
theorem sc_law_is_thing : FnScope N_law_is_thing ["_law_item", "_law_room"] (defScope s_law_is_thing) := ⟨rfl, rfl, rfl, by decide +kernel, rfl, by decide +kernel, by decide +kernel⟩
abbrev s_law_size : Stmt := topS 32
abbrev N_law_size : List Str := ["_law_item", "_law_part"]
theorem sc_law_size : FnScope N_law_size ["_law_item"] (defScope s_law_size) := ⟨rfl, rfl, rfl, by decide +kernel, rfl, by decide +kernel, by decide +kernel⟩
abbrev s_law_is_program : Stmt := topS 33
abbrev N_law_is_program : List Str := ["_law_item"]
theorem sc_law_is_program : FnScope N_law_is_program ["_law_item"] (defScope s_law_is_program) := ⟨rfl, rfl, rfl, by decide +kernel, rfl, by decide +kernel, by decide +kernel⟩
abbrev s_law_odd : Stmt := topS 34
abbrev N_law_odd : List Str := ["_law_hand_here", "_law_some"]
theorem sc_law_odd : FnScope N_law_odd ["_law_hand_here"] (defScope s_law_odd) := ⟨rfl, rfl, rfl, by decide +kernel, rfl, by decide +kernel, by decide +kernel⟩
abbrev s_law_bent : Stmt := topS 35
abbrev N_law_bent : List Str := ["_law_hand_here", "_law_made", "_law_deep", "_law_way", "_law_spot", "_law_some", "_law_two"]
theorem sc_law_bent : FnScope N_law_bent ["_law_hand_here", "_law_made", "_law_deep"] (defScope s_law_bent) := ⟨rfl, rfl, rfl, by decide +kernel, rfl, by decide +kernel, by decide +kernel⟩
abbrev s_law_right : Stmt := topS 36
abbrev N_law_right : List Str := ["_law_made", "_law_kept", "_law_told"]
theorem sc_law_right : FnScope N_law_right ["_law_made"] (defScope s_law_right) := ⟨rfl, rfl, rfl, by decide +kernel, rfl, by decide +kernel, by decide +kernel⟩
abbrev s_law : Stmt := topS 37
abbrev N_law : List Str := ["_law_script", "_law_k", "_law_hand_here", "_law_code_here", "_law_turn", "_law_made"]
theorem sc_law : FnScope N_law ["_law_script"] (defScope s_law) := ⟨rfl, rfl, rfl, by decide +kernel, rfl, by decide +kernel, by decide +kernel⟩
structure Txt (K : PySem.W.Frag) (w : World) (mg : Str → Option Value) (fa : Nat → Addr) (fd : Nat → FuncData) : Prop where
  z_abs : mg "abs" = none
  z_all : mg "all" = none
  z_bool : mg "bool" = none
  z_int : mg "int" = none
  z_isinstance : mg "isinstance" = none
  z_len : mg "len" = none
  z_list : mg "list" = none
  z_max : mg "max" = none
  z_min : mg "min" = none
  z_range : mg "range" = none
  z_repr : mg "repr" = none
  z_str : mg "str" = none
  z_sum : mg "sum" = none
  z_tuple : mg "tuple" = none
  c_LETTERS : GRep ⟨K, w, mg⟩ "LETTERS" c_LETTERS
  c_MOST_DEEP : GRep ⟨K, w, mg⟩ "MOST_DEEP" c_MOST_DEEP
  c_MOST_SIGNS : GRep ⟨K, w, mg⟩ "MOST_SIGNS" c_MOST_SIGNS
  c_MOST_THINGS : GRep ⟨K, w, mg⟩ "MOST_THINGS" c_MOST_THINGS
  c_NAME : GRep ⟨K, w, mg⟩ "NAME" c_NAME
  c_NUM : GRep ⟨K, w, mg⟩ "NUM" c_NUM
  c_ROW : GRep ⟨K, w, mg⟩ "ROW" c_ROW
  c_SHAPES : GRep ⟨K, w, mg⟩ "SHAPES" c_SHAPES
  c_WORDS : GRep ⟨K, w, mg⟩ "WORDS" c_WORDS
  g_is_whole : mg "is_whole" = some (.ref (fa 0))
  F_is_whole : FunD K "is_whole" "is_whole" (defArgs s_is_whole) (defBody s_is_whole) (defScope s_is_whole) [] [] (fa 0) (fd 0)
  g_is_number : mg "is_number" = some (.ref (fa 1))
  F_is_number : FunD K "is_number" "is_number" (defArgs s_is_number) (defBody s_is_number) (defScope s_is_number) [] [("low", .int 0), ("high", .int 9972)] (fa 1) (fd 1)
  g_is_name : mg "is_name" = some (.ref (fa 2))
  F_is_name : FunD K "is_name" "is_name" (defArgs s_is_name) (defBody s_is_name) (defScope s_is_name) [] [] (fa 2) (fd 2)
  g_is_leaf : mg "is_leaf" = some (.ref (fa 3))
  F_is_leaf : FunD K "is_leaf" "is_leaf" (defArgs s_is_leaf) (defBody s_is_leaf) (defScope s_is_leaf) [] [] (fa 3) (fd 3)
  g_is_mark : mg "is_mark" = some (.ref (fa 4))
  F_is_mark : FunD K "is_mark" "is_mark" (defArgs s_is_mark) (defBody s_is_mark) (defScope s_is_mark) [] [] (fa 4) (fd 4)
  g_is_thing_with : mg "is_thing_with" = some (.ref (fa 5))
  F_is_thing_with : FunD K "is_thing_with" "is_thing_with" (defArgs s_is_thing_with) (defBody s_is_thing_with) (defScope s_is_thing_with) [] [("widest", .int 6)] (fa 5) (fd 5)
  g_count_of : mg "count_of" = some (.ref (fa 6))
  F_count_of : FunD K "count_of" "count_of" (defArgs s_count_of) (defBody s_count_of) (defScope s_count_of) [] [] (fa 6) (fd 6)
  g_is_program : mg "is_program" = some (.ref (fa 7))
  F_is_program : FunD K "is_program" "is_program" (defArgs s_is_program) (defBody s_is_program) (defScope s_is_program) [] [] (fa 7) (fd 7)
  g_law_hand : mg "_law_hand" = some (.ref (fa 8))
  F_law_hand : FunD K "_law_hand" "_law_hand" (defArgs s_law_hand) (defBody s_law_hand) (defScope s_law_hand) [] [] (fa 8) (fd 8)
  g_law_take : mg "_law_take" = some (.ref (fa 9))
  F_law_take : FunD K "_law_take" "_law_take" (defArgs s_law_take) (defBody s_law_take) (defScope s_law_take) [] [] (fa 9) (fd 9)
  g_law_pick : mg "_law_pick" = some (.ref (fa 10))
  F_law_pick : FunD K "_law_pick" "_law_pick" (defArgs s_law_pick) (defBody s_law_pick) (defScope s_law_pick) [] [] (fa 10) (fd 10)
  g_law_called : mg "_law_called" = some (.ref (fa 11))
  F_law_called : FunD K "_law_called" "_law_called" (defArgs s_law_called) (defBody s_law_called) (defScope s_law_called) [] [] (fa 11) (fd 11)
  g_law_digit : mg "_law_digit" = some (.ref (fa 12))
  F_law_digit : FunD K "_law_digit" "_law_digit" (defArgs s_law_digit) (defBody s_law_digit) (defScope s_law_digit) [] [] (fa 12) (fd 12)
  g_law_grown : mg "_law_grown" = some (.ref (fa 13))
  F_law_grown : FunD K "_law_grown" "_law_grown" (defArgs s_law_grown) (defBody s_law_grown) (defScope s_law_grown) [] [] (fa 13) (fd 13)
  g_law_code : mg "_law_code" = some (.ref (fa 14))
  F_law_code : FunD K "_law_code" "_law_code" (defArgs s_law_code) (defBody s_law_code) (defScope s_law_code) [] [] (fa 14) (fd 14)
  g_law_is_whole : mg "_law_is_whole" = some (.ref (fa 15))
  F_law_is_whole : FunD K "_law_is_whole" "_law_is_whole" (defArgs s_law_is_whole) (defBody s_law_is_whole) (defScope s_law_is_whole) [] [] (fa 15) (fd 15)
  g_law_is_name : mg "_law_is_name" = some (.ref (fa 16))
  F_law_is_name : FunD K "_law_is_name" "_law_is_name" (defArgs s_law_is_name) (defBody s_law_is_name) (defScope s_law_is_name) [] [] (fa 16) (fd 16)
  g_law_is_thing : mg "_law_is_thing" = some (.ref (fa 17))
  F_law_is_thing : FunD K "_law_is_thing" "_law_is_thing" (defArgs s_law_is_thing) (defBody s_law_is_thing) (defScope s_law_is_thing) [] [] (fa 17) (fd 17)
  g_law_size : mg "_law_size" = some (.ref (fa 18))
  F_law_size : FunD K "_law_size" "_law_size" (defArgs s_law_size) (defBody s_law_size) (defScope s_law_size) [] [] (fa 18) (fd 18)
  g_law_is_program : mg "_law_is_program" = some (.ref (fa 19))
  F_law_is_program : FunD K "_law_is_program" "_law_is_program" (defArgs s_law_is_program) (defBody s_law_is_program) (defScope s_law_is_program) [] [] (fa 19) (fd 19)
  g_law_odd : mg "_law_odd" = some (.ref (fa 20))
  F_law_odd : FunD K "_law_odd" "_law_odd" (defArgs s_law_odd) (defBody s_law_odd) (defScope s_law_odd) [] [] (fa 20) (fd 20)
  g_law_bent : mg "_law_bent" = some (.ref (fa 21))
  F_law_bent : FunD K "_law_bent" "_law_bent" (defArgs s_law_bent) (defBody s_law_bent) (defScope s_law_bent) [] [] (fa 21) (fd 21)
  g_law_right : mg "_law_right" = some (.ref (fa 22))
  F_law_right : FunD K "_law_right" "_law_right" (defArgs s_law_right) (defBody s_law_right) (defScope s_law_right) [] [] (fa 22) (fd 22)
  g_law : mg "law" = some (.ref (fa 23))
  F_law : FunD K "law" "law" (defArgs s_law) (defBody s_law) (defScope s_law) [] [] (fa 23) (fd 23)
section
variable {P : Program} {K : PySem.W.Frag} {w : World} {mg : Str → Option Value} {base : Heap} {fa : Nat → Addr} {fd : Nat → FuncData}
theorem Txt.bnd_is_whole (T : Txt K w mg fa fd) : Bnd ⟨K, w, mg⟩ (fd 0) ["thing"] [] := bnd0 (T.F_is_whole.bindsN fun _ _ _ _ _ _ us hl => match us, hl with | [_], _ => rfl)
theorem Txt.bnd1_is_number (T : Txt K w mg fa fd) : Bnd ⟨K, w, mg⟩ (fd 1) ["thing", "low", "high"] [(.int 0), (.int 9972)] := by
  obtain ⟨ds, h1, h2⟩ := T.F_is_number.binds0 (ps := ["thing", "low", "high"]) 1 (by simp) rfl fun D doc pm an cdv ct us ks h1 h2 => match us, h1, ks, h2 with
    | [_], _, [_, _], _ => ⟨_, _, _, _, _, _, rfl, rfl, ⟨_, _, _, _, _, _, rfl, rfl, rfl⟩⟩
  exact ⟨_, ds, h1, h2, fun w => by simp [RepL, Rep]⟩
theorem Txt.bnd_is_name (T : Txt K w mg fa fd) : Bnd ⟨K, w, mg⟩ (fd 2) ["thing"] [] := bnd0 (T.F_is_name.bindsN fun _ _ _ _ _ _ us hl => match us, hl with | [_], _ => rfl)
theorem Txt.bnd_is_leaf (T : Txt K w mg fa fd) : Bnd ⟨K, w, mg⟩ (fd 3) ["thing"] [] := bnd0 (T.F_is_leaf.bindsN fun _ _ _ _ _ _ us hl => match us, hl with | [_], _ => rfl)
theorem Txt.bnd_is_mark (T : Txt K w mg fa fd) : Bnd ⟨K, w, mg⟩ (fd 4) ["gives", "mark"] [] := bnd0 (T.F_is_mark.bindsN fun _ _ _ _ _ _ us hl => match us, hl with | [_, _], _ => rfl)
theorem Txt.bnd3_is_thing_with (T : Txt K w mg fa fd) : Bnd ⟨K, w, mg⟩ (fd 5) ["leaf_look", "thing", "deep", "widest"] [(.int 6)] := by
  obtain ⟨ds, h1, h2⟩ := T.F_is_thing_with.binds0 (ps := ["leaf_look", "thing", "deep", "widest"]) 3 (by simp) rfl fun D doc pm an cdv ct us ks h1 h2 => match us, h1, ks, h2 with
    | [_, _, _], _, [_], _ => ⟨_, _, _, _, _, _, rfl, rfl, rfl⟩
  exact ⟨_, ds, h1, h2, fun w => by simp [RepL, Rep]⟩
theorem Txt.bnd_count_of (T : Txt K w mg fa fd) : Bnd ⟨K, w, mg⟩ (fd 6) ["thing"] [] := bnd0 (T.F_count_of.bindsN fun _ _ _ _ _ _ us hl => match us, hl with | [_], _ => rfl)
theorem Txt.bnd_is_program (T : Txt K w mg fa fd) : Bnd ⟨K, w, mg⟩ (fd 7) ["thing"] [] := bnd0 (T.F_is_program.bindsN fun _ _ _ _ _ _ us hl => match us, hl with | [_], _ => rfl)
theorem Txt.bnd_law_hand (T : Txt K w mg fa fd) : Bnd ⟨K, w, mg⟩ (fd 8) ["_law_script", "_law_k"] [] := bnd0 (T.F_law_hand.bindsN fun _ _ _ _ _ _ us hl => match us, hl with | [_, _], _ => rfl)
theorem Txt.bnd_law_take (T : Txt K w mg fa fd) : Bnd ⟨K, w, mg⟩ (fd 9) ["_law_hand_here", "_law_many"] [] := bnd0 (T.F_law_take.bindsN fun _ _ _ _ _ _ us hl => match us, hl with | [_, _], _ => rfl)
theorem Txt.bnd_law_pick (T : Txt K w mg fa fd) : Bnd ⟨K, w, mg⟩ (fd 10) ["_law_hand_here", "_law_some"] [] := bnd0 (T.F_law_pick.bindsN fun _ _ _ _ _ _ us hl => match us, hl with | [_, _], _ => rfl)
theorem Txt.bnd_law_called (T : Txt K w mg fa fd) : Bnd ⟨K, w, mg⟩ (fd 11) ["_law_hand_here", "_law_many"] [] := bnd0 (T.F_law_called.bindsN fun _ _ _ _ _ _ us hl => match us, hl with | [_, _], _ => rfl)
theorem Txt.bnd_law_digit (T : Txt K w mg fa fd) : Bnd ⟨K, w, mg⟩ (fd 12) ["_law_hand_here"] [] := bnd0 (T.F_law_digit.bindsN fun _ _ _ _ _ _ us hl => match us, hl with | [_], _ => rfl)
theorem Txt.bnd_law_grown (T : Txt K w mg fa fd) : Bnd ⟨K, w, mg⟩ (fd 13) ["_law_hand_here", "_law_pot", "_law_scope", "_law_level"] [] := bnd0 (T.F_law_grown.bindsN fun _ _ _ _ _ _ us hl => match us, hl with | [_, _, _, _], _ => rfl)
theorem Txt.bnd_law_code (T : Txt K w mg fa fd) : Bnd ⟨K, w, mg⟩ (fd 14) ["_law_hand_here", "_law_size_here"] [] := bnd0 (T.F_law_code.bindsN fun _ _ _ _ _ _ us hl => match us, hl with | [_, _], _ => rfl)
theorem Txt.bnd_law_is_whole (T : Txt K w mg fa fd) : Bnd ⟨K, w, mg⟩ (fd 15) ["_law_item", "_law_beyond"] [] := bnd0 (T.F_law_is_whole.bindsN fun _ _ _ _ _ _ us hl => match us, hl with | [_, _], _ => rfl)
theorem Txt.bnd_law_is_name (T : Txt K w mg fa fd) : Bnd ⟨K, w, mg⟩ (fd 16) ["_law_item"] [] := bnd0 (T.F_law_is_name.bindsN fun _ _ _ _ _ _ us hl => match us, hl with | [_], _ => rfl)
theorem Txt.bnd_law_is_thing (T : Txt K w mg fa fd) : Bnd ⟨K, w, mg⟩ (fd 17) ["_law_item", "_law_room"] [] := bnd0 (T.F_law_is_thing.bindsN fun _ _ _ _ _ _ us hl => match us, hl with | [_, _], _ => rfl)
theorem Txt.bnd_law_size (T : Txt K w mg fa fd) : Bnd ⟨K, w, mg⟩ (fd 18) ["_law_item"] [] := bnd0 (T.F_law_size.bindsN fun _ _ _ _ _ _ us hl => match us, hl with | [_], _ => rfl)
theorem Txt.bnd_law_is_program (T : Txt K w mg fa fd) : Bnd ⟨K, w, mg⟩ (fd 19) ["_law_item"] [] := bnd0 (T.F_law_is_program.bindsN fun _ _ _ _ _ _ us hl => match us, hl with | [_], _ => rfl)
theorem Txt.bnd_law_odd (T : Txt K w mg fa fd) : Bnd ⟨K, w, mg⟩ (fd 20) ["_law_hand_here"] [] := bnd0 (T.F_law_odd.bindsN fun _ _ _ _ _ _ us hl => match us, hl with | [_], _ => rfl)
theorem Txt.bnd_law_bent (T : Txt K w mg fa fd) : Bnd ⟨K, w, mg⟩ (fd 21) ["_law_hand_here", "_law_made", "_law_deep"] [] := bnd0 (T.F_law_bent.bindsN fun _ _ _ _ _ _ us hl => match us, hl with | [_, _, _], _ => rfl)
theorem Txt.bnd_law_right (T : Txt K w mg fa fd) : Bnd ⟨K, w, mg⟩ (fd 22) ["_law_made"] [] := bnd0 (T.F_law_right.bindsN fun _ _ _ _ _ _ us hl => match us, hl with | [_], _ => rfl)
theorem Txt.bnd_law (T : Txt K w mg fa fd) : Bnd ⟨K, w, mg⟩ (fd 23) ["_law_script"] [] := bnd0 (T.F_law.bindsN fun _ _ _ _ _ _ us hl => match us, hl with | [_], _ => rfl)
theorem Txt.kbd_is_program_0_thing (T : Txt K w mg fa fd) : Kbd ⟨K, w, mg⟩ (fd 7) ["thing"] 0 ["thing"] kbd_is_program_0_thing_g := by
  obtain ⟨oc, od, dV, kV, doc, pm, an, cdv, ct, osl, e, _, _, hD, _⟩ := T.F_is_program.ex
  obtain rfl : dV = .none := hD.elim (fun h => h.2) fun h => absurd rfl h.1
  refine kbd_of _ fun s us ws h1 h2 => ?_
  rw [e]
  match us, h1, ws, h2 with
  | [], _, [_], _ => exact .of_eq rfl
theorem Txt.kbd_is_thing_with_3_widest (T : Txt K w mg fa fd) : Kbd ⟨K, w, mg⟩ (fd 5) ["leaf_look", "thing", "deep", "widest"] 3 ["widest"] kbd_is_thing_with_3_widest_g := by
  obtain ⟨oc, od, dV, kV, doc, pm, an, cdv, ct, osl, e, _, _, hD, _⟩ := T.F_is_thing_with.ex
  obtain rfl : dV = .none := hD.elim (fun h => h.2) fun h => absurd rfl h.1
  refine kbd_of _ fun s us ws h1 h2 => ?_
  rw [e]
  match us, h1, ws, h2 with
  | [_, _, _], _, [_], _ => exact .of_eq rfl
end
theorem b_is_whole {P : Program} {K : PySem.W.Frag} {w : World} {mg : Str → Option Value} {base : Heap} {fa : Nat → Addr} {fd : Nat → FuncData} {F : Nat → FN} {k : Nat} (hM : ∃ o, base.get? sysModules = some o) (T : Txt K w mg fa fd) (cdv : Value) (A : Around) (outer : List Env) (s : Shared) (H : Hp) (E : XK)
    (hr : RoomG k (A.deeper (envOfC "is_whole" (defScope s_is_whole) s.heap.objs.size (fa 0) cdv))) :
    PSs (cxOf (L2.CX P w) P w K mg base N_is_whole "is_whole" (defScope s_is_whole) (fa 0) cdv A outer s H E) (defBody s_is_whole) (tS ⟨K, w, mg⟩ (m_is_whole F) (WE0 E)) :=
  q_sone (q_ret (q_eand (q_callB (o_isi (by rfl)) c_isi (by rfl) T.z_isinstance b_isinstance (q_cons (q_var (pv 0)) (q_cons (q_ty T.z_int b_int (by rfl)) (q_nil)))) (q_eone (q_enot (q_callB (o_isi (by rfl)) c_isi (by rfl) T.z_isinstance b_isinstance (q_cons (q_var (pv 0)) (q_cons (q_ty T.z_bool b_bool (by rfl)) (q_nil))))))))
theorem b_is_number {P : Program} {K : PySem.W.Frag} {w : World} {mg : Str → Option Value} {base : Heap} {fa : Nat → Addr} {fd : Nat → FuncData} {F : Nat → FN} {k : Nat} (hM : ∃ o, base.get? sysModules = some o) (T : Txt K w mg fa fd) (C_is_whole : Cal P w ⟨K, w, mg⟩ base k "is_whole" (fa 0) (fd 0) ["thing"] (F 0)) (cdv : Value) (A : Around) (outer : List Env) (s : Shared) (H : Hp) (E : XK)
    (hr : RoomG k (A.deeper (envOfC "is_number" (defScope s_is_number) s.heap.objs.size (fa 1) cdv))) :
    PSs (cxOf (L2.CX P w) P w K mg base N_is_number "is_number" (defScope s_is_number) (fa 1) cdv A outer s H E) (defBody s_is_number) (tS ⟨K, w, mg⟩ (m_is_number F) (WE0 E)) :=
  q_sone (q_ret (q_eand (q_fn C_is_whole T.bnd_is_whole hr (by rfl) (by rfl) (by rfl) tk_body (q_cons (q_var (pv 0)) (q_nil))) (q_eone (q_chain o_le c_le o_le c_le (q_var (pv 1)) (q_var (pv 0)) (q_var (pv 2))))))
theorem b_is_name {P : Program} {K : PySem.W.Frag} {w : World} {mg : Str → Option Value} {base : Heap} {fa : Nat → Addr} {fd : Nat → FuncData} {F : Nat → FN} {k : Nat} (hM : ∃ o, base.get? sysModules = some o) (T : Txt K w mg fa fd) (cdv : Value) (A : Around) (outer : List Env) (s : Shared) (H : Hp) (E : XK)
    (hr : RoomG k (A.deeper (envOfC "is_name" (defScope s_is_name) s.heap.objs.size (fa 2) cdv))) :
    PSs (cxOf (L2.CX P w) P w K mg base N_is_name "is_name" (defScope s_is_name) (fa 2) cdv A outer s H E) (defBody s_is_name) (tS ⟨K, w, mg⟩ (m_is_name F) (WE0 E)) :=
  q_scons (q_if (q_tb (w_or (q_tnot (q_truth (by rfl) (q_callB (o_isi (by rfl)) c_isi (by rfl) T.z_isinstance b_isinstance (q_cons (q_var (pv 0)) (q_cons (q_ty T.z_str b_str (by rfl)) (q_nil)))))) (w_or (q_tnot (q_tchain o_le c_le o_le c_le (q_int) (q_callB (o_len (by rfl)) c_len (by rfl) T.z_len b_len (q_cons (q_var (pv 0)) (q_nil))) (q_cst T.c_MOST_SIGNS (by rfl) (by rfl)))) (w_or1 (q_tcmp (o_in (by rfl) (by rfl) (u65 hr)) c_in (q_var (pv 0)) (q_cst T.c_WORDS (by rfl) (by rfl)) (by rfl)))))) (q_sone (q_ret (q_bl))) (q_snil))
    (q_sone (q_ret (q_callB (o_all (by rfl)) c_all (by rfl) T.z_all b_all (q_cons (q_lc (own := [("sign", 1)]) (by rfl) sc_is_name.nd (q_iter (by rfl) (q_var (pv 0))) (blkOk_by (own := [("sign", 1)]) (N := N_is_name) (sc := defScope s_is_name) (by decide +kernel)) (fun _ _ _ _ _ => q_gnameW (pg_name (i := 1) sc_is_name.nd (by rfl) (.inl (by rfl))) (by decide)) (fun _ _ _ _ _ => q_tnil) (fun _ _ _ _ _ => q_cmp (o_in (by rfl) (by rfl) (u65 hr)) c_in (q_var (pv 1)) (q_cst T.c_LETTERS (by rfl) (by rfl)) (by rfl))) (q_nil)))))
theorem b_is_leaf {P : Program} {K : PySem.W.Frag} {w : World} {mg : Str → Option Value} {base : Heap} {fa : Nat → Addr} {fd : Nat → FuncData} {F : Nat → FN} {k : Nat} (hM : ∃ o, base.get? sysModules = some o) (T : Txt K w mg fa fd) (C_is_name : Cal P w ⟨K, w, mg⟩ base k "is_name" (fa 2) (fd 2) ["thing"] (F 2)) (C_is_number : Cal P w ⟨K, w, mg⟩ base k "is_number" (fa 1) (fd 1) ["thing", "low", "high"] (F 1)) (cdv : Value) (A : Around) (outer : List Env) (s : Shared) (H : Hp) (E : XK)
    (hr : RoomG k (A.deeper (envOfC "is_leaf" (defScope s_is_leaf) s.heap.objs.size (fa 3) cdv))) :
    PSs (cxOf (L2.CX P w) P w K mg base N_is_leaf "is_leaf" (defScope s_is_leaf) (fa 3) cdv A outer s H E) (defBody s_is_leaf) (tS ⟨K, w, mg⟩ (m_is_leaf F) (WE0 E)) :=
  q_scons (q_asg (q_var (pv 0)) (q_gtup (by rfl) (by rfl) (q_gscons (pg_name (i := 1) sc_is_leaf.nd (by rfl) (.inl (by rfl))) (q_gscons (pg_name (i := 2) sc_is_leaf.nd (by rfl) (.inl (by rfl))) (q_gscons (pg_name (i := 3) sc_is_leaf.nd (by rfl) (.inl (by rfl))) (q_gsnil))))) (gn := gn_tup))
    (q_scons (q_if (q_tcmp (o_ne (by rfl) hr.units) c_ne (q_var (pv 3)) (q_tup (q_nil)) (nomark _)) (q_sone (q_ret (q_bl))) (q_snil))
    (q_sone (q_ret (q_eor (q_eand (q_cmp (o_eq (by rfl) hr.units) c_eq (q_var (pv 1)) (q_cst T.c_NUM (by rfl) (by rfl)) (nomark _)) (q_eone (q_fn C_is_number T.bnd1_is_number hr (by rfl) (by rfl) (by rfl) tk_body (q_cons (q_var (pv 2)) (q_nil))))) (q_eone (q_eand (q_cmp (o_eq (by rfl) hr.units) c_eq (q_var (pv 1)) (q_cst T.c_NAME (by rfl) (by rfl)) (nomark _)) (q_eone (q_fn C_is_name T.bnd_is_name hr (by rfl) (by rfl) (by rfl) tk_body (q_cons (q_var (pv 2)) (q_nil))))))))))
theorem b_is_mark {P : Program} {K : PySem.W.Frag} {w : World} {mg : Str → Option Value} {base : Heap} {fa : Nat → Addr} {fd : Nat → FuncData} {F : Nat → FN} {k : Nat} (hM : ∃ o, base.get? sysModules = some o) (T : Txt K w mg fa fd) (C_is_name : Cal P w ⟨K, w, mg⟩ base k "is_name" (fa 2) (fd 2) ["thing"] (F 2)) (cdv : Value) (A : Around) (outer : List Env) (s : Shared) (H : Hp) (E : XK)
    (hr : RoomG k (A.deeper (envOfC "is_mark" (defScope s_is_mark) s.heap.objs.size (fa 4) cdv))) :
    PSs (cxOf (L2.CX P w) P w K mg base N_is_mark "is_mark" (defScope s_is_mark) (fa 4) cdv A outer s H E) (defBody s_is_mark) (tS ⟨K, w, mg⟩ (m_is_mark F) (WE0 E)) :=
  q_scons (q_if (q_truth (by rfl) (q_var (pv 0))) (q_sone (q_ret (q_fn C_is_name T.bnd_is_name hr (by rfl) (by rfl) (by rfl) tk_body (q_cons (q_var (pv 1)) (q_nil))))) (q_snil))
    (q_sone (q_ret (q_eand (q_callB (o_isi (by rfl)) c_isi (by rfl) T.z_isinstance b_isinstance (q_cons (q_var (pv 1)) (q_cons (q_ty T.z_str b_str (by rfl)) (q_nil)))) (q_eone (q_cmp (o_eq (by rfl) hr.units) c_eq (q_var (pv 1)) (q_str) (nomark _))))))
theorem b_is_thing_with {P : Program} {K : PySem.W.Frag} {w : World} {mg : Str → Option Value} {base : Heap} {fa : Nat → Addr} {fd : Nat → FuncData} {F : Nat → FN} {k : Nat} (hM : ∃ o, base.get? sysModules = some o) (T : Txt K w mg fa fd) (C_is_leaf : Cal P w ⟨K, w, mg⟩ base k "is_leaf" (fa 3) (fd 3) ["thing"] (F 3)) (C_is_mark : Cal P w ⟨K, w, mg⟩ base k "is_mark" (fa 4) (fd 4) ["gives", "mark"] (F 4)) (C_is_thing_with : Cal P w ⟨K, w, mg⟩ base k "is_thing_with" (fa 5) (fd 5) ["leaf_look", "thing", "deep", "widest"] (F 5)) (cdv : Value) (A : Around) (outer : List Env) (s : Shared) (H : Hp) (E : XK)
    (hr : RoomG k (A.deeper (envOfC "is_thing_with" (defScope s_is_thing_with) s.heap.objs.size (fa 5) cdv))) :
    PSs (cxOf (L2.CX P w) P w K mg base N_is_thing_with "is_thing_with" (defScope s_is_thing_with) (fa 5) cdv A outer s H E) (defBody s_is_thing_with) (tS ⟨K, w, mg⟩ (m_is_thing_with F) (WE0 E)) :=
  q_scons (q_if (q_tb (w_or (q_tcmp o_lt c_lt (q_var (pv 2)) (q_int) (nomark _)) (w_or (q_tnot (q_truth (by rfl) (q_callB (o_isi (by rfl)) c_isi (by rfl) T.z_isinstance b_isinstance (q_cons (q_var (pv 1)) (q_cons (q_ty T.z_tuple b_tuple (by rfl)) (q_nil)))))) (w_or1 (q_tcmp (o_ne (by rfl) hr.units) c_ne (q_callB (o_len (by rfl)) c_len (by rfl) T.z_len b_len (q_cons (q_var (pv 1)) (q_nil))) (q_int) (nomark _)))))) (q_sone (q_ret (q_bl))) (q_snil))
    (q_scons (q_asg (q_var (pv 1)) (q_gtup (by rfl) (by rfl) (q_gscons (pg_name (i := 4) sc_is_thing_with.nd (by rfl) (.inl (by rfl))) (q_gscons (pg_name (i := 5) sc_is_thing_with.nd (by rfl) (.inl (by rfl))) (q_gscons (pg_name (i := 6) sc_is_thing_with.nd (by rfl) (.inl (by rfl))) (q_gsnil))))) (gn := gn_tup))
    (q_scons (q_if (q_tb (w_or (q_tnot (q_truth (by rfl) (q_callB (o_isi (by rfl)) c_isi (by rfl) T.z_isinstance b_isinstance (q_cons (q_var (pv 4)) (q_cons (q_ty T.z_str b_str (by rfl)) (q_nil)))))) (w_or1 (q_tnot (q_truth (by rfl) (q_callB (o_isi (by rfl)) c_isi (by rfl) T.z_isinstance b_isinstance (q_cons (q_var (pv 6)) (q_cons (q_ty T.z_tuple b_tuple (by rfl)) (q_nil))))))))) (q_sone (q_ret (q_bl))) (q_snil))
    (q_scons (q_if (q_tcmp (o_notIn (by rfl) (by rfl) (u65 hr)) c_notIn (q_var (pv 4)) (q_cst T.c_SHAPES (by rfl) (by rfl)) (by rfl)) (q_sone (q_ret (q_fnL C_is_leaf T.bnd_is_leaf hr (by rfl) (by rfl) (by rfl) (by first | exact .inl rfl | exact .inr (.inl rfl) | exact .inr (.inr rfl)) tk_body (q_cons (q_var (pv 1)) (q_nil))))) (q_snil))
    (q_scons (q_asg (q_ix (o_ix (by rfl) (by rfl) (u1 hr)) c_ix (q_cst T.c_SHAPES (by rfl) (by rfl)) (q_var (pv 4)) (fun _ _ => rfl)) (q_gtup (by rfl) (by rfl) (q_gscons (pg_name (i := 7) sc_is_thing_with.nd (by rfl) (.inl (by rfl))) (q_gscons (pg_name (i := 8) sc_is_thing_with.nd (by rfl) (.inl (by rfl))) (q_gscons (pg_name (i := 9) sc_is_thing_with.nd (by rfl) (.inl (by rfl))) (q_gsnil))))) (gn := gn_tup))
    (q_scons (q_if (q_tcmp (o_eq (by rfl) hr.units) c_eq (q_var (pv 4)) (q_cst T.c_ROW (by rfl) (by rfl)) (nomark _)) (q_sone (q_set (i := 8) sc_is_thing_with.nd (by rfl) (.inl (by rfl)) (q_var (pv 3)))) (q_snil))
    (q_scons (q_if (q_tb (w_or (q_tnot (q_tchain o_le c_le o_le c_le (q_var (pv 7)) (q_callB (o_len (by rfl)) c_len (by rfl) T.z_len b_len (q_cons (q_var (pv 6)) (q_nil))) (q_var (pv 8)))) (w_or1 (q_tnot (q_truth (by rfl) (q_fn C_is_mark T.bnd_is_mark hr (by rfl) (by rfl) (by rfl) tk_body (q_cons (q_var (pv 9)) (q_cons (q_var (pv 5)) (q_nil))))))))) (q_sone (q_ret (q_bl))) (q_snil))
    (q_sone (q_ret (q_callB (o_all (by rfl)) c_all (by rfl) T.z_all b_all (q_cons (q_lc (own := [("part", 10)]) (by rfl) sc_is_thing_with.nd (q_iter (by rfl) (q_var (pv 6))) (blkOk_by (own := [("part", 10)]) (N := N_is_thing_with) (sc := defScope s_is_thing_with) (by decide +kernel)) (fun _ _ _ _ _ => q_gnameW (pg_name (i := 10) sc_is_thing_with.nd (by rfl) (.inl (by rfl))) (by decide)) (fun _ _ _ _ _ => q_tnil) (fun _ _ _ _ _ => q_fnK C_is_thing_with T.kbd_is_thing_with_3_widest hr (by rfl) (by rfl) (by rfl) tk_blk (q_cons (q_var (pv 0)) (q_cons (q_var (pv 10)) (q_cons (q_op o_sub c_sub (q_var (pv 2)) (q_int)) (q_nil)))) (q_kcons (q_var (pv 3)) (q_knil)))) (q_nil)))))))))))
theorem b_count_of {P : Program} {K : PySem.W.Frag} {w : World} {mg : Str → Option Value} {base : Heap} {fa : Nat → Addr} {fd : Nat → FuncData} {F : Nat → FN} {k : Nat} (hM : ∃ o, base.get? sysModules = some o) (T : Txt K w mg fa fd) (C_count_of : Cal P w ⟨K, w, mg⟩ base k "count_of" (fa 6) (fd 6) ["thing"] (F 6)) (cdv : Value) (A : Around) (outer : List Env) (s : Shared) (H : Hp) (E : XK)
    (hr : RoomG k (A.deeper (envOfC "count_of" (defScope s_count_of) s.heap.objs.size (fa 6) cdv))) :
    PSs (cxOf (L2.CX P w) P w K mg base N_count_of "count_of" (defScope s_count_of) (fa 6) cdv A outer s H E) (defBody s_count_of) (tS ⟨K, w, mg⟩ (m_count_of F) (WE0 E)) :=
  q_sone (q_ret (q_op (o_add (by rfl)) c_add (q_int) (q_callB (o_sum (by rfl)) c_sum (by rfl) T.z_sum b_sum (q_cons (q_lc (own := [("part", 1)]) (by rfl) sc_count_of.nd (q_iter (by rfl) (q_ix (o_ix (by rfl) (by rfl) (u1 hr)) c_ix (q_var (pv 0)) (q_int) (fun _ _ => rfl))) (blkOk_by (own := [("part", 1)]) (N := N_count_of) (sc := defScope s_count_of) (by decide +kernel)) (fun _ _ _ _ _ => q_gnameW (pg_name (i := 1) sc_count_of.nd (by rfl) (.inl (by rfl))) (by decide)) (fun _ _ _ _ _ => q_tnil) (fun _ _ _ _ _ => q_fn C_count_of T.bnd_count_of hr (by rfl) (by rfl) (by rfl) tk_blk (q_cons (q_var (pv 1)) (q_nil)))) (q_nil)))))
theorem b_is_program {P : Program} {K : PySem.W.Frag} {w : World} {mg : Str → Option Value} {base : Heap} {fa : Nat → Addr} {fd : Nat → FuncData} {F : Nat → FN} {k : Nat} (hM : ∃ o, base.get? sysModules = some o) (T : Txt K w mg fa fd) (C_count_of : Cal P w ⟨K, w, mg⟩ base k "count_of" (fa 6) (fd 6) ["thing"] (F 6)) (C_is_thing_with : Cal P w ⟨K, w, mg⟩ base k "is_thing_with" (fa 5) (fd 5) ["leaf_look", "thing", "deep", "widest"] (F 5)) (cdv : Value) (A : Around) (outer : List Env) (s : Shared) (H : Hp) (E : XK)
    (hr : RoomG k (A.deeper (envOfC "is_program" (defScope s_is_program) s.heap.objs.size (fa 7) cdv))) :
    PSs (cxOf (L2.CX P w) P w K mg base N_is_program "is_program" (defScope s_is_program) (fa 7) cdv A outer s H E) (defBody s_is_program) (tS ⟨K, w, mg⟩ (m_is_program F) (WE0 E)) :=
  q_sone (q_ret (q_eand (q_fn C_is_thing_with T.bnd3_is_thing_with hr (by rfl) (by rfl) (by rfl) tk_body (q_cons (q_fnv T.g_is_leaf ⟨.ref _, rfl⟩ (by rfl) (by rfl)) (q_cons (q_var (pv 0)) (q_cons (q_cst T.c_MOST_DEEP (by rfl) (by rfl)) (q_nil))))) (q_eone (q_cmp o_le c_le (q_fn C_count_of T.bnd_count_of hr (by rfl) (by rfl) (by rfl) tk_body (q_cons (q_var (pv 0)) (q_nil))) (q_cst T.c_MOST_THINGS (by rfl) (by rfl)) (nomark _)))))
theorem b_law_hand {P : Program} {K : PySem.W.Frag} {w : World} {mg : Str → Option Value} {base : Heap} {fa : Nat → Addr} {fd : Nat → FuncData} {F : Nat → FN} {k : Nat} (hM : ∃ o, base.get? sysModules = some o) (T : Txt K w mg fa fd) (cdv : Value) (A : Around) (outer : List Env) (s : Shared) (H : Hp) (E : XK)
    (hr : RoomG k (A.deeper (envOfC "_law_hand" (defScope s_law_hand) s.heap.objs.size (fa 8) cdv))) :
    PSs (cxOf (L2.CX P w) P w K mg base N_law_hand "_law_hand" (defScope s_law_hand) (fa 8) cdv A outer s H E) (defBody s_law_hand) (tS ⟨K, w, mg⟩ (m_law_hand F) (WE0 E)) :=
  q_scons (q_set (i := 2) sc_law_hand.nd (by rfl) (.inl (by rfl)) (q_op (o_add (by rfl)) c_add (q_op o_mul c_mul (q_int) (q_var (pv 1))) (q_callB (o_len (by rfl)) c_len (by rfl) T.z_len b_len (q_cons (q_var (pv 0)) (q_nil)))))
    (q_scons (q_if (q_tcmp o_lt c_lt (q_var (pv 1)) (q_callB (o_len (by rfl)) c_len (by rfl) T.z_len b_len (q_cons (q_var (pv 0)) (q_nil))) (nomark _)) (q_sone (q_set (i := 2) sc_law_hand.nd (by rfl) (.inl (by rfl)) (q_ix (o_ix (by rfl) (by rfl) (u1 hr)) c_ix (q_var (pv 0)) (q_var (pv 1)) (fun _ _ => rfl)))) (q_snil))
    (q_scons (q_set (i := 3) sc_law_hand.nd (by rfl) (.inl (by rfl)) (q_op o_mul c_mul (q_op o_mod c_mod (q_callB o_abs c_abs (by rfl) T.z_abs b_abs (q_cons (q_var (pv 2)) (q_nil))) (q_op o_pow c_pow (q_op o_pow c_pow (q_int) (q_int)) (q_int))) (q_callTy o_int c_int (by rfl) T.z_int b_int (q_cons (q_cmp o_ge c_ge (q_callB o_abs c_abs (by rfl) T.z_abs b_abs (q_cons (q_var (pv 2)) (q_nil))) (q_op o_pow c_pow (q_int) (q_int)) (nomark _)) (q_nil)))))
    (q_sone (q_ret (q_obj (q_cons (q_var (pv 3)) (q_cons (q_op o_mod c_mod (q_op o_mul c_mul (q_op (o_add (by rfl)) c_add (q_op (o_add (by rfl)) c_add (q_op o_mod c_mod (q_var (pv 2)) (q_int)) (q_op o_mul c_mul (q_op o_mul c_mul (q_int) (q_var (pv 1))) (q_var (pv 1)))) (q_int)) (q_int)) (q_int)) (q_nil))))))))
theorem b_law_take {P : Program} {K : PySem.W.Frag} {w : World} {mg : Str → Option Value} {base : Heap} {fa : Nat → Addr} {fd : Nat → FuncData} {F : Nat → FN} {k : Nat} (hM : ∃ o, base.get? sysModules = some o) (T : Txt K w mg fa fd) (cdv : Value) (A : Around) (outer : List Env) (s : Shared) (H : Hp) (E : XK)
    (hr : RoomG k (A.deeper (envOfC "_law_take" (defScope s_law_take) s.heap.objs.size (fa 9) cdv))) :
    PSs (cxOf (L2.CX P w) P w K mg base N_law_take "_law_take" (defScope s_law_take) (fa 9) cdv A outer s H E) (defBody s_law_take) (tS ⟨K, w, mg⟩ (m_law_take F) (WE0 E)) :=
  q_scons (q_if (q_tcmp o_gt c_gt (q_ix (o_ix (by rfl) (by rfl) (u1 hr)) c_ix (q_var (pv 0)) (q_int) (fun _ _ => rfl)) (q_int) (nomark _)) (q_scons (q_set (i := 2) sc_law_take.nd (by rfl) (.inl (by rfl)) (q_op o_mod c_mod (q_ix (o_ix (by rfl) (by rfl) (u1 hr)) c_ix (q_var (pv 0)) (q_int) (fun _ _ => rfl)) (q_var (pv 1))))
    (q_scons (q_asg (q_op o_fdiv c_fdiv (q_ix (o_ix (by rfl) (by rfl) (u1 hr)) c_ix (q_var (pv 0)) (q_int) (fun _ _ => rfl)) (q_var (pv 1))) (q_gsub (Wx := WE0 E) (u1 hr) (q_var (pv 0)) (q_int)) (gn := gn_sub))
    (q_sone (q_ret (q_var (pv 2)))))) (q_snil))
    (q_scons (q_asg (q_op o_mod c_mod (q_op (o_add (by rfl)) c_add (q_op o_mul c_mul (q_ix (o_ix (by rfl) (by rfl) (u1 hr)) c_ix (q_var (pv 0)) (q_int) (fun _ _ => rfl)) (q_int)) (q_int)) (q_int)) (q_gsub (Wx := WE0 E) (u1 hr) (q_var (pv 0)) (q_int)) (gn := gn_sub))
    (q_sone (q_ret (q_op o_mod c_mod (q_op o_fdiv c_fdiv (q_op o_mod c_mod (q_op o_mul c_mul (q_op o_fdiv c_fdiv (q_ix (o_ix (by rfl) (by rfl) (u1 hr)) c_ix (q_var (pv 0)) (q_int) (fun _ _ => rfl)) (q_int)) (q_op (o_add (by rfl)) c_add (q_op o_mod c_mod (q_ix (o_ix (by rfl) (by rfl) (u1 hr)) c_ix (q_var (pv 0)) (q_int) (fun _ _ => rfl)) (q_int)) (q_int))) (q_int)) (q_int)) (q_var (pv 1))))))
theorem b_law_pick {P : Program} {K : PySem.W.Frag} {w : World} {mg : Str → Option Value} {base : Heap} {fa : Nat → Addr} {fd : Nat → FuncData} {F : Nat → FN} {k : Nat} (hM : ∃ o, base.get? sysModules = some o) (T : Txt K w mg fa fd) (C_law_take : Cal P w ⟨K, w, mg⟩ base k "_law_take" (fa 9) (fd 9) ["_law_hand_here", "_law_many"] (F 9)) (cdv : Value) (A : Around) (outer : List Env) (s : Shared) (H : Hp) (E : XK)
    (hr : RoomG k (A.deeper (envOfC "_law_pick" (defScope s_law_pick) s.heap.objs.size (fa 10) cdv))) :
    PSs (cxOf (L2.CX P w) P w K mg base N_law_pick "_law_pick" (defScope s_law_pick) (fa 10) cdv A outer s H E) (defBody s_law_pick) (tS ⟨K, w, mg⟩ (m_law_pick F) (WE0 E)) :=
  q_sone (q_ret (q_ix (o_ix (by rfl) (by rfl) (u1 hr)) c_ix (q_var (pv 1)) (q_fn C_law_take T.bnd_law_take hr (by rfl) (by rfl) (by rfl) tk_body (q_cons (q_var (pv 0)) (q_cons (q_callB (o_len (by rfl)) c_len (by rfl) T.z_len b_len (q_cons (q_var (pv 1)) (q_nil))) (q_nil)))) (fun _ _ => rfl)))
theorem b_law_called {P : Program} {K : PySem.W.Frag} {w : World} {mg : Str → Option Value} {base : Heap} {fa : Nat → Addr} {fd : Nat → FuncData} {F : Nat → FN} {k : Nat} (hM : ∃ o, base.get? sysModules = some o) (T : Txt K w mg fa fd) (C_law_pick : Cal P w ⟨K, w, mg⟩ base k "_law_pick" (fa 10) (fd 10) ["_law_hand_here", "_law_some"] (F 10)) (C_law_take : Cal P w ⟨K, w, mg⟩ base k "_law_take" (fa 9) (fd 9) ["_law_hand_here", "_law_many"] (F 9)) (cdv : Value) (A : Around) (outer : List Env) (s : Shared) (H : Hp) (E : XK)
    (hr : RoomG k (A.deeper (envOfC "_law_called" (defScope s_law_called) s.heap.objs.size (fa 11) cdv))) :
    PSs (cxOf (L2.CX P w) P w K mg base N_law_called "_law_called" (defScope s_law_called) (fa 11) cdv A outer s H E) (defBody s_law_called) (tS ⟨K, w, mg⟩ (m_law_called F) (WE0 E)) :=
  q_scons (q_set (i := 2) sc_law_called.nd (by rfl) (.inr (by rfl)) (q_str))
    (q_scons (q_set (i := 3) sc_law_called.nd (by rfl) (.inl (by rfl)) (q_bm (by rfl) PySem.F.plainAttrs_str PySem.F.slot_str_split PySem.F.type_str_split o_split c_split (q_str) (q_cons (q_str) (q_nil))))
    (q_scons (q_asg (q_tup (q_cons (q_fn C_law_take T.bnd_law_take hr (by rfl) (by rfl) (by rfl) tk_body (q_cons (q_var (pv 0)) (q_cons (q_int) (q_nil)))) (q_cons (q_fn C_law_pick T.bnd_law_pick hr (by rfl) (by rfl) (by rfl) tk_body (q_cons (q_var (pv 0)) (q_cons (q_lst (q_cons (q_int) (q_cons (q_int) (q_cons (q_int) (q_cons (q_int) (q_cons (q_int) (q_cons (q_int) (q_cons (q_int) (q_nil))))))))) (q_nil)))) (q_nil)))) (q_gtup (by rfl) (by rfl) (q_gscons (pg_name (i := 4) sc_law_called.nd (by rfl) (.inr (by rfl))) (q_gscons (pg_name (i := 5) sc_law_called.nd (by rfl) (.inl (by rfl))) (q_gsnil)))) (gn := gn_tup))
    (q_scons (q_if (q_tb (w_and (q_tcmp o_lt c_lt (q_var (pv 1)) (q_int) (nomark _)) (w_and1 (q_tcmp (o_eq (by rfl) hr.units) c_eq (q_fn C_law_take T.bnd_law_take hr (by rfl) (by rfl) (by rfl) tk_body (q_cons (q_var (pv 0)) (q_cons (q_int) (q_nil)))) (q_int) (nomark _))))) (q_sone (q_ret (q_lc (own := [("_law_k", 6)]) (by rfl) sc_law_called.nd (q_range1 (by rfl) T.z_range (q_cons (q_var (pv 1)) (q_nil))) (blkOk_by (own := [("_law_k", 6)]) (N := N_law_called) (sc := defScope s_law_called) (by decide +kernel)) (fun _ _ _ _ _ => q_gnameW (pg_name (i := 6) sc_law_called.nd (by rfl) (.inl (by rfl))) (by decide)) (fun _ _ _ _ _ => q_tnil) (fun _ _ _ _ _ => q_ix (o_ix (by rfl) (by rfl) (u1 hr)) c_ix (q_var (pv 2)) (q_op o_mod c_mod (q_op (o_add (by rfl)) c_add (q_var (pv 4)) (q_var (pv 6))) (q_int)) (fun _ _ => rfl))))) (q_snil))
    (q_scons (q_set (i := 7) sc_law_called.nd (by rfl) (.inl (by rfl)) (q_bm (by rfl) PySem.F.plainAttrs_str PySem.F.slot_str_join PySem.F.type_str_join (o_join (by rfl)) c_join (q_str) (q_cons (q_lc (own := [("_law_k", 6)]) (by rfl) sc_law_called.nd (q_range1 (by rfl) T.z_range (q_cons (q_fn C_law_pick T.bnd_law_pick hr (by rfl) (by rfl) (by rfl) tk_body (q_cons (q_var (pv 0)) (q_cons (q_lst (q_cons (q_int) (q_cons (q_int) (q_cons (q_int) (q_cons (q_int) (q_cons (q_int) (q_nil))))))) (q_nil)))) (q_nil))) (blkOk_by (own := [("_law_k", 6)]) (N := N_law_called) (sc := defScope s_law_called) (by decide +kernel)) (fun _ _ _ _ _ => q_gnameW (pg_name (i := 6) sc_law_called.nd (by rfl) (.inl (by rfl))) (by decide)) (fun _ _ _ _ _ => q_tnil) (fun _ _ _ _ _ => q_fn C_law_pick T.bnd_law_pick hr (by rfl) (by rfl) (by rfl) tk_blk (q_cons (q_var (pv 0)) (q_cons (q_var (pv 2)) (q_nil))))) (q_nil))))
    (q_scons (q_par (i := 8) (j := 9) (by rfl) sc_law_called.nd (by rfl) (by rfl) (by decide) (by rfl) (by rfl) (q_cons (q_fn C_law_take T.bnd_law_take hr (by rfl) (by rfl) (by rfl) tk_body (q_cons (q_var (pv 0)) (q_cons (q_op (o_add (by rfl)) c_add (q_callB (o_len (by rfl)) c_len (by rfl) T.z_len b_len (q_cons (q_var (pv 7)) (q_nil))) (q_int)) (q_nil)))) (q_cons (q_obj (q_nil)) (q_nil))) (by rfl))
    (q_scons (q_for po_body (by rfl) (q_range1 (by rfl) T.z_range (q_cons (q_var (pv 1)) (q_nil))) (q_gname (pg_name (i := 6) sc_law_called.nd (by rfl) (.inl (by rfl)))) (q_scons (q_set (i := 10) sc_law_called.nd (by rfl) (.inl (by rfl)) (q_op o_mod c_mod (q_op (o_add (by rfl)) c_add (q_var (pv 4)) (q_op o_mul c_mul (q_var (pv 5)) (q_var (pv 6)))) (q_int)))
    (q_scons (q_set (i := 11) sc_law_called.nd (by rfl) (.inl (by rfl)) (q_op (o_add (by rfl)) c_add (q_ix (o_ix (by rfl) (by rfl) (u1 hr)) c_ix (q_var (pv 2)) (q_op o_fdiv c_fdiv (q_var (pv 10)) (q_int)) (fun _ _ => rfl)) (q_ix (o_ix (by rfl) (by rfl) (u1 hr)) c_ix (q_var (pv 2)) (q_op o_mod c_mod (q_var (pv 10)) (q_int)) (fun _ _ => rfl))))
    (q_scons (q_set (i := 12) sc_law_called.nd (by rfl) (.inl (by rfl)) (q_op (o_add (by rfl)) c_add (q_op (o_add (by rfl)) c_add (q_slice (by rfl) (q_var (pv 7)) (q_pno) (q_pyes (q_var (pv 8)))) (q_var (pv 11))) (q_slice (by rfl) (q_var (pv 7)) (q_pyes (q_var (pv 8))) (q_pno))))
    (q_sone (q_expr (q_bm (by rfl) PySem.F.plainAttrs_list PySem.F.slot_list_append PySem.F.type_list_append o_append c_append (q_var (pv 9)) (q_cons (q_op (o_add (by rfl)) c_add (q_var (pv 12)) (q_op o_mul c_mul (q_str) (q_callTy o_int c_int (by rfl) T.z_int b_int (q_cons (q_cmp (o_in (by rfl) (by rfl) (u65 hr)) c_in (q_var (pv 12)) (q_var (pv 3)) (by rfl)) (q_nil))))) (q_nil)))))))))
    (q_sone (q_ret (q_var (pv 9))))))))))
theorem b_law_digit {P : Program} {K : PySem.W.Frag} {w : World} {mg : Str → Option Value} {base : Heap} {fa : Nat → Addr} {fd : Nat → FuncData} {F : Nat → FN} {k : Nat} (hM : ∃ o, base.get? sysModules = some o) (T : Txt K w mg fa fd) (C_law_pick : Cal P w ⟨K, w, mg⟩ base k "_law_pick" (fa 10) (fd 10) ["_law_hand_here", "_law_some"] (F 10)) (C_law_take : Cal P w ⟨K, w, mg⟩ base k "_law_take" (fa 9) (fd 9) ["_law_hand_here", "_law_many"] (F 9)) (cdv : Value) (A : Around) (outer : List Env) (s : Shared) (H : Hp) (E : XK)
    (hr : RoomG k (A.deeper (envOfC "_law_digit" (defScope s_law_digit) s.heap.objs.size (fa 12) cdv))) :
    PSs (cxOf (L2.CX P w) P w K mg base N_law_digit "_law_digit" (defScope s_law_digit) (fa 12) cdv A outer s H E) (defBody s_law_digit) (tS ⟨K, w, mg⟩ (m_law_digit F) (WE0 E)) :=
  q_sone (q_ret (q_fn C_law_pick T.bnd_law_pick hr (by rfl) (by rfl) (by rfl) tk_body (q_cons (q_var (pv 0)) (q_cons (q_lst (q_cons (q_int) (q_cons (q_int) (q_cons (q_int) (q_cons (q_int) (q_cons (q_fn C_law_take T.bnd_law_take hr (by rfl) (by rfl) (by rfl) tk_body (q_cons (q_var (pv 0)) (q_cons (q_int) (q_nil)))) (q_cons (q_int) (q_cons (q_fn C_law_take T.bnd_law_take hr (by rfl) (by rfl) (by rfl) tk_body (q_cons (q_var (pv 0)) (q_cons (q_int) (q_nil)))) (q_nil))))))))) (q_nil)))))
theorem b_law_grown {P : Program} {K : PySem.W.Frag} {w : World} {mg : Str → Option Value} {base : Heap} {fa : Nat → Addr} {fd : Nat → FuncData} {F : Nat → FN} {k : Nat} (hM : ∃ o, base.get? sysModules = some o) (T : Txt K w mg fa fd) (C_law_digit : Cal P w ⟨K, w, mg⟩ base k "_law_digit" (fa 12) (fd 12) ["_law_hand_here"] (F 12)) (C_law_grown : Cal P w ⟨K, w, mg⟩ base k "_law_grown" (fa 13) (fd 13) ["_law_hand_here", "_law_pot", "_law_scope", "_law_level"] (F 13)) (C_law_pick : Cal P w ⟨K, w, mg⟩ base k "_law_pick" (fa 10) (fd 10) ["_law_hand_here", "_law_some"] (F 10)) (C_law_take : Cal P w ⟨K, w, mg⟩ base k "_law_take" (fa 9) (fd 9) ["_law_hand_here", "_law_many"] (F 9)) (cdv : Value) (A : Around) (outer : List Env) (s : Shared) (H : Hp) (E : XK)
    (hr : RoomG k (A.deeper (envOfC "_law_grown" (defScope s_law_grown) s.heap.objs.size (fa 13) cdv))) :
    PSs (cxOf (L2.CX P w) P w K mg base N_law_grown "_law_grown" (defScope s_law_grown) (fa 13) cdv A outer s H E) (defBody s_law_grown) (tS ⟨K, w, mg⟩ (m_law_grown F) (WE0 E)) :=
  q_scons (q_asg (q_op o_sub c_sub (q_ix (o_ix (by rfl) (by rfl) (u1 hr)) c_ix (q_var (pv 1)) (q_str) (fun _ _ => rfl)) (q_int)) (q_gsub (Wx := WE0 E) (u1 hr) (q_var (pv 1)) (q_str)) (gn := gn_sub))
    (q_scons (q_if (q_tb (w_or (q_tcmp (o_eq (by rfl) hr.units) c_eq (q_var (pv 3)) (q_int) (nomark _)) (w_or1 (q_tcmp o_lt c_lt (q_ix (o_ix (by rfl) (by rfl) (u1 hr)) c_ix (q_var (pv 1)) (q_str) (fun _ _ => rfl)) (q_int) (nomark _))))) (q_scons (q_if (q_tcmp o_lt c_lt (q_fn C_law_take T.bnd_law_take hr (by rfl) (by rfl) (by rfl) tk_body (q_cons (q_var (pv 0)) (q_cons (q_int) (q_nil)))) (q_int) (nomark _)) (q_sone (q_ret (q_tup (q_cons (q_str) (q_cons (q_fn C_law_pick T.bnd_law_pick hr (by rfl) (by rfl) (by rfl) tk_body (q_cons (q_var (pv 0)) (q_cons (q_op (o_add (by rfl)) c_add (q_op (o_add (by rfl)) c_add (q_slice (by rfl) (q_var (pv 2)) (q_pyes (q_un o_neg c_neg (q_int))) (q_pno)) (q_slice (by rfl) (q_var (pv 2)) (q_pyes (q_un o_neg c_neg (q_int))) (q_pno))) (q_ix (o_ix (by rfl) (by rfl) (u1 hr)) c_ix (q_var (pv 1)) (q_str) (fun _ _ => rfl))) (q_nil)))) (q_cons (q_tup (q_nil)) (q_nil))))))) (q_snil))
    (q_sone (q_ret (q_tup (q_cons (q_str) (q_cons (q_fn C_law_digit T.bnd_law_digit hr (by rfl) (by rfl) (by rfl) tk_body (q_cons (q_var (pv 0)) (q_nil))) (q_cons (q_tup (q_nil)) (q_nil)))))))) (q_snil))
    (q_scons (q_par (i := 4) (j := 5) (by rfl) sc_law_grown.nd (by rfl) (by rfl) (by decide) (by rfl) (by rfl) (q_cons (q_fn C_law_take T.bnd_law_take hr (by rfl) (by rfl) (by rfl) tk_body (q_cons (q_var (pv 0)) (q_cons (q_int) (q_nil)))) (q_cons (q_fn C_law_pick T.bnd_law_pick hr (by rfl) (by rfl) (by rfl) tk_body (q_cons (q_var (pv 0)) (q_cons (q_lst (q_cons (q_int) (q_cons (q_int) (q_cons (q_int) (q_cons (q_int) (q_cons (q_int) (q_nil))))))) (q_nil)))) (q_nil))) (by rfl))
    (q_scons (q_if (q_tcmp o_lt c_lt (q_var (pv 4)) (q_int) (nomark _)) (q_scons (q_set (i := 6) sc_law_grown.nd (by rfl) (.inl (by rfl)) (q_ix (o_ix (by rfl) (by rfl) (u1 hr)) c_ix (q_lst (q_cons (q_str) (q_cons (q_str) (q_cons (q_str) (q_cons (q_str) (q_nil)))))) (q_var (pv 4)) (fun _ _ => rfl)))
    (q_sone (q_ret (q_tup (q_cons (q_var (pv 6)) (q_cons (q_str) (q_cons (q_callTy (o_tuple (by rfl)) c_tuple (by rfl) T.z_tuple b_tuple (q_cons (q_lc (own := [("_law_k", 7)]) (by rfl) sc_law_grown.nd (q_range1 (by rfl) T.z_range (q_cons (q_var (pv 5)) (q_nil))) (blkOk_by (own := [("_law_k", 7)]) (N := N_law_grown) (sc := defScope s_law_grown) (by decide +kernel)) (fun _ _ _ _ _ => q_gnameW (pg_name (i := 7) sc_law_grown.nd (by rfl) (.inl (by rfl))) (by decide)) (fun _ _ _ _ _ => q_tnil) (fun _ _ _ _ _ => q_fn C_law_grown T.bnd_law_grown hr (by rfl) (by rfl) (by rfl) tk_blk (q_cons (q_var (pv 0)) (q_cons (q_var (pv 1)) (q_cons (q_var (pv 2)) (q_cons (q_op o_sub c_sub (q_var (pv 3)) (q_int)) (q_nil))))))) (q_nil))) (q_nil)))))))) (q_snil))
    (q_scons (q_if (q_tcmp o_lt c_lt (q_var (pv 4)) (q_int) (nomark _)) (q_scons (q_set (i := 5) sc_law_grown.nd (by rfl) (.inl (by rfl)) (q_fn C_law_pick T.bnd_law_pick hr (by rfl) (by rfl) (by rfl) tk_body (q_cons (q_var (pv 0)) (q_cons (q_lst (q_cons (q_var (pv 5)) (q_cons (q_int) (q_cons (q_int) (q_cons (q_int) (q_cons (q_int) (q_nil))))))) (q_nil)))))
    (q_sone (q_ret (q_tup (q_cons (q_str) (q_cons (q_str) (q_cons (q_callTy (o_tuple (by rfl)) c_tuple (by rfl) T.z_tuple b_tuple (q_cons (q_lc (own := [("_law_k", 7)]) (by rfl) sc_law_grown.nd (q_range1 (by rfl) T.z_range (q_cons (q_var (pv 5)) (q_nil))) (blkOk_by (own := [("_law_k", 7)]) (N := N_law_grown) (sc := defScope s_law_grown) (by decide +kernel)) (fun _ _ _ _ _ => q_gnameW (pg_name (i := 7) sc_law_grown.nd (by rfl) (.inl (by rfl))) (by decide)) (fun _ _ _ _ _ => q_tnil) (fun _ _ _ _ _ => q_fn C_law_grown T.bnd_law_grown hr (by rfl) (by rfl) (by rfl) tk_blk (q_cons (q_var (pv 0)) (q_cons (q_var (pv 1)) (q_cons (q_var (pv 2)) (q_cons (q_op o_sub c_sub (q_var (pv 3)) (q_int)) (q_nil))))))) (q_nil))) (q_nil)))))))) (q_snil))
    (q_scons (q_if (q_tcmp o_lt c_lt (q_var (pv 4)) (q_int) (nomark _)) (q_scons (q_set (i := 6) sc_law_grown.nd (by rfl) (.inl (by rfl)) (q_ix (o_ix (by rfl) (by rfl) (u1 hr)) c_ix (q_lst (q_cons (q_str) (q_cons (q_str) (q_cons (q_str) (q_nil))))) (q_op o_sub c_sub (q_var (pv 4)) (q_int)) (fun _ _ => rfl)))
    (q_scons (q_par (i := 8) (j := 9) (by rfl) sc_law_grown.nd (by rfl) (by rfl) (by decide) (by rfl) (by rfl) (q_cons (q_fn C_law_pick T.bnd_law_pick hr (by rfl) (by rfl) (by rfl) tk_body (q_cons (q_var (pv 0)) (q_cons (q_ix (o_ix (by rfl) (by rfl) (u1 hr)) c_ix (q_var (pv 1)) (q_str) (fun _ _ => rfl)) (q_nil)))) (q_cons (q_fn C_law_grown T.bnd_law_grown hr (by rfl) (by rfl) (by rfl) tk_body (q_cons (q_var (pv 0)) (q_cons (q_var (pv 1)) (q_cons (q_var (pv 2)) (q_cons (q_op o_sub c_sub (q_var (pv 3)) (q_int)) (q_nil)))))) (q_nil))) (by rfl))
    (q_sone (q_ret (q_tup (q_cons (q_var (pv 6)) (q_cons (q_var (pv 8)) (q_cons (q_tup (q_cons (q_var (pv 9)) (q_cons (q_fn C_law_grown T.bnd_law_grown hr (by rfl) (by rfl) (by rfl) tk_body (q_cons (q_var (pv 0)) (q_cons (q_var (pv 1)) (q_cons (q_op (o_add (by rfl)) c_add (q_var (pv 2)) (q_lst (q_cons (q_var (pv 8)) (q_nil)))) (q_cons (q_op o_sub c_sub (q_var (pv 3)) (q_int)) (q_nil)))))) (q_nil)))) (q_nil))))))))) (q_snil))
    (q_scons (q_set (i := 6) sc_law_grown.nd (by rfl) (.inl (by rfl)) (q_ix (o_ix (by rfl) (by rfl) (u1 hr)) c_ix (q_lst (q_cons (q_str) (q_cons (q_fn C_law_pick T.bnd_law_pick hr (by rfl) (by rfl) (by rfl) tk_body (q_cons (q_var (pv 0)) (q_cons (q_lst (q_cons (q_str) (q_cons (q_str) (q_nil)))) (q_nil)))) (q_cons (q_str) (q_nil))))) (q_op o_sub c_sub (q_var (pv 4)) (q_int)) (fun _ _ => rfl)))
    (q_sone (q_ret (q_tup (q_cons (q_var (pv 6)) (q_cons (q_str) (q_cons (q_callTy (o_tuple (by rfl)) c_tuple (by rfl) T.z_tuple b_tuple (q_cons (q_lc (own := [("_law_k", 7)]) (by rfl) sc_law_grown.nd (q_range1 (by rfl) T.z_range (q_cons (q_op o_sub c_sub (q_var (pv 4)) (q_int)) (q_nil))) (blkOk_by (own := [("_law_k", 7)]) (N := N_law_grown) (sc := defScope s_law_grown) (by decide +kernel)) (fun _ _ _ _ _ => q_gnameW (pg_name (i := 7) sc_law_grown.nd (by rfl) (.inl (by rfl))) (by decide)) (fun _ _ _ _ _ => q_tnil) (fun _ _ _ _ _ => q_fn C_law_grown T.bnd_law_grown hr (by rfl) (by rfl) (by rfl) tk_blk (q_cons (q_var (pv 0)) (q_cons (q_var (pv 1)) (q_cons (q_var (pv 2)) (q_cons (q_op o_sub c_sub (q_var (pv 3)) (q_int)) (q_nil))))))) (q_nil))) (q_nil)))))))))))))
theorem b_law_code {P : Program} {K : PySem.W.Frag} {w : World} {mg : Str → Option Value} {base : Heap} {fa : Nat → Addr} {fd : Nat → FuncData} {F : Nat → FN} {k : Nat} (hM : ∃ o, base.get? sysModules = some o) (T : Txt K w mg fa fd) (C_law_called : Cal P w ⟨K, w, mg⟩ base k "_law_called" (fa 11) (fd 11) ["_law_hand_here", "_law_many"] (F 11)) (C_law_grown : Cal P w ⟨K, w, mg⟩ base k "_law_grown" (fa 13) (fd 13) ["_law_hand_here", "_law_pot", "_law_scope", "_law_level"] (F 13)) (C_law_take : Cal P w ⟨K, w, mg⟩ base k "_law_take" (fa 9) (fd 9) ["_law_hand_here", "_law_many"] (F 9)) (cdv : Value) (A : Around) (outer : List Env) (s : Shared) (H : Hp) (E : XK)
    (hr : RoomG k (A.deeper (envOfC "_law_code" (defScope s_law_code) s.heap.objs.size (fa 14) cdv))) :
    PSs (cxOf (L2.CX P w) P w K mg base N_law_code "_law_code" (defScope s_law_code) (fa 14) cdv A outer s H E) (defBody s_law_code) (tS ⟨K, w, mg⟩ (m_law_code F) (WE0 E)) :=
  q_scons (q_set (i := 2) sc_law_code.nd (by rfl) (.inl (by rfl)) (q_fn C_law_called T.bnd_law_called hr (by rfl) (by rfl) (by rfl) tk_body (q_cons (q_var (pv 0)) (q_cons (q_op (o_add (by rfl)) c_add (q_int) (q_fn C_law_take T.bnd_law_take hr (by rfl) (by rfl) (by rfl) tk_body (q_cons (q_var (pv 0)) (q_cons (q_int) (q_nil))))) (q_nil)))))
    (q_sone (q_ret (q_fn C_law_grown T.bnd_law_grown hr (by rfl) (by rfl) (by rfl) tk_body (q_cons (q_var (pv 0)) (q_cons (q_dct (q_pcons (q_str) (q_var (pv 1)) (q_pcons (q_str) (q_var (pv 2)) (q_pnil))) rfl rfl (by simp) (by decide)) (q_cons (q_lst (q_nil)) (q_cons (q_op (o_add (by rfl)) c_add (q_int) (q_fn C_law_take T.bnd_law_take hr (by rfl) (by rfl) (by rfl) tk_body (q_cons (q_var (pv 0)) (q_cons (q_int) (q_nil))))) (q_nil))))))))
theorem b_law_is_whole {P : Program} {K : PySem.W.Frag} {w : World} {mg : Str → Option Value} {base : Heap} {fa : Nat → Addr} {fd : Nat → FuncData} {F : Nat → FN} {k : Nat} (hM : ∃ o, base.get? sysModules = some o) (T : Txt K w mg fa fd) (cdv : Value) (A : Around) (outer : List Env) (s : Shared) (H : Hp) (E : XK)
    (hr : RoomG k (A.deeper (envOfC "_law_is_whole" (defScope s_law_is_whole) s.heap.objs.size (fa 15) cdv))) :
    PSs (cxOf (L2.CX P w) P w K mg base N_law_is_whole "_law_is_whole" (defScope s_law_is_whole) (fa 15) cdv A outer s H E) (defBody s_law_is_whole) (tS ⟨K, w, mg⟩ (m_law_is_whole F) (WE0 E)) :=
  q_sone (q_ret (q_eand (q_callB (o_isi (by rfl)) c_isi (by rfl) T.z_isinstance b_isinstance (q_cons (q_var (pv 0)) (q_cons (q_ty T.z_int b_int (by rfl)) (q_nil)))) (q_eand (q_enot (q_callB (o_isi (by rfl)) c_isi (by rfl) T.z_isinstance b_isinstance (q_cons (q_var (pv 0)) (q_cons (q_ty T.z_bool b_bool (by rfl)) (q_nil))))) (q_eone (q_chain o_le c_le o_lt c_lt (q_int) (q_var (pv 0)) (q_var (pv 1)))))))
theorem b_law_is_name {P : Program} {K : PySem.W.Frag} {w : World} {mg : Str → Option Value} {base : Heap} {fa : Nat → Addr} {fd : Nat → FuncData} {F : Nat → FN} {k : Nat} (hM : ∃ o, base.get? sysModules = some o) (T : Txt K w mg fa fd) (cdv : Value) (A : Around) (outer : List Env) (s : Shared) (H : Hp) (E : XK)
    (hr : RoomG k (A.deeper (envOfC "_law_is_name" (defScope s_law_is_name) s.heap.objs.size (fa 16) cdv))) :
    PSs (cxOf (L2.CX P w) P w K mg base N_law_is_name "_law_is_name" (defScope s_law_is_name) (fa 16) cdv A outer s H E) (defBody s_law_is_name) (tS ⟨K, w, mg⟩ (m_law_is_name F) (WE0 E)) :=
  q_scons (q_set (i := 1) sc_law_is_name.nd (by rfl) (.inl (by rfl)) (q_bm (by rfl) PySem.F.plainAttrs_str PySem.F.slot_str_split PySem.F.type_str_split o_split c_split (q_str) (q_cons (q_str) (q_nil))))
    (q_scons (q_if (q_tb (w_or (q_tnot (q_truth (by rfl) (q_callB (o_isi (by rfl)) c_isi (by rfl) T.z_isinstance b_isinstance (q_cons (q_var (pv 0)) (q_cons (q_ty T.z_str b_str (by rfl)) (q_nil)))))) (w_or (q_tnot (q_tchain o_le c_le o_le c_le (q_int) (q_callB (o_len (by rfl)) c_len (by rfl) T.z_len b_len (q_cons (q_var (pv 0)) (q_nil))) (q_int))) (w_or1 (q_tcmp (o_in (by rfl) (by rfl) (u65 hr)) c_in (q_var (pv 0)) (q_var (pv 1)) (by rfl)))))) (q_sone (q_ret (q_bl))) (q_snil))
    (q_sone (q_ret (q_callB (o_all (by rfl)) c_all (by rfl) T.z_all b_all (q_cons (q_lc (own := [("_law_sign", 2)]) (by rfl) sc_law_is_name.nd (q_iter (by rfl) (q_var (pv 0))) (blkOk_by (own := [("_law_sign", 2)]) (N := N_law_is_name) (sc := defScope s_law_is_name) (by decide +kernel)) (fun _ _ _ _ _ => q_gnameW (pg_name (i := 2) sc_law_is_name.nd (by rfl) (.inl (by rfl))) (by decide)) (fun _ _ _ _ _ => q_tnil) (fun _ _ _ _ _ => q_chain o_le c_le o_le c_le (q_str) (q_var (pv 2)) (q_str))) (q_nil))))))
theorem b_law_is_thing {P : Program} {K : PySem.W.Frag} {w : World} {mg : Str → Option Value} {base : Heap} {fa : Nat → Addr} {fd : Nat → FuncData} {F : Nat → FN} {k : Nat} (hM : ∃ o, base.get? sysModules = some o) (T : Txt K w mg fa fd) (C_law_is_name : Cal P w ⟨K, w, mg⟩ base k "_law_is_name" (fa 16) (fd 16) ["_law_item"] (F 16)) (C_law_is_thing : Cal P w ⟨K, w, mg⟩ base k "_law_is_thing" (fa 17) (fd 17) ["_law_item", "_law_room"] (F 17)) (C_law_is_whole : Cal P w ⟨K, w, mg⟩ base k "_law_is_whole" (fa 15) (fd 15) ["_law_item", "_law_beyond"] (F 15)) (cdv : Value) (A : Around) (outer : List Env) (s : Shared) (H : Hp) (E : XK)
    (hr : RoomG k (A.deeper (envOfC "_law_is_thing" (defScope s_law_is_thing) s.heap.objs.size (fa 17) cdv))) :
    PSs (cxOf (L2.CX P w) P w K mg base N_law_is_thing "_law_is_thing" (defScope s_law_is_thing) (fa 17) cdv A outer s H E) (defBody s_law_is_thing) (tS ⟨K, w, mg⟩ (m_law_is_thing F) (WE0 E)) :=
  q_scons (q_if (q_tb (w_or (q_tnot (q_truth (by rfl) (q_callB (o_isi (by rfl)) c_isi (by rfl) T.z_isinstance b_isinstance (q_cons (q_var (pv 0)) (q_cons (q_ty T.z_tuple b_tuple (by rfl)) (q_nil)))))) (w_or (q_tcmp (o_ne (by rfl) hr.units) c_ne (q_callB (o_len (by rfl)) c_len (by rfl) T.z_len b_len (q_cons (q_var (pv 0)) (q_nil))) (q_int) (nomark _)) (w_or1 (q_tnot (q_truth (by rfl) (q_callB (o_isi (by rfl)) c_isi (by rfl) T.z_isinstance b_isinstance (q_cons (q_ix (o_ix (by rfl) (by rfl) (u1 hr)) c_ix (q_var (pv 0)) (q_int) (fun _ _ => rfl)) (q_cons (q_ty T.z_str b_str (by rfl)) (q_nil)))))))))) (q_sone (q_ret (q_bl))) (q_snil))
    (q_scons (q_asg (q_var (pv 0)) (q_gtup (by rfl) (by rfl) (q_gscons (pg_name (i := 2) sc_law_is_thing.nd (by rfl) (.inl (by rfl))) (q_gscons (pg_name (i := 3) sc_law_is_thing.nd (by rfl) (.inl (by rfl))) (q_gscons (pg_name (i := 4) sc_law_is_thing.nd (by rfl) (.inl (by rfl))) (q_gsnil))))) (gn := gn_tup))
    (q_scons (q_if (q_tb (w_or (q_tcmp (o_eq (by rfl) hr.units) c_eq (q_var (pv 1)) (q_int) (nomark _)) (w_or1 (q_tnot (q_truth (by rfl) (q_callB (o_isi (by rfl)) c_isi (by rfl) T.z_isinstance b_isinstance (q_cons (q_var (pv 4)) (q_cons (q_ty T.z_tuple b_tuple (by rfl)) (q_nil))))))))) (q_sone (q_ret (q_bl))) (q_snil))
    (q_scons (q_if (q_tb (w_or (q_tcmp (o_eq (by rfl) hr.units) c_eq (q_var (pv 2)) (q_str) (nomark _)) (w_or1 (q_tcmp (o_eq (by rfl) hr.units) c_eq (q_var (pv 2)) (q_str) (nomark _))))) (q_scons (q_set (i := 5) sc_law_is_thing.nd (by rfl) (.inl (by rfl)) (q_ifExp (q_tcmp (o_eq (by rfl) hr.units) c_eq (q_var (pv 2)) (q_str) (nomark _)) (q_fn C_law_is_whole T.bnd_law_is_whole hr (by rfl) (by rfl) (by rfl) tk_body (q_cons (q_var (pv 3)) (q_cons (q_int) (q_nil)))) (q_fn C_law_is_name T.bnd_law_is_name hr (by rfl) (by rfl) (by rfl) tk_body (q_cons (q_var (pv 3)) (q_nil)))))
    (q_sone (q_ret (q_eand (q_var (pv 5)) (q_eone (q_cmp (o_eq (by rfl) hr.units) c_eq (q_var (pv 4)) (q_tup (q_nil)) (nomark _))))))) (q_snil))
    (q_scons (q_set (i := 6) sc_law_is_thing.nd (by rfl) (.inl (by rfl)) (q_dct (q_pcons (q_str) (q_str) (q_pcons (q_str) (q_str) (q_pcons (q_str) (q_str) (q_pcons (q_str) (q_str) (q_pcons (q_str) (q_str) (q_pcons (q_str) (q_str) (q_pnil))))))) rfl rfl (by simp) (by decide)))
    (q_scons (q_expr (q_bm (by rfl) PySem.F.plainAttrs_dict PySem.F.slot_dict_update PySem.F.type_dict_update o_dupd c_dupd (q_var (pv 6)) (q_cons (q_dic (q_pcons (q_str) (q_str) (q_pcons (q_str) (q_str) (q_pcons (q_str) (q_str) (q_pcons (q_str) (q_str) (q_pnil))))) rfl rfl (by simp) (by decide)) (q_nil))))
    (q_scons (q_if (q_tb (w_or (q_tcmp o_gt c_gt (q_callB (o_len (by rfl)) c_len (by rfl) T.z_len b_len (q_cons (q_var (pv 4)) (q_nil))) (q_int) (nomark _)) (w_or1 (q_tcmp (o_notIn (by rfl) (by rfl) (u65 hr)) c_notIn (q_callTy o_str c_str (by rfl) T.z_str b_str (q_cons (q_callB (o_len (by rfl)) c_len (by rfl) T.z_len b_len (q_cons (q_var (pv 4)) (q_nil))) (q_nil))) (q_bm (by rfl) PySem.F.plainAttrs_dict PySem.F.slot_dict_get PySem.F.type_dict_get (o_dget (u1 hr)) c_dget (q_var (pv 6)) (q_cons (q_var (pv 2)) (q_cons (q_str) (q_nil)))) (by rfl))))) (q_sone (q_ret (q_bl))) (q_snil))
    (q_scons (q_if (q_tb (w_or (q_tb (w_and (q_tcmp (o_in (by rfl) (by rfl) (u65 hr)) c_in (q_var (pv 2)) (q_tup (q_cons (q_str) (q_cons (q_str) (q_nil)))) (by rfl)) (w_and1 (q_tnot (q_truth (by rfl) (q_fn C_law_is_name T.bnd_law_is_name hr (by rfl) (by rfl) (by rfl) tk_body (q_cons (q_var (pv 3)) (q_nil)))))))) (w_or1 (q_tb (w_and (q_tcmp (o_notIn (by rfl) (by rfl) (u65 hr)) c_notIn (q_var (pv 2)) (q_tup (q_cons (q_str) (q_cons (q_str) (q_nil)))) (by rfl)) (w_and1 (q_tcmp (o_ne (by rfl) hr.units) c_ne (q_callB (o_repr (by rfl) hM hr.gd (u150 hr)) c_repr (by rfl) T.z_repr b_repr (q_cons (q_var (pv 3)) (q_nil))) (q_str) (nomark _)))))))) (q_sone (q_ret (q_bl))) (q_snil))
    (q_sone (q_ret (q_callB (o_all (by rfl)) c_all (by rfl) T.z_all b_all (q_cons (q_lc (own := [("_law_part", 7)]) (by rfl) sc_law_is_thing.nd (q_iter (by rfl) (q_var (pv 4))) (blkOk_by (own := [("_law_part", 7)]) (N := N_law_is_thing) (sc := defScope s_law_is_thing) (by decide +kernel)) (fun _ _ _ _ _ => q_gnameW (pg_name (i := 7) sc_law_is_thing.nd (by rfl) (.inl (by rfl))) (by decide)) (fun _ _ _ _ _ => q_tnil) (fun _ _ _ _ _ => q_fn C_law_is_thing T.bnd_law_is_thing hr (by rfl) (by rfl) (by rfl) tk_blk (q_cons (q_var (pv 7)) (q_cons (q_op o_sub c_sub (q_var (pv 1)) (q_int)) (q_nil))))) (q_nil))))))))))))
theorem b_law_size {P : Program} {K : PySem.W.Frag} {w : World} {mg : Str → Option Value} {base : Heap} {fa : Nat → Addr} {fd : Nat → FuncData} {F : Nat → FN} {k : Nat} (hM : ∃ o, base.get? sysModules = some o) (T : Txt K w mg fa fd) (C_law_size : Cal P w ⟨K, w, mg⟩ base k "_law_size" (fa 18) (fd 18) ["_law_item"] (F 18)) (cdv : Value) (A : Around) (outer : List Env) (s : Shared) (H : Hp) (E : XK)
    (hr : RoomG k (A.deeper (envOfC "_law_size" (defScope s_law_size) s.heap.objs.size (fa 18) cdv))) :
    PSs (cxOf (L2.CX P w) P w K mg base N_law_size "_law_size" (defScope s_law_size) (fa 18) cdv A outer s H E) (defBody s_law_size) (tS ⟨K, w, mg⟩ (m_law_size F) (WE0 E)) :=
  q_sone (q_ret (q_op (o_add (by rfl)) c_add (q_int) (q_callB (o_sum (by rfl)) c_sum (by rfl) T.z_sum b_sum (q_cons (q_lc (own := [("_law_part", 1)]) (by rfl) sc_law_size.nd (q_iter (by rfl) (q_ix (o_ix (by rfl) (by rfl) (u1 hr)) c_ix (q_var (pv 0)) (q_int) (fun _ _ => rfl))) (blkOk_by (own := [("_law_part", 1)]) (N := N_law_size) (sc := defScope s_law_size) (by decide +kernel)) (fun _ _ _ _ _ => q_gnameW (pg_name (i := 1) sc_law_size.nd (by rfl) (.inl (by rfl))) (by decide)) (fun _ _ _ _ _ => q_tnil) (fun _ _ _ _ _ => q_fn C_law_size T.bnd_law_size hr (by rfl) (by rfl) (by rfl) tk_blk (q_cons (q_var (pv 1)) (q_nil)))) (q_nil)))))
theorem b_law_is_program {P : Program} {K : PySem.W.Frag} {w : World} {mg : Str → Option Value} {base : Heap} {fa : Nat → Addr} {fd : Nat → FuncData} {F : Nat → FN} {k : Nat} (hM : ∃ o, base.get? sysModules = some o) (T : Txt K w mg fa fd) (C_law_is_thing : Cal P w ⟨K, w, mg⟩ base k "_law_is_thing" (fa 17) (fd 17) ["_law_item", "_law_room"] (F 17)) (C_law_size : Cal P w ⟨K, w, mg⟩ base k "_law_size" (fa 18) (fd 18) ["_law_item"] (F 18)) (cdv : Value) (A : Around) (outer : List Env) (s : Shared) (H : Hp) (E : XK)
    (hr : RoomG k (A.deeper (envOfC "_law_is_program" (defScope s_law_is_program) s.heap.objs.size (fa 19) cdv))) :
    PSs (cxOf (L2.CX P w) P w K mg base N_law_is_program "_law_is_program" (defScope s_law_is_program) (fa 19) cdv A outer s H E) (defBody s_law_is_program) (tS ⟨K, w, mg⟩ (m_law_is_program F) (WE0 E)) :=
  q_sone (q_ret (q_eand (q_fn C_law_is_thing T.bnd_law_is_thing hr (by rfl) (by rfl) (by rfl) tk_body (q_cons (q_var (pv 0)) (q_cons (q_int) (q_nil)))) (q_eone (q_cmp o_le c_le (q_fn C_law_size T.bnd_law_size hr (by rfl) (by rfl) (by rfl) tk_body (q_cons (q_var (pv 0)) (q_nil))) (q_int) (nomark _)))))
theorem b_law_odd {P : Program} {K : PySem.W.Frag} {w : World} {mg : Str → Option Value} {base : Heap} {fa : Nat → Addr} {fd : Nat → FuncData} {F : Nat → FN} {k : Nat} (hM : ∃ o, base.get? sysModules = some o) (T : Txt K w mg fa fd) (C_law_pick : Cal P w ⟨K, w, mg⟩ base k "_law_pick" (fa 10) (fd 10) ["_law_hand_here", "_law_some"] (F 10)) (cdv : Value) (A : Around) (outer : List Env) (s : Shared) (H : Hp) (E : XK)
    (hr : RoomG k (A.deeper (envOfC "_law_odd" (defScope s_law_odd) s.heap.objs.size (fa 20) cdv))) :
    PSs (cxOf (L2.CX P w) P w K mg base N_law_odd "_law_odd" (defScope s_law_odd) (fa 20) cdv A outer s H E) (defBody s_law_odd) (tS ⟨K, w, mg⟩ (m_law_odd F) (WE0 E)) :=
  q_scons (q_set (i := 1) sc_law_odd.nd (by rfl) (.inl (by rfl)) (q_lst (q_cons (q_non) (q_cons (q_bl) (q_cons (q_bl) (q_cons (q_int) (q_cons (q_int) (q_cons (q_int) (q_cons (q_int) (q_cons (q_un o_neg c_neg (q_int)) (q_cons (q_str) (q_cons (q_str) (q_cons (q_str) (q_cons (q_str) (q_cons (q_str) (q_cons (q_str) (q_cons (q_str) (q_cons (q_str) (q_cons (q_str) (q_nil))))))))))))))))))))
    (q_scons (q_set (i := 1) sc_law_odd.nd (by rfl) (.inl (by rfl)) (q_op (o_add (by rfl)) c_add (q_var (pv 1)) (q_lst (q_cons (q_str) (q_cons (q_str) (q_cons (q_str) (q_cons (q_str) (q_cons (q_lst (q_nil)) (q_cons (q_dic0) (q_cons (q_tup (q_nil)) (q_cons (q_tup (q_cons (q_str) (q_cons (q_int) (q_cons (q_tup (q_nil)) (q_nil))))) (q_cons (q_lst (q_cons (q_str) (q_cons (q_int) (q_cons (q_tup (q_nil)) (q_nil))))) (q_cons (q_tup (q_cons (q_str) (q_cons (q_str) (q_cons (q_tup (q_nil)) (q_nil))))) (q_nil))))))))))))))
    (q_scons (q_set (i := 1) sc_law_odd.nd (by rfl) (.inl (by rfl)) (q_op (o_add (by rfl)) c_add (q_var (pv 1)) (q_lst (q_cons (q_tup (q_cons (q_str) (q_cons (q_str) (q_cons (q_tup (q_nil)) (q_nil))))) (q_cons (q_tup (q_cons (q_str) (q_cons (q_bl) (q_cons (q_tup (q_nil)) (q_nil))))) (q_cons (q_tup (q_cons (q_str) (q_cons (q_str) (q_cons (q_tup (q_nil)) (q_nil))))) (q_cons (q_tup (q_cons (q_str) (q_cons (q_str) (q_cons (q_tup (q_nil)) (q_nil))))) (q_cons (q_tup (q_cons (q_str) (q_cons (q_str) (q_cons (q_tup (q_nil)) (q_nil))))) (q_nil)))))))))
    (q_sone (q_ret (q_fn C_law_pick T.bnd_law_pick hr (by rfl) (by rfl) (by rfl) tk_body (q_cons (q_var (pv 0)) (q_cons (q_op (o_add (by rfl)) c_add (q_var (pv 1)) (q_lst (q_cons (q_tup (q_cons (q_int) (q_cons (q_int) (q_cons (q_int) (q_nil))))) (q_nil)))) (q_nil))))))))
theorem b_law_bent {P : Program} {K : PySem.W.Frag} {w : World} {mg : Str → Option Value} {base : Heap} {fa : Nat → Addr} {fd : Nat → FuncData} {F : Nat → FN} {k : Nat} (hM : ∃ o, base.get? sysModules = some o) (T : Txt K w mg fa fd) (C_law_bent : Cal P w ⟨K, w, mg⟩ base k "_law_bent" (fa 21) (fd 21) ["_law_hand_here", "_law_made", "_law_deep"] (F 21)) (C_law_odd : Cal P w ⟨K, w, mg⟩ base k "_law_odd" (fa 20) (fd 20) ["_law_hand_here"] (F 20)) (C_law_pick : Cal P w ⟨K, w, mg⟩ base k "_law_pick" (fa 10) (fd 10) ["_law_hand_here", "_law_some"] (F 10)) (C_law_take : Cal P w ⟨K, w, mg⟩ base k "_law_take" (fa 9) (fd 9) ["_law_hand_here", "_law_many"] (F 9)) (cdv : Value) (A : Around) (outer : List Env) (s : Shared) (H : Hp) (E : XK)
    (hr : RoomG k (A.deeper (envOfC "_law_bent" (defScope s_law_bent) s.heap.objs.size (fa 21) cdv))) :
    PSs (cxOf (L2.CX P w) P w K mg base N_law_bent "_law_bent" (defScope s_law_bent) (fa 21) cdv A outer s H E) (defBody s_law_bent) (tS ⟨K, w, mg⟩ (m_law_bent F) (WE0 E)) :=
  q_scons (q_set (i := 3) sc_law_bent.nd (by rfl) (.inl (by rfl)) (q_fn C_law_take T.bnd_law_take hr (by rfl) (by rfl) (by rfl) tk_body (q_cons (q_var (pv 0)) (q_cons (q_int) (q_nil)))))
    (q_scons (q_if (q_tb (w_and (q_truth (by rfl) (q_callB (o_isi (by rfl)) c_isi (by rfl) T.z_isinstance b_isinstance (q_cons (q_var (pv 1)) (q_cons (q_ty T.z_tuple b_tuple (by rfl)) (q_nil))))) (w_and (q_tcmp (o_ne (by rfl) hr.units) c_ne (q_var (pv 1)) (q_tup (q_nil)) (nomark _)) (w_and (q_tcmp o_lt c_lt (q_var (pv 3)) (q_int) (nomark _)) (w_and1 (q_tcmp o_gt c_gt (q_var (pv 2)) (q_int) (nomark _))))))) (q_scons (q_set (i := 4) sc_law_bent.nd (by rfl) (.inl (by rfl)) (q_fn C_law_take T.bnd_law_take hr (by rfl) (by rfl) (by rfl) tk_body (q_cons (q_var (pv 0)) (q_cons (q_callB (o_len (by rfl)) c_len (by rfl) T.z_len b_len (q_cons (q_var (pv 1)) (q_nil))) (q_nil)))))
    (q_sone (q_ret (q_op (o_add (by rfl)) c_add (q_op (o_add (by rfl)) c_add (q_slice (by rfl) (q_var (pv 1)) (q_pno) (q_pyes (q_var (pv 4)))) (q_tup (q_cons (q_fn C_law_bent T.bnd_law_bent hr (by rfl) (by rfl) (by rfl) tk_body (q_cons (q_var (pv 0)) (q_cons (q_ix (o_ix (by rfl) (by rfl) (u1 hr)) c_ix (q_var (pv 1)) (q_var (pv 4)) (fun _ _ => rfl)) (q_cons (q_op o_sub c_sub (q_var (pv 2)) (q_int)) (q_nil))))) (q_nil)))) (q_slice (by rfl) (q_var (pv 1)) (q_pyes (q_op (o_add (by rfl)) c_add (q_var (pv 4)) (q_int))) (q_pno)))))) (q_snil))
    (q_scons (q_if (q_tb (w_or (q_tnot (q_truth (by rfl) (q_callB (o_isi (by rfl)) c_isi (by rfl) T.z_isinstance b_isinstance (q_cons (q_var (pv 1)) (q_cons (q_ty T.z_tuple b_tuple (by rfl)) (q_nil)))))) (w_or1 (q_tcmp (o_eq (by rfl) hr.units) c_eq (q_var (pv 3)) (q_int) (nomark _))))) (q_sone (q_ret (q_fn C_law_odd T.bnd_law_odd hr (by rfl) (by rfl) (by rfl) tk_body (q_cons (q_var (pv 0)) (q_nil))))) (q_snil))
    (q_scons (q_set (i := 4) sc_law_bent.nd (by rfl) (.inl (by rfl)) (q_fn C_law_take T.bnd_law_take hr (by rfl) (by rfl) (by rfl) tk_body (q_cons (q_var (pv 0)) (q_cons (q_op (o_add (by rfl)) c_add (q_callB (o_len (by rfl)) c_len (by rfl) T.z_len b_len (q_cons (q_var (pv 1)) (q_nil))) (q_int)) (q_nil)))))
    (q_scons (q_set (i := 5) sc_law_bent.nd (by rfl) (.inl (by rfl)) (q_lst (q_cons (q_op (o_add (by rfl)) c_add (q_op (o_add (by rfl)) c_add (q_slice (by rfl) (q_var (pv 1)) (q_pno) (q_pyes (q_var (pv 4)))) (q_tup (q_cons (q_fn C_law_odd T.bnd_law_odd hr (by rfl) (by rfl) (by rfl) tk_body (q_cons (q_var (pv 0)) (q_nil))) (q_nil)))) (q_slice (by rfl) (q_var (pv 1)) (q_pyes (q_var (pv 4))) (q_pno))) (q_cons (q_op (o_add (by rfl)) c_add (q_slice (by rfl) (q_var (pv 1)) (q_pno) (q_pyes (q_var (pv 4)))) (q_slice (by rfl) (q_var (pv 1)) (q_pyes (q_op (o_add (by rfl)) c_add (q_var (pv 4)) (q_int))) (q_pno))) (q_cons (q_callTy (o_list (by rfl)) c_list (by rfl) T.z_list b_list (q_cons (q_var (pv 1)) (q_nil))) (q_nil))))))
    (q_scons (q_set (i := 6) sc_law_bent.nd (by rfl) (.inl (by rfl)) (q_backT (by rfl) (q_slice (by rfl) (q_var (pv 1)) (q_pyes (q_var (pv 4))) (q_pyes (q_op (o_add (by rfl)) c_add (q_var (pv 4)) (q_int))))))
    (q_scons (q_set (i := 5) sc_law_bent.nd (by rfl) (.inl (by rfl)) (q_op (o_add (by rfl)) c_add (q_var (pv 5)) (q_lst (q_cons (q_op (o_add (by rfl)) c_add (q_op (o_add (by rfl)) c_add (q_slice (by rfl) (q_var (pv 1)) (q_pno) (q_pyes (q_var (pv 4)))) (q_var (pv 6))) (q_slice (by rfl) (q_var (pv 1)) (q_pyes (q_op (o_add (by rfl)) c_add (q_var (pv 4)) (q_int))) (q_pno))) (q_cons (q_op (o_add (by rfl)) c_add (q_slice (by rfl) (q_var (pv 1)) (q_pno) (q_pyes (q_op (o_add (by rfl)) c_add (q_var (pv 4)) (q_int)))) (q_slice (by rfl) (q_var (pv 1)) (q_pyes (q_var (pv 4))) (q_pno))) (q_nil))))))
    (q_sone (q_ret (q_fn C_law_pick T.bnd_law_pick hr (by rfl) (by rfl) (by rfl) tk_body (q_cons (q_var (pv 0)) (q_cons (q_var (pv 5)) (q_nil))))))))))))
theorem b_law_right {P : Program} {K : PySem.W.Frag} {w : World} {mg : Str → Option Value} {base : Heap} {fa : Nat → Addr} {fd : Nat → FuncData} {F : Nat → FN} {k : Nat} (hM : ∃ o, base.get? sysModules = some o) (T : Txt K w mg fa fd) (C_law_is_program : Cal P w ⟨K, w, mg⟩ base k "_law_is_program" (fa 19) (fd 19) ["_law_item"] (F 19)) (C_is_program : Cal P w ⟨K, w, mg⟩ base k "is_program" (fa 7) (fd 7) ["thing"] (F 7)) (cdv : Value) (A : Around) (outer : List Env) (s : Shared) (H : Hp) (E : XK)
    (hr : RoomG k (A.deeper (envOfC "_law_right" (defScope s_law_right) s.heap.objs.size (fa 22) cdv))) :
    PSs (cxOf (L2.CX P w) P w K mg base N_law_right "_law_right" (defScope s_law_right) (fa 22) cdv A outer s H E) (defBody s_law_right) (tS ⟨K, w, mg⟩ (m_law_right F) (WE0 E)) :=
  q_scons (q_set (i := 1) sc_law_right.nd (by rfl) (.inl (by rfl)) (q_callB (o_repr (by rfl) hM hr.gd (u150 hr)) c_repr (by rfl) T.z_repr b_repr (q_cons (q_var (pv 0)) (q_nil))))
    (q_scons (q_set (i := 2) sc_law_right.nd (by rfl) (.inl (by rfl)) (q_lst (q_cons (q_fn C_is_program T.bnd_is_program hr (by rfl) (by rfl) (by rfl) tk_body (q_cons (q_var (pv 0)) (q_nil))) (q_cons (q_fnK0 C_is_program T.kbd_is_program_0_thing hr (by rfl) (by rfl) (by rfl) tk_body (q_kcons (q_var (pv 0)) (q_knil))) (q_nil)))))
    (q_sone (q_ret (q_eand (q_cmp (o_eq (by rfl) hr.units) c_eq (q_var (pv 2)) (q_op o_mul c_mul (q_lst (q_cons (q_fn C_law_is_program T.bnd_law_is_program hr (by rfl) (by rfl) (by rfl) tk_body (q_cons (q_var (pv 0)) (q_nil))) (q_nil))) (q_int)) (nomark _)) (q_eand (q_callB (o_isi (by rfl)) c_isi (by rfl) T.z_isinstance b_isinstance (q_cons (q_ix (o_ix (by rfl) (by rfl) (u1 hr)) c_ix (q_var (pv 2)) (q_int) (fun _ _ => rfl)) (q_cons (q_ty T.z_bool b_bool (by rfl)) (q_nil)))) (q_eone (q_cmp (o_eq (by rfl) hr.units) c_eq (q_callB (o_repr (by rfl) hM hr.gd (u150 hr)) c_repr (by rfl) T.z_repr b_repr (q_cons (q_var (pv 0)) (q_nil))) (q_var (pv 1)) (nomark _))))))))
theorem b_law {P : Program} {K : PySem.W.Frag} {w : World} {mg : Str → Option Value} {base : Heap} {fa : Nat → Addr} {fd : Nat → FuncData} {F : Nat → FN} {k : Nat} (hM : ∃ o, base.get? sysModules = some o) (T : Txt K w mg fa fd) (C_law_bent : Cal P w ⟨K, w, mg⟩ base k "_law_bent" (fa 21) (fd 21) ["_law_hand_here", "_law_made", "_law_deep"] (F 21)) (C_law_code : Cal P w ⟨K, w, mg⟩ base k "_law_code" (fa 14) (fd 14) ["_law_hand_here", "_law_size_here"] (F 14)) (C_law_hand : Cal P w ⟨K, w, mg⟩ base k "_law_hand" (fa 8) (fd 8) ["_law_script", "_law_k"] (F 8)) (C_law_is_program : Cal P w ⟨K, w, mg⟩ base k "_law_is_program" (fa 19) (fd 19) ["_law_item"] (F 19)) (C_law_right : Cal P w ⟨K, w, mg⟩ base k "_law_right" (fa 22) (fd 22) ["_law_made"] (F 22)) (C_law_take : Cal P w ⟨K, w, mg⟩ base k "_law_take" (fa 9) (fd 9) ["_law_hand_here", "_law_many"] (F 9)) (cdv : Value) (A : Around) (outer : List Env) (s : Shared) (H : Hp) (E : XK)
    (hr : RoomG k (A.deeper (envOfC "law" (defScope s_law) s.heap.objs.size (fa 23) cdv))) :
    PSs (cxOf (L2.CX P w) P w K mg base N_law "law" (defScope s_law) (fa 23) cdv A outer s H E) (defBody s_law) (tS ⟨K, w, mg⟩ (m_law F) (WE0 E)) :=
  q_scons (q_for po_body (by rfl) (q_range1 (by rfl) T.z_range (q_cons (q_callB (o_max (by rfl)) c_max (by rfl) T.z_max b_max (q_cons (q_int) (q_cons (q_callB (o_min (by rfl)) c_min (by rfl) T.z_min b_min (q_cons (q_int) (q_cons (q_callB (o_len (by rfl)) c_len (by rfl) T.z_len b_len (q_cons (q_var (pv 0)) (q_nil))) (q_nil)))) (q_nil)))) (q_nil))) (q_gname (pg_name (i := 1) sc_law.nd (by rfl) (.inl (by rfl)))) (q_scons (q_set (i := 2) sc_law.nd (by rfl) (.inl (by rfl)) (q_fn C_law_hand T.bnd_law_hand hr (by rfl) (by rfl) (by rfl) tk_body (q_cons (q_var (pv 0)) (q_cons (q_var (pv 1)) (q_nil)))))
    (q_scons (q_set (i := 3) sc_law.nd (by rfl) (.inl (by rfl)) (q_fn C_law_code T.bnd_law_code hr (by rfl) (by rfl) (by rfl) tk_body (q_cons (q_var (pv 2)) (q_cons (q_op (o_add (by rfl)) c_add (q_int) (q_fn C_law_take T.bnd_law_take hr (by rfl) (by rfl) (by rfl) tk_body (q_cons (q_var (pv 2)) (q_cons (q_int) (q_nil))))) (q_nil)))))
    (q_scons (q_if (q_tb (w_or (q_tnot (q_truth (by rfl) (q_fn C_law_is_program T.bnd_law_is_program hr (by rfl) (by rfl) (by rfl) tk_body (q_cons (q_var (pv 3)) (q_nil))))) (w_or1 (q_tnot (q_truth (by rfl) (q_fn C_law_right T.bnd_law_right hr (by rfl) (by rfl) (by rfl) tk_body (q_cons (q_var (pv 3)) (q_nil)))))))) (q_sone (q_ret (q_bl))) (q_snil))
    (q_sone (q_for po_body (by rfl) (q_range1 (by rfl) T.z_range (q_cons (q_int) (q_nil))) (q_gname (pg_name (i := 4) sc_law.nd (by rfl) (.inl (by rfl)))) (q_scons (q_set (i := 5) sc_law.nd (by rfl) (.inl (by rfl)) (q_fn C_law_bent T.bnd_law_bent hr (by rfl) (by rfl) (by rfl) tk_body (q_cons (q_var (pv 2)) (q_cons (q_var (pv 3)) (q_cons (q_int) (q_nil))))))
    (q_scons (q_if (q_tcmp (o_eq (by rfl) hr.units) c_eq (q_fn C_law_take T.bnd_law_take hr (by rfl) (by rfl) (by rfl) tk_body (q_cons (q_var (pv 2)) (q_cons (q_int) (q_nil)))) (q_int) (nomark _)) (q_sone (q_set (i := 5) sc_law.nd (by rfl) (.inl (by rfl)) (q_fn C_law_bent T.bnd_law_bent hr (by rfl) (by rfl) (by rfl) tk_body (q_cons (q_var (pv 2)) (q_cons (q_var (pv 5)) (q_cons (q_int) (q_nil))))))) (q_snil))
    (q_sone (q_if (q_tnot (q_truth (by rfl) (q_fn C_law_right T.bnd_law_right hr (by rfl) (by rfl) (by rfl) tk_body (q_cons (q_var (pv 5)) (q_nil))))) (q_sone (q_ret (q_bl))) (q_snil)))))))))))
    (q_sone (q_ret (q_bl)))
structure Alls (P : Program) (K : PySem.W.Frag) (w : World) (mg : Str → Option Value) (base : Heap) (fa : Nat → Addr) (fd : Nat → FuncData) (k : Nat) (F : Nat → FN) : Prop where
  c_is_whole : Cal P w ⟨K, w, mg⟩ base k "is_whole" (fa 0) (fd 0) ["thing"] (F 0)
  c_is_number : Cal P w ⟨K, w, mg⟩ base k "is_number" (fa 1) (fd 1) ["thing", "low", "high"] (F 1)
  c_is_name : Cal P w ⟨K, w, mg⟩ base k "is_name" (fa 2) (fd 2) ["thing"] (F 2)
  c_is_leaf : Cal P w ⟨K, w, mg⟩ base k "is_leaf" (fa 3) (fd 3) ["thing"] (F 3)
  c_is_mark : Cal P w ⟨K, w, mg⟩ base k "is_mark" (fa 4) (fd 4) ["gives", "mark"] (F 4)
  c_is_thing_with : Cal P w ⟨K, w, mg⟩ base k "is_thing_with" (fa 5) (fd 5) ["leaf_look", "thing", "deep", "widest"] (F 5)
  c_count_of : Cal P w ⟨K, w, mg⟩ base k "count_of" (fa 6) (fd 6) ["thing"] (F 6)
  c_is_program : Cal P w ⟨K, w, mg⟩ base k "is_program" (fa 7) (fd 7) ["thing"] (F 7)
  c_law_hand : Cal P w ⟨K, w, mg⟩ base k "_law_hand" (fa 8) (fd 8) ["_law_script", "_law_k"] (F 8)
  c_law_take : Cal P w ⟨K, w, mg⟩ base k "_law_take" (fa 9) (fd 9) ["_law_hand_here", "_law_many"] (F 9)
  c_law_pick : Cal P w ⟨K, w, mg⟩ base k "_law_pick" (fa 10) (fd 10) ["_law_hand_here", "_law_some"] (F 10)
  c_law_called : Cal P w ⟨K, w, mg⟩ base k "_law_called" (fa 11) (fd 11) ["_law_hand_here", "_law_many"] (F 11)
  c_law_digit : Cal P w ⟨K, w, mg⟩ base k "_law_digit" (fa 12) (fd 12) ["_law_hand_here"] (F 12)
  c_law_grown : Cal P w ⟨K, w, mg⟩ base k "_law_grown" (fa 13) (fd 13) ["_law_hand_here", "_law_pot", "_law_scope", "_law_level"] (F 13)
  c_law_code : Cal P w ⟨K, w, mg⟩ base k "_law_code" (fa 14) (fd 14) ["_law_hand_here", "_law_size_here"] (F 14)
  c_law_is_whole : Cal P w ⟨K, w, mg⟩ base k "_law_is_whole" (fa 15) (fd 15) ["_law_item", "_law_beyond"] (F 15)
  c_law_is_name : Cal P w ⟨K, w, mg⟩ base k "_law_is_name" (fa 16) (fd 16) ["_law_item"] (F 16)
  c_law_is_thing : Cal P w ⟨K, w, mg⟩ base k "_law_is_thing" (fa 17) (fd 17) ["_law_item", "_law_room"] (F 17)
  c_law_size : Cal P w ⟨K, w, mg⟩ base k "_law_size" (fa 18) (fd 18) ["_law_item"] (F 18)
  c_law_is_program : Cal P w ⟨K, w, mg⟩ base k "_law_is_program" (fa 19) (fd 19) ["_law_item"] (F 19)
  c_law_odd : Cal P w ⟨K, w, mg⟩ base k "_law_odd" (fa 20) (fd 20) ["_law_hand_here"] (F 20)
  c_law_bent : Cal P w ⟨K, w, mg⟩ base k "_law_bent" (fa 21) (fd 21) ["_law_hand_here", "_law_made", "_law_deep"] (F 21)
  c_law_right : Cal P w ⟨K, w, mg⟩ base k "_law_right" (fa 22) (fd 22) ["_law_made"] (F 22)
  c_law : Cal P w ⟨K, w, mg⟩ base k "law" (fa 23) (fd 23) ["_law_script"] (F 23)
theorem all {P : Program} {K : PySem.W.Frag} {w : World} {mg : Str → Option Value} {base : Heap} {fa : Nat → Addr} {fd : Nat → FuncData} (hM : ∃ o, base.get? sysModules = some o) (T : Txt K w mg fa fd) : ∀ k, Alls P K w mg base fa fd k (Fs k)
  | 0 => ⟨⟨fn_none, T.g_is_whole, T.F_is_whole.kp⟩, ⟨fn_none, T.g_is_number, T.F_is_number.kp⟩, ⟨fn_none, T.g_is_name, T.F_is_name.kp⟩, ⟨fn_none, T.g_is_leaf, T.F_is_leaf.kp⟩, ⟨fn_none, T.g_is_mark, T.F_is_mark.kp⟩, ⟨fn_none, T.g_is_thing_with, T.F_is_thing_with.kp⟩, ⟨fn_none, T.g_count_of, T.F_count_of.kp⟩, ⟨fn_none, T.g_is_program, T.F_is_program.kp⟩, ⟨fn_none, T.g_law_hand, T.F_law_hand.kp⟩, ⟨fn_none, T.g_law_take, T.F_law_take.kp⟩, ⟨fn_none, T.g_law_pick, T.F_law_pick.kp⟩, ⟨fn_none, T.g_law_called, T.F_law_called.kp⟩, ⟨fn_none, T.g_law_digit, T.F_law_digit.kp⟩, ⟨fn_none, T.g_law_grown, T.F_law_grown.kp⟩, ⟨fn_none, T.g_law_code, T.F_law_code.kp⟩, ⟨fn_none, T.g_law_is_whole, T.F_law_is_whole.kp⟩, ⟨fn_none, T.g_law_is_name, T.F_law_is_name.kp⟩, ⟨fn_none, T.g_law_is_thing, T.F_law_is_thing.kp⟩, ⟨fn_none, T.g_law_size, T.F_law_size.kp⟩, ⟨fn_none, T.g_law_is_program, T.F_law_is_program.kp⟩, ⟨fn_none, T.g_law_odd, T.F_law_odd.kp⟩, ⟨fn_none, T.g_law_bent, T.F_law_bent.kp⟩, ⟨fn_none, T.g_law_right, T.F_law_right.kp⟩, ⟨fn_none, T.g_law, T.F_law.kp⟩⟩
  | k + 1 => by
    have ih := all (P := P) (base := base) hM T k
    exact ⟨⟨fn_ok (G := ⟨K, w, mg⟩) T.F_is_whole sc_is_whole (b_is_whole hM T), T.g_is_whole, T.F_is_whole.kp⟩,
      ⟨fn_ok (G := ⟨K, w, mg⟩) T.F_is_number sc_is_number (b_is_number hM T ih.c_is_whole), T.g_is_number, T.F_is_number.kp⟩,
      ⟨fn_ok (G := ⟨K, w, mg⟩) T.F_is_name sc_is_name (b_is_name hM T), T.g_is_name, T.F_is_name.kp⟩,
      ⟨fn_ok (G := ⟨K, w, mg⟩) T.F_is_leaf sc_is_leaf (b_is_leaf hM T ih.c_is_name ih.c_is_number), T.g_is_leaf, T.F_is_leaf.kp⟩,
      ⟨fn_ok (G := ⟨K, w, mg⟩) T.F_is_mark sc_is_mark (b_is_mark hM T ih.c_is_name), T.g_is_mark, T.F_is_mark.kp⟩,
      ⟨fn_ok (G := ⟨K, w, mg⟩) T.F_is_thing_with sc_is_thing_with (b_is_thing_with hM T ih.c_is_leaf ih.c_is_mark ih.c_is_thing_with), T.g_is_thing_with, T.F_is_thing_with.kp⟩,
      ⟨fn_ok (G := ⟨K, w, mg⟩) T.F_count_of sc_count_of (b_count_of hM T ih.c_count_of), T.g_count_of, T.F_count_of.kp⟩,
      ⟨fn_ok (G := ⟨K, w, mg⟩) T.F_is_program sc_is_program (b_is_program hM T ih.c_count_of ih.c_is_thing_with), T.g_is_program, T.F_is_program.kp⟩,
      ⟨fn_ok (G := ⟨K, w, mg⟩) T.F_law_hand sc_law_hand (b_law_hand hM T), T.g_law_hand, T.F_law_hand.kp⟩,
      ⟨fn_ok (G := ⟨K, w, mg⟩) T.F_law_take sc_law_take (b_law_take hM T), T.g_law_take, T.F_law_take.kp⟩,
      ⟨fn_ok (G := ⟨K, w, mg⟩) T.F_law_pick sc_law_pick (b_law_pick hM T ih.c_law_take), T.g_law_pick, T.F_law_pick.kp⟩,
      ⟨fn_ok (G := ⟨K, w, mg⟩) T.F_law_called sc_law_called (b_law_called hM T ih.c_law_pick ih.c_law_take), T.g_law_called, T.F_law_called.kp⟩,
      ⟨fn_ok (G := ⟨K, w, mg⟩) T.F_law_digit sc_law_digit (b_law_digit hM T ih.c_law_pick ih.c_law_take), T.g_law_digit, T.F_law_digit.kp⟩,
      ⟨fn_ok (G := ⟨K, w, mg⟩) T.F_law_grown sc_law_grown (b_law_grown hM T ih.c_law_digit ih.c_law_grown ih.c_law_pick ih.c_law_take), T.g_law_grown, T.F_law_grown.kp⟩,
      ⟨fn_ok (G := ⟨K, w, mg⟩) T.F_law_code sc_law_code (b_law_code hM T ih.c_law_called ih.c_law_grown ih.c_law_take), T.g_law_code, T.F_law_code.kp⟩,
      ⟨fn_ok (G := ⟨K, w, mg⟩) T.F_law_is_whole sc_law_is_whole (b_law_is_whole hM T), T.g_law_is_whole, T.F_law_is_whole.kp⟩,
      ⟨fn_ok (G := ⟨K, w, mg⟩) T.F_law_is_name sc_law_is_name (b_law_is_name hM T), T.g_law_is_name, T.F_law_is_name.kp⟩,
      ⟨fn_ok (G := ⟨K, w, mg⟩) T.F_law_is_thing sc_law_is_thing (b_law_is_thing hM T ih.c_law_is_name ih.c_law_is_thing ih.c_law_is_whole), T.g_law_is_thing, T.F_law_is_thing.kp⟩,
      ⟨fn_ok (G := ⟨K, w, mg⟩) T.F_law_size sc_law_size (b_law_size hM T ih.c_law_size), T.g_law_size, T.F_law_size.kp⟩,
      ⟨fn_ok (G := ⟨K, w, mg⟩) T.F_law_is_program sc_law_is_program (b_law_is_program hM T ih.c_law_is_thing ih.c_law_size), T.g_law_is_program, T.F_law_is_program.kp⟩,
      ⟨fn_ok (G := ⟨K, w, mg⟩) T.F_law_odd sc_law_odd (b_law_odd hM T ih.c_law_pick), T.g_law_odd, T.F_law_odd.kp⟩,
      ⟨fn_ok (G := ⟨K, w, mg⟩) T.F_law_bent sc_law_bent (b_law_bent hM T ih.c_law_bent ih.c_law_odd ih.c_law_pick ih.c_law_take), T.g_law_bent, T.F_law_bent.kp⟩,
      ⟨fn_ok (G := ⟨K, w, mg⟩) T.F_law_right sc_law_right (b_law_right hM T ih.c_law_is_program ih.c_is_program), T.g_law_right, T.F_law_right.kp⟩,
      ⟨fn_ok (G := ⟨K, w, mg⟩) T.F_law sc_law (b_law hM T ih.c_law_bent ih.c_law_code ih.c_law_hand ih.c_law_is_program ih.c_law_right ih.c_law_take), T.g_law, T.F_law.kp⟩⟩
end K01
set_option Elab.async false
set_option linter.all false
set_option maxRecDepth 100000
set_option maxHeartbeats 4000000
namespace K01
open PySem PySem.Spec PyProof.Rows L2 L3
def fdOf (d0 : FuncData) (d1 : FuncData) (d2 : FuncData) (d3 : FuncData) (d4 : FuncData) (d5 : FuncData) (d6 : FuncData) (d7 : FuncData) (d8 : FuncData) (d9 : FuncData) (d10 : FuncData) (d11 : FuncData) (d12 : FuncData) (d13 : FuncData) (d14 : FuncData) (d15 : FuncData) (d16 : FuncData) (d17 : FuncData) (d18 : FuncData) (d19 : FuncData) (d20 : FuncData) (d21 : FuncData) (d22 : FuncData) (d23 : FuncData) : Nat → FuncData
  | 0 => d0
  | 1 => d1
  | 2 => d2
  | 3 => d3
  | 4 => d4
  | 5 => d5
  | 6 => d6
  | 7 => d7
  | 8 => d8
  | 9 => d9
  | 10 => d10
  | 11 => d11
  | 12 => d12
  | 13 => d13
  | 14 => d14
  | 15 => d15
  | 16 => d16
  | 17 => d17
  | 18 => d18
  | 19 => d19
  | 20 => d20
  | 21 => d21
  | 22 => d22
  | 23 => d23
  | _ => d0
theorem all_mk {l : PySem.W.OpenLaw} {w : World} {K : PySem.W.Frag} {h : Heap} {mg : Str → Option Value} {fa : Addr} (X : K.In h) (G : h.Ns mainGlobals mg) (hfa : mg "law" = some (.ref fa)) (TT : ∀ ns : List Int, ns.length ≤ 63 → ∃ S, Fs 100 23 [.scr ns] [] = .ok (.bl true) S)
    {f1 f11 kd20 f23 f33 f43 f53 kd62 f64 f74 f84 f94 f104 f114 f124 f134 f144 f154 f164 f174 f184 f194 f204 f214 f224 f234 a251 a254 a262 a270 a278 a286 a294 a302 a310 a318 a326 a333 : Addr}
    {od2 an3 od12 an13 od24 an25 od34 an35 od44 an45 od54 an55 od65 an66 od75 an76 od85 an86 od95 an96 od105 an106 od115 an116 od125 an126 od135 an136 od145 an146 od155 an156 od165 an166 od175 an176 od185 an186 od195 an196 od205 an206 od215 an216 od225 an226 od235 an236 dd257 dd265 dd273 dd281 dd289 dd297 dd305 dd313 dd321 dd329 dd350 : Option Addr}
    {sl4 sl14 sl26 sl36 sl46 sl56 sl67 sl77 sl87 sl97 sl107 sl117 sl127 sl137 sl147 sl157 sl167 sl177 sl187 sl197 sl207 sl217 sl227 sl237 sl259 sl267 sl275 sl283 sl291 sl299 sl307 sl315 sl323 sl331 sl352 : Array (Option Value)}
    {oc5 dc6 pm7 cd8 ct9 kV10 oc15 dc16 pm17 cd18 ct19 oc27 dc28 pm29 cd30 ct31 kV32 oc37 dc38 pm39 cd40 ct41 kV42 oc47 dc48 pm49 cd50 ct51 kV52 oc57 dc58 pm59 cd60 ct61 oc68 dc69 pm70 cd71 ct72 kV73 oc78 dc79 pm80 cd81 ct82 kV83 oc88 dc89 pm90 cd91 ct92 kV93 oc98 dc99 pm100 cd101 ct102 kV103 oc108 dc109 pm110 cd111 ct112 kV113 oc118 dc119 pm120 cd121 ct122 kV123 oc128 dc129 pm130 cd131 ct132 kV133 oc138 dc139 pm140 cd141 ct142 kV143 oc148 dc149 pm150 cd151 ct152 kV153 oc158 dc159 pm160 cd161 ct162 kV163 oc168 dc169 pm170 cd171 ct172 kV173 oc178 dc179 pm180 cd181 ct182 kV183 oc188 dc189 pm190 cd191 ct192 kV193 oc198 dc199 pm200 cd201 ct202 kV203 oc208 dc209 pm210 cd211 ct212 kV213 oc218 dc219 pm220 cd221 ct222 kV223 oc228 dc229 pm230 cd231 ct232 kV233 oc238 dc239 pm240 cd241 ct242 kV243 : Value}
    {t21 t22 t63 t244 t245 t246 t247 t248 t249 t250 t253 t255 t256 t261 t263 t264 t269 t271 t272 t277 t279 t280 t285 t287 t288 t293 t295 t296 t301 t303 t304 t309 t311 t312 t317 t319 t320 t325 t327 t328 t334 t335 t336 t337 t338 t339 t340 t341 t342 t343 t344 t345 t346 t347 t348 t349 : PySem.Tok}
    {h252 h260 h268 h276 h284 h292 h300 h308 h316 h324 : Int}
    {n258 n266 n274 n282 n290 n298 n306 n314 n322 n330 n332 n351 : Nat}
    (a_is_whole : PySem.W.nsIn K mainGlobals "is_whole" = some (some (.ref f1)))
    (l_is_whole : K.lookup f1 = some ⟨oc5, od2, .func (PySem.W.fnOf "is_whole" "is_whole" (defArgs s_is_whole) (defBody s_is_whole) (defScope s_is_whole) .none kV10 dc6 pm7 an3 cd8 ct9), sl4⟩)
    (c_is_whole : PySem.W.codeIn K cd8 "is_whole" = true)
    (k_is_whole : PySem.W.keepIn K (.ref f1) = true)
    (a_is_number : PySem.W.nsIn K mainGlobals "is_number" = some (some (.ref f11)))
    (l_is_number : K.lookup f11 = some ⟨oc15, od12, .func (PySem.W.fnOf "is_number" "is_number" (defArgs s_is_number) (defBody s_is_number) (defScope s_is_number) .none (.ref kd20) dc16 pm17 an13 cd18 ct19), sl14⟩)
    (c_is_number : PySem.W.codeIn K cd18 "is_number" = true)
    (k_is_number : PySem.W.keepIn K (.ref f11) = true)
    (w_is_number_high : PySem.W.nsIn K kd20 "high" = some (some (.int 9972 t21)))
    (w_is_number_low : PySem.W.nsIn K kd20 "low" = some (some (.int 0 t22)))
    (a_is_name : PySem.W.nsIn K mainGlobals "is_name" = some (some (.ref f23)))
    (l_is_name : K.lookup f23 = some ⟨oc27, od24, .func (PySem.W.fnOf "is_name" "is_name" (defArgs s_is_name) (defBody s_is_name) (defScope s_is_name) .none kV32 dc28 pm29 an25 cd30 ct31), sl26⟩)
    (c_is_name : PySem.W.codeIn K cd30 "is_name" = true)
    (k_is_name : PySem.W.keepIn K (.ref f23) = true)
    (a_is_leaf : PySem.W.nsIn K mainGlobals "is_leaf" = some (some (.ref f33)))
    (l_is_leaf : K.lookup f33 = some ⟨oc37, od34, .func (PySem.W.fnOf "is_leaf" "is_leaf" (defArgs s_is_leaf) (defBody s_is_leaf) (defScope s_is_leaf) .none kV42 dc38 pm39 an35 cd40 ct41), sl36⟩)
    (c_is_leaf : PySem.W.codeIn K cd40 "is_leaf" = true)
    (k_is_leaf : PySem.W.keepIn K (.ref f33) = true)
    (a_is_mark : PySem.W.nsIn K mainGlobals "is_mark" = some (some (.ref f43)))
    (l_is_mark : K.lookup f43 = some ⟨oc47, od44, .func (PySem.W.fnOf "is_mark" "is_mark" (defArgs s_is_mark) (defBody s_is_mark) (defScope s_is_mark) .none kV52 dc48 pm49 an45 cd50 ct51), sl46⟩)
    (c_is_mark : PySem.W.codeIn K cd50 "is_mark" = true)
    (k_is_mark : PySem.W.keepIn K (.ref f43) = true)
    (a_is_thing_with : PySem.W.nsIn K mainGlobals "is_thing_with" = some (some (.ref f53)))
    (l_is_thing_with : K.lookup f53 = some ⟨oc57, od54, .func (PySem.W.fnOf "is_thing_with" "is_thing_with" (defArgs s_is_thing_with) (defBody s_is_thing_with) (defScope s_is_thing_with) .none (.ref kd62) dc58 pm59 an55 cd60 ct61), sl56⟩)
    (c_is_thing_with : PySem.W.codeIn K cd60 "is_thing_with" = true)
    (k_is_thing_with : PySem.W.keepIn K (.ref f53) = true)
    (w_is_thing_with_widest : PySem.W.nsIn K kd62 "widest" = some (some (.int 6 t63)))
    (a_count_of : PySem.W.nsIn K mainGlobals "count_of" = some (some (.ref f64)))
    (l_count_of : K.lookup f64 = some ⟨oc68, od65, .func (PySem.W.fnOf "count_of" "count_of" (defArgs s_count_of) (defBody s_count_of) (defScope s_count_of) .none kV73 dc69 pm70 an66 cd71 ct72), sl67⟩)
    (c_count_of : PySem.W.codeIn K cd71 "count_of" = true)
    (k_count_of : PySem.W.keepIn K (.ref f64) = true)
    (a_is_program : PySem.W.nsIn K mainGlobals "is_program" = some (some (.ref f74)))
    (l_is_program : K.lookup f74 = some ⟨oc78, od75, .func (PySem.W.fnOf "is_program" "is_program" (defArgs s_is_program) (defBody s_is_program) (defScope s_is_program) .none kV83 dc79 pm80 an76 cd81 ct82), sl77⟩)
    (c_is_program : PySem.W.codeIn K cd81 "is_program" = true)
    (k_is_program : PySem.W.keepIn K (.ref f74) = true)
    (a_law_hand : PySem.W.nsIn K mainGlobals "_law_hand" = some (some (.ref f84)))
    (l_law_hand : K.lookup f84 = some ⟨oc88, od85, .func (PySem.W.fnOf "_law_hand" "_law_hand" (defArgs s_law_hand) (defBody s_law_hand) (defScope s_law_hand) .none kV93 dc89 pm90 an86 cd91 ct92), sl87⟩)
    (c_law_hand : PySem.W.codeIn K cd91 "_law_hand" = true)
    (k_law_hand : PySem.W.keepIn K (.ref f84) = true)
    (a_law_take : PySem.W.nsIn K mainGlobals "_law_take" = some (some (.ref f94)))
    (l_law_take : K.lookup f94 = some ⟨oc98, od95, .func (PySem.W.fnOf "_law_take" "_law_take" (defArgs s_law_take) (defBody s_law_take) (defScope s_law_take) .none kV103 dc99 pm100 an96 cd101 ct102), sl97⟩)
    (c_law_take : PySem.W.codeIn K cd101 "_law_take" = true)
    (k_law_take : PySem.W.keepIn K (.ref f94) = true)
    (a_law_pick : PySem.W.nsIn K mainGlobals "_law_pick" = some (some (.ref f104)))
    (l_law_pick : K.lookup f104 = some ⟨oc108, od105, .func (PySem.W.fnOf "_law_pick" "_law_pick" (defArgs s_law_pick) (defBody s_law_pick) (defScope s_law_pick) .none kV113 dc109 pm110 an106 cd111 ct112), sl107⟩)
    (c_law_pick : PySem.W.codeIn K cd111 "_law_pick" = true)
    (k_law_pick : PySem.W.keepIn K (.ref f104) = true)
    (a_law_called : PySem.W.nsIn K mainGlobals "_law_called" = some (some (.ref f114)))
    (l_law_called : K.lookup f114 = some ⟨oc118, od115, .func (PySem.W.fnOf "_law_called" "_law_called" (defArgs s_law_called) (defBody s_law_called) (defScope s_law_called) .none kV123 dc119 pm120 an116 cd121 ct122), sl117⟩)
    (c_law_called : PySem.W.codeIn K cd121 "_law_called" = true)
    (k_law_called : PySem.W.keepIn K (.ref f114) = true)
    (a_law_digit : PySem.W.nsIn K mainGlobals "_law_digit" = some (some (.ref f124)))
    (l_law_digit : K.lookup f124 = some ⟨oc128, od125, .func (PySem.W.fnOf "_law_digit" "_law_digit" (defArgs s_law_digit) (defBody s_law_digit) (defScope s_law_digit) .none kV133 dc129 pm130 an126 cd131 ct132), sl127⟩)
    (c_law_digit : PySem.W.codeIn K cd131 "_law_digit" = true)
    (k_law_digit : PySem.W.keepIn K (.ref f124) = true)
    (a_law_grown : PySem.W.nsIn K mainGlobals "_law_grown" = some (some (.ref f134)))
    (l_law_grown : K.lookup f134 = some ⟨oc138, od135, .func (PySem.W.fnOf "_law_grown" "_law_grown" (defArgs s_law_grown) (defBody s_law_grown) (defScope s_law_grown) .none kV143 dc139 pm140 an136 cd141 ct142), sl137⟩)
    (c_law_grown : PySem.W.codeIn K cd141 "_law_grown" = true)
    (k_law_grown : PySem.W.keepIn K (.ref f134) = true)
    (a_law_code : PySem.W.nsIn K mainGlobals "_law_code" = some (some (.ref f144)))
    (l_law_code : K.lookup f144 = some ⟨oc148, od145, .func (PySem.W.fnOf "_law_code" "_law_code" (defArgs s_law_code) (defBody s_law_code) (defScope s_law_code) .none kV153 dc149 pm150 an146 cd151 ct152), sl147⟩)
    (c_law_code : PySem.W.codeIn K cd151 "_law_code" = true)
    (k_law_code : PySem.W.keepIn K (.ref f144) = true)
    (a_law_is_whole : PySem.W.nsIn K mainGlobals "_law_is_whole" = some (some (.ref f154)))
    (l_law_is_whole : K.lookup f154 = some ⟨oc158, od155, .func (PySem.W.fnOf "_law_is_whole" "_law_is_whole" (defArgs s_law_is_whole) (defBody s_law_is_whole) (defScope s_law_is_whole) .none kV163 dc159 pm160 an156 cd161 ct162), sl157⟩)
    (c_law_is_whole : PySem.W.codeIn K cd161 "_law_is_whole" = true)
    (k_law_is_whole : PySem.W.keepIn K (.ref f154) = true)
    (a_law_is_name : PySem.W.nsIn K mainGlobals "_law_is_name" = some (some (.ref f164)))
    (l_law_is_name : K.lookup f164 = some ⟨oc168, od165, .func (PySem.W.fnOf "_law_is_name" "_law_is_name" (defArgs s_law_is_name) (defBody s_law_is_name) (defScope s_law_is_name) .none kV173 dc169 pm170 an166 cd171 ct172), sl167⟩)
    (c_law_is_name : PySem.W.codeIn K cd171 "_law_is_name" = true)
    (k_law_is_name : PySem.W.keepIn K (.ref f164) = true)
    (a_law_is_thing : PySem.W.nsIn K mainGlobals "_law_is_thing" = some (some (.ref f174)))
    (l_law_is_thing : K.lookup f174 = some ⟨oc178, od175, .func (PySem.W.fnOf "_law_is_thing" "_law_is_thing" (defArgs s_law_is_thing) (defBody s_law_is_thing) (defScope s_law_is_thing) .none kV183 dc179 pm180 an176 cd181 ct182), sl177⟩)
    (c_law_is_thing : PySem.W.codeIn K cd181 "_law_is_thing" = true)
    (k_law_is_thing : PySem.W.keepIn K (.ref f174) = true)
    (a_law_size : PySem.W.nsIn K mainGlobals "_law_size" = some (some (.ref f184)))
    (l_law_size : K.lookup f184 = some ⟨oc188, od185, .func (PySem.W.fnOf "_law_size" "_law_size" (defArgs s_law_size) (defBody s_law_size) (defScope s_law_size) .none kV193 dc189 pm190 an186 cd191 ct192), sl187⟩)
    (c_law_size : PySem.W.codeIn K cd191 "_law_size" = true)
    (k_law_size : PySem.W.keepIn K (.ref f184) = true)
    (a_law_is_program : PySem.W.nsIn K mainGlobals "_law_is_program" = some (some (.ref f194)))
    (l_law_is_program : K.lookup f194 = some ⟨oc198, od195, .func (PySem.W.fnOf "_law_is_program" "_law_is_program" (defArgs s_law_is_program) (defBody s_law_is_program) (defScope s_law_is_program) .none kV203 dc199 pm200 an196 cd201 ct202), sl197⟩)
    (c_law_is_program : PySem.W.codeIn K cd201 "_law_is_program" = true)
    (k_law_is_program : PySem.W.keepIn K (.ref f194) = true)
    (a_law_odd : PySem.W.nsIn K mainGlobals "_law_odd" = some (some (.ref f204)))
    (l_law_odd : K.lookup f204 = some ⟨oc208, od205, .func (PySem.W.fnOf "_law_odd" "_law_odd" (defArgs s_law_odd) (defBody s_law_odd) (defScope s_law_odd) .none kV213 dc209 pm210 an206 cd211 ct212), sl207⟩)
    (c_law_odd : PySem.W.codeIn K cd211 "_law_odd" = true)
    (k_law_odd : PySem.W.keepIn K (.ref f204) = true)
    (a_law_bent : PySem.W.nsIn K mainGlobals "_law_bent" = some (some (.ref f214)))
    (l_law_bent : K.lookup f214 = some ⟨oc218, od215, .func (PySem.W.fnOf "_law_bent" "_law_bent" (defArgs s_law_bent) (defBody s_law_bent) (defScope s_law_bent) .none kV223 dc219 pm220 an216 cd221 ct222), sl217⟩)
    (c_law_bent : PySem.W.codeIn K cd221 "_law_bent" = true)
    (k_law_bent : PySem.W.keepIn K (.ref f214) = true)
    (a_law_right : PySem.W.nsIn K mainGlobals "_law_right" = some (some (.ref f224)))
    (l_law_right : K.lookup f224 = some ⟨oc228, od225, .func (PySem.W.fnOf "_law_right" "_law_right" (defArgs s_law_right) (defBody s_law_right) (defScope s_law_right) .none kV233 dc229 pm230 an226 cd231 ct232), sl227⟩)
    (c_law_right : PySem.W.codeIn K cd231 "_law_right" = true)
    (k_law_right : PySem.W.keepIn K (.ref f224) = true)
    (a_law : PySem.W.nsIn K mainGlobals "law" = some (some (.ref f234)))
    (l_law : K.lookup f234 = some ⟨oc238, od235, .func (PySem.W.fnOf "law" "law" (defArgs s_law) (defBody s_law) (defScope s_law) .none kV243 dc239 pm240 an236 cd241 ct242), sl237⟩)
    (c_law : PySem.W.codeIn K cd241 "law" = true)
    (k_law : PySem.W.keepIn K (.ref f234) = true)
    (z_abs : PySem.W.nsIn K mainGlobals "abs" = some none)
    (z_all : PySem.W.nsIn K mainGlobals "all" = some none)
    (z_bool : PySem.W.nsIn K mainGlobals "bool" = some none)
    (z_int : PySem.W.nsIn K mainGlobals "int" = some none)
    (z_isinstance : PySem.W.nsIn K mainGlobals "isinstance" = some none)
    (z_len : PySem.W.nsIn K mainGlobals "len" = some none)
    (z_list : PySem.W.nsIn K mainGlobals "list" = some none)
    (z_max : PySem.W.nsIn K mainGlobals "max" = some none)
    (z_min : PySem.W.nsIn K mainGlobals "min" = some none)
    (z_range : PySem.W.nsIn K mainGlobals "range" = some none)
    (z_repr : PySem.W.nsIn K mainGlobals "repr" = some none)
    (z_str : PySem.W.nsIn K mainGlobals "str" = some none)
    (z_sum : PySem.W.nsIn K mainGlobals "sum" = some none)
    (z_tuple : PySem.W.nsIn K mainGlobals "tuple" = some none)
    (x_LETTERS : PySem.W.nsIn K mainGlobals "LETTERS" = some (some (.str "abcdefghijklmnopqrstuvwxyz" t244)))
    (x_MOST_DEEP : PySem.W.nsIn K mainGlobals "MOST_DEEP" = some (some (.int 10 t245)))
    (x_MOST_SIGNS : PySem.W.nsIn K mainGlobals "MOST_SIGNS" = some (some (.int 8 t246)))
    (x_MOST_THINGS : PySem.W.nsIn K mainGlobals "MOST_THINGS" = some (some (.int 60 t247)))
    (x_NAME : PySem.W.nsIn K mainGlobals "NAME" = some (some (.str "name" t248)))
    (x_NUM : PySem.W.nsIn K mainGlobals "NUM" = some (some (.str "num" t249)))
    (x_ROW : PySem.W.nsIn K mainGlobals "ROW" = some (some (.str "row" t250)))
    (x_SHAPES : PySem.W.nsIn K mainGlobals "SHAPES" = some (some (.ref a251)))
    (l_SHAPES : K.lookup a251 = some ⟨.type "dict", none, .dict (List.toArray [⟨h252, .str "plus" t253, (.ref a254)⟩, ⟨h260, .str "times" t261, (.ref a262)⟩, ⟨h268, .str "most" t269, (.ref a270)⟩, ⟨h276, .str "row" t277, (.ref a278)⟩, ⟨h284, .str "say" t285, (.ref a286)⟩, ⟨h292, .str "less" t293, (.ref a294)⟩, ⟨h300, .str "below" t301, (.ref a302)⟩, ⟨h308, .str "if" t309, (.ref a310)⟩, ⟨h316, .str "let" t317, (.ref a318)⟩, ⟨h324, .str "each" t325, (.ref a326)⟩]) n332, #[]⟩)
    (l_SHAPES_0 : K.lookup a254 = some ⟨.type "tuple", dd257, .seq (List.toArray [(.int 1 t255), (.int 6 t256), (.bool false)]) n258, sl259⟩)
    (l_SHAPES_1 : K.lookup a262 = some ⟨.type "tuple", dd265, .seq (List.toArray [(.int 1 t263), (.int 6 t264), (.bool false)]) n266, sl267⟩)
    (l_SHAPES_2 : K.lookup a270 = some ⟨.type "tuple", dd273, .seq (List.toArray [(.int 1 t271), (.int 6 t272), (.bool false)]) n274, sl275⟩)
    (l_SHAPES_3 : K.lookup a278 = some ⟨.type "tuple", dd281, .seq (List.toArray [(.int 0 t279), (.int 6 t280), (.bool false)]) n282, sl283⟩)
    (l_SHAPES_4 : K.lookup a286 = some ⟨.type "tuple", dd289, .seq (List.toArray [(.int 1 t287), (.int 1 t288), (.bool false)]) n290, sl291⟩)
    (l_SHAPES_5 : K.lookup a294 = some ⟨.type "tuple", dd297, .seq (List.toArray [(.int 2 t295), (.int 2 t296), (.bool false)]) n298, sl299⟩)
    (l_SHAPES_6 : K.lookup a302 = some ⟨.type "tuple", dd305, .seq (List.toArray [(.int 2 t303), (.int 2 t304), (.bool false)]) n306, sl307⟩)
    (l_SHAPES_7 : K.lookup a310 = some ⟨.type "tuple", dd313, .seq (List.toArray [(.int 3 t311), (.int 3 t312), (.bool false)]) n314, sl315⟩)
    (l_SHAPES_8 : K.lookup a318 = some ⟨.type "tuple", dd321, .seq (List.toArray [(.int 2 t319), (.int 2 t320), (.bool true)]) n322, sl323⟩)
    (l_SHAPES_9 : K.lookup a326 = some ⟨.type "tuple", dd329, .seq (List.toArray [(.int 2 t327), (.int 2 t328), (.bool true)]) n330, sl331⟩)
    (m_SHAPES : (a251 == sysModules) = false)
    (h_SHAPES_9 : h324 = PyData.keyHash w.params "each")
    (h_SHAPES_8 : h316 = PyData.keyHash w.params "let")
    (h_SHAPES_7 : h308 = PyData.keyHash w.params "if")
    (h_SHAPES_6 : h300 = PyData.keyHash w.params "below")
    (h_SHAPES_5 : h292 = PyData.keyHash w.params "less")
    (h_SHAPES_4 : h284 = PyData.keyHash w.params "say")
    (h_SHAPES_3 : h276 = PyData.keyHash w.params "row")
    (h_SHAPES_2 : h268 = PyData.keyHash w.params "most")
    (h_SHAPES_1 : h260 = PyData.keyHash w.params "times")
    (h_SHAPES_0 : h252 = PyData.keyHash w.params "plus")
    (x_WORDS : PySem.W.nsIn K mainGlobals "WORDS" = some (some (.ref a333)))
    (l_WORDS : K.lookup a333 = some ⟨.type "tuple", dd350, .seq (List.toArray [(.str "plus" t334), (.str "times" t335), (.str "most" t336), (.str "row" t337), (.str "say" t338), (.str "less" t339), (.str "below" t340), (.str "if" t341), (.str "let" t342), (.str "each" t343), (.str "num" t344), (.str "name" t345), (.str "any" t346), (.str "rest" t347), (.str "called" t348), (.str "count" t349)]) n351, sl352⟩)
    : ∃ fd : FuncData, (∀ (s : Shared) (v : Value), BindsTo s fd ⟨[v], []⟩ [("_law_script", v)]) ∧ ∀ base : Heap, K.In base → base.Ns mainGlobals mg → (∃ o, base.get? sysModules = some o) → FnG l.prog w K mg base 100 fa fd ["_law_script"] (spLaw K) := by
  have e := hfa.symm.trans (PySem.W.mg_of X G a_law)
  cases e
  have F_is_whole := funD_mk (K := K) (kws := []) l_is_whole c_is_whole k_is_whole kw_none
  have F_is_number := funD_mk (K := K) (kws := [("low", .int 0), ("high", .int 9972)]) l_is_number c_is_number k_is_number (kw_some (kw_cons w_is_number_low ⟨_, rfl⟩ (kw_cons w_is_number_high ⟨_, rfl⟩ kw_nil)))
  have F_is_name := funD_mk (K := K) (kws := []) l_is_name c_is_name k_is_name kw_none
  have F_is_leaf := funD_mk (K := K) (kws := []) l_is_leaf c_is_leaf k_is_leaf kw_none
  have F_is_mark := funD_mk (K := K) (kws := []) l_is_mark c_is_mark k_is_mark kw_none
  have F_is_thing_with := funD_mk (K := K) (kws := [("widest", .int 6)]) l_is_thing_with c_is_thing_with k_is_thing_with (kw_some (kw_cons w_is_thing_with_widest ⟨_, rfl⟩ kw_nil))
  have F_count_of := funD_mk (K := K) (kws := []) l_count_of c_count_of k_count_of kw_none
  have F_is_program := funD_mk (K := K) (kws := []) l_is_program c_is_program k_is_program kw_none
  have F_law_hand := funD_mk (K := K) (kws := []) l_law_hand c_law_hand k_law_hand kw_none
  have F_law_take := funD_mk (K := K) (kws := []) l_law_take c_law_take k_law_take kw_none
  have F_law_pick := funD_mk (K := K) (kws := []) l_law_pick c_law_pick k_law_pick kw_none
  have F_law_called := funD_mk (K := K) (kws := []) l_law_called c_law_called k_law_called kw_none
  have F_law_digit := funD_mk (K := K) (kws := []) l_law_digit c_law_digit k_law_digit kw_none
  have F_law_grown := funD_mk (K := K) (kws := []) l_law_grown c_law_grown k_law_grown kw_none
  have F_law_code := funD_mk (K := K) (kws := []) l_law_code c_law_code k_law_code kw_none
  have F_law_is_whole := funD_mk (K := K) (kws := []) l_law_is_whole c_law_is_whole k_law_is_whole kw_none
  have F_law_is_name := funD_mk (K := K) (kws := []) l_law_is_name c_law_is_name k_law_is_name kw_none
  have F_law_is_thing := funD_mk (K := K) (kws := []) l_law_is_thing c_law_is_thing k_law_is_thing kw_none
  have F_law_size := funD_mk (K := K) (kws := []) l_law_size c_law_size k_law_size kw_none
  have F_law_is_program := funD_mk (K := K) (kws := []) l_law_is_program c_law_is_program k_law_is_program kw_none
  have F_law_odd := funD_mk (K := K) (kws := []) l_law_odd c_law_odd k_law_odd kw_none
  have F_law_bent := funD_mk (K := K) (kws := []) l_law_bent c_law_bent k_law_bent kw_none
  have F_law_right := funD_mk (K := K) (kws := []) l_law_right c_law_right k_law_right kw_none
  have F_law := funD_mk (K := K) (kws := []) l_law c_law k_law kw_none
  have T : Txt K w mg (fun i => ([f1, f11, f23, f33, f43, f53, f64, f74, f84, f94, f104, f114, f124, f134, f144, f154, f164, f174, f184, f194, f204, f214, f224, fa] : List Addr).getD i 0) (fdOf _ _ _ _ _ _ _ _ _ _ _ _ _ _ _ _ _ _ _ _ _ _ _ _) := {
    z_abs := PySem.W.mg_none_of X G z_abs,
    z_all := PySem.W.mg_none_of X G z_all,
    z_bool := PySem.W.mg_none_of X G z_bool,
    z_int := PySem.W.mg_none_of X G z_int,
    z_isinstance := PySem.W.mg_none_of X G z_isinstance,
    z_len := PySem.W.mg_none_of X G z_len,
    z_list := PySem.W.mg_none_of X G z_list,
    z_max := PySem.W.mg_none_of X G z_max,
    z_min := PySem.W.mg_none_of X G z_min,
    z_range := PySem.W.mg_none_of X G z_range,
    z_repr := PySem.W.mg_none_of X G z_repr,
    z_str := PySem.W.mg_none_of X G z_str,
    z_sum := PySem.W.mg_none_of X G z_sum,
    z_tuple := PySem.W.mg_none_of X G z_tuple,
    c_LETTERS := grep_of (PySem.W.mg_of X G x_LETTERS) kv_str,
    c_MOST_DEEP := grep_of (PySem.W.mg_of X G x_MOST_DEEP) kv_int,
    c_MOST_SIGNS := grep_of (PySem.W.mg_of X G x_MOST_SIGNS) kv_int,
    c_MOST_THINGS := grep_of (PySem.W.mg_of X G x_MOST_THINGS) kv_int,
    c_NAME := grep_of (PySem.W.mg_of X G x_NAME) kv_str,
    c_NUM := grep_of (PySem.W.mg_of X G x_NUM) kv_str,
    c_ROW := grep_of (PySem.W.mg_of X G x_ROW) kv_str,
    c_SHAPES := grep_of (PySem.W.mg_of X G x_SHAPES) (kv_kd l_SHAPES m_SHAPES (ke_cons h_SHAPES_0 (ke_cons h_SHAPES_1 (ke_cons h_SHAPES_2 (ke_cons h_SHAPES_3 (ke_cons h_SHAPES_4 (ke_cons h_SHAPES_5 (ke_cons h_SHAPES_6 (ke_cons h_SHAPES_7 (ke_cons h_SHAPES_8 (ke_cons h_SHAPES_9 ke_nil)))))))))) (kvs_cons (kv_tup l_SHAPES_0 (kvs_cons kv_int (kvs_cons kv_int (kvs_cons kv_bl kvs_nil)))) (kvs_cons (kv_tup l_SHAPES_1 (kvs_cons kv_int (kvs_cons kv_int (kvs_cons kv_bl kvs_nil)))) (kvs_cons (kv_tup l_SHAPES_2 (kvs_cons kv_int (kvs_cons kv_int (kvs_cons kv_bl kvs_nil)))) (kvs_cons (kv_tup l_SHAPES_3 (kvs_cons kv_int (kvs_cons kv_int (kvs_cons kv_bl kvs_nil)))) (kvs_cons (kv_tup l_SHAPES_4 (kvs_cons kv_int (kvs_cons kv_int (kvs_cons kv_bl kvs_nil)))) (kvs_cons (kv_tup l_SHAPES_5 (kvs_cons kv_int (kvs_cons kv_int (kvs_cons kv_bl kvs_nil)))) (kvs_cons (kv_tup l_SHAPES_6 (kvs_cons kv_int (kvs_cons kv_int (kvs_cons kv_bl kvs_nil)))) (kvs_cons (kv_tup l_SHAPES_7 (kvs_cons kv_int (kvs_cons kv_int (kvs_cons kv_bl kvs_nil)))) (kvs_cons (kv_tup l_SHAPES_8 (kvs_cons kv_int (kvs_cons kv_int (kvs_cons kv_bl kvs_nil)))) (kvs_cons (kv_tup l_SHAPES_9 (kvs_cons kv_int (kvs_cons kv_int (kvs_cons kv_bl kvs_nil)))) kvs_nil))))))))))),
    c_WORDS := grep_of (PySem.W.mg_of X G x_WORDS) (kv_tup l_WORDS (kvs_cons kv_str (kvs_cons kv_str (kvs_cons kv_str (kvs_cons kv_str (kvs_cons kv_str (kvs_cons kv_str (kvs_cons kv_str (kvs_cons kv_str (kvs_cons kv_str (kvs_cons kv_str (kvs_cons kv_str (kvs_cons kv_str (kvs_cons kv_str (kvs_cons kv_str (kvs_cons kv_str (kvs_cons kv_str kvs_nil))))))))))))))))),
    g_is_whole := PySem.W.mg_of X G a_is_whole,
    F_is_whole := F_is_whole,
    g_is_number := PySem.W.mg_of X G a_is_number,
    F_is_number := F_is_number,
    g_is_name := PySem.W.mg_of X G a_is_name,
    F_is_name := F_is_name,
    g_is_leaf := PySem.W.mg_of X G a_is_leaf,
    F_is_leaf := F_is_leaf,
    g_is_mark := PySem.W.mg_of X G a_is_mark,
    F_is_mark := F_is_mark,
    g_is_thing_with := PySem.W.mg_of X G a_is_thing_with,
    F_is_thing_with := F_is_thing_with,
    g_count_of := PySem.W.mg_of X G a_count_of,
    F_count_of := F_count_of,
    g_is_program := PySem.W.mg_of X G a_is_program,
    F_is_program := F_is_program,
    g_law_hand := PySem.W.mg_of X G a_law_hand,
    F_law_hand := F_law_hand,
    g_law_take := PySem.W.mg_of X G a_law_take,
    F_law_take := F_law_take,
    g_law_pick := PySem.W.mg_of X G a_law_pick,
    F_law_pick := F_law_pick,
    g_law_called := PySem.W.mg_of X G a_law_called,
    F_law_called := F_law_called,
    g_law_digit := PySem.W.mg_of X G a_law_digit,
    F_law_digit := F_law_digit,
    g_law_grown := PySem.W.mg_of X G a_law_grown,
    F_law_grown := F_law_grown,
    g_law_code := PySem.W.mg_of X G a_law_code,
    F_law_code := F_law_code,
    g_law_is_whole := PySem.W.mg_of X G a_law_is_whole,
    F_law_is_whole := F_law_is_whole,
    g_law_is_name := PySem.W.mg_of X G a_law_is_name,
    F_law_is_name := F_law_is_name,
    g_law_is_thing := PySem.W.mg_of X G a_law_is_thing,
    F_law_is_thing := F_law_is_thing,
    g_law_size := PySem.W.mg_of X G a_law_size,
    F_law_size := F_law_size,
    g_law_is_program := PySem.W.mg_of X G a_law_is_program,
    F_law_is_program := F_law_is_program,
    g_law_odd := PySem.W.mg_of X G a_law_odd,
    F_law_odd := F_law_odd,
    g_law_bent := PySem.W.mg_of X G a_law_bent,
    F_law_bent := F_law_bent,
    g_law_right := PySem.W.mg_of X G a_law_right,
    F_law_right := F_law_right,
    g_law := PySem.W.mg_of X G a_law,
    F_law := F_law }
  exact ⟨_, fun s v => .of_eq rfl, fun base _ _ hM => law_ok (G := ⟨K, w, mg⟩) (all (P := l.prog) (base := base) hM T 100).c_law.1 TT⟩
end K01
set_option Elab.async false
set_option linter.all false
set_option maxRecDepth 100000
set_option maxHeartbeats 4000000
namespace K01
open PySem L2 L3
local macro_rules | `(tactic| open_k) => `(tactic| simp only [ssat_seq, ssat_asg, ssat_sRet, ssat_sExpr, ssat_if, ssat_skip, ssat_par, ssat_nx, ssat_ret, ssat_for, sat_e2, sat_e1, sat_eN, sat_aCons, sat_aNil, sat_eVar, sat_eK, sat_tOfE, sat_tTruth, sat_tNot, sat_tAnd, sat_tOr, sat_eIf, sat_eBM, sat_iSeq, sat_iArgs, sat_eAnd, sat_eOr, sat_eNot, sat_eChain, sat_eSl, sat_pNo, sat_pYes, sat_eLc, sat_eKw, sat_mkTup, sat_mkLst, sat_mkObj, sat_ok, callK_eq, List.append_nil, List.map_cons, List.map_nil, List.length_cons, List.length_nil, List.replicate, List.getElem?_cons_succ, List.getElem?_cons_zero, List.cons_append, List.nil_append, List.set_cons_succ, List.set_cons_zero, gName_eq, gTup_tup, gNames_cons, gNames_nil, Nat.zero_add, Nat.reduceAdd, Nat.reduceSub, sz0, sz1, sz2, sz3, sz4, sz5, sz6, sz7, sz8, sz10, sz17, true_and, add_int, sub_int, neg_int, lt_int, le_int, gt_int, ge_int, eq_int, ne_int, blD_bl, truthD_bl, itemsD_lst, itemsD_tup, wipeD, eq_strs, ne_strs, sl_tup, sl_lst, if_true, if_false, Bool.false_eq_true, sat_range1, sat_range2, tuple_lst, tuple_tup, len_tup, len_lst, len_scr, D.int.injEq, exists_eq_left', mt_str])
variable {S : Store} {n : Nat}
theorem mem_tup {s : Str} (h : asc s = true) : inD (.str s) c_WORDS S = .ok (.bl (decide (s ∈ WORDS))) S := by
  have ws : toPyL (WORDS.map .str) = some (WORDS.map .str) := by kernel_rfl
  have e : memD (.str s) c_WORDS S = some (decide (s ∈ WORDS)) := by
    show memData (toPy (.str s)) (toPy (.tup (WORDS.map .str))) = _
    simp only [memData, toPy, asc_ok h, if_true, ws, Option.map_some]
    rw [if_pos (show (PyData.str s).depth ≤ 64 by simp [PyData.depth])]
    congr 1
    rw [Bool.eq_iff_iff]
    simp only [List.any_map, List.any_eq_true, Function.comp, decide_eq_true_eq, PyData.eqv]
    constructor
    · rintro ⟨x, hx, e⟩
      have : x = s := by simpa using e
      exact this ▸ hx
    · intro hx
      exact ⟨s, hx, by simp⟩
  unfold inD
  rw [e]
theorem lets {s : Str} {te : ED} {env : EnvD} {i : Nat} (ht : ∀ c S, (te (env.set i (some (sgn c))) S).sat fun d S' => d = .bl (isLet c) ∧ S' = S) {Q : List D → Store → Prop}
    (hQ : Q ((s.cps.toList.map isLet).map D.bl) S) : lcSat (gName i) tYesD te env (s.cps.toList.map sgn) S Q := by
  generalize s.cps.toList = l at *
  induction l generalizing Q with
  | nil => exact hQ
  | cons c l ih =>
    unfold lcSat
    simp only [List.map_cons, L3.gName, tYesD, sat_ok, if_true]
    refine sat_mono (ht c S) fun y S3 h => ?_
    obtain ⟨rfl, rfl⟩ := h
    exact ih hQ
theorem isNm_no {s : Str} (h : ¬ (1 ≤ s.length ∧ s.length ≤ 8 ∧ s ∉ WORDS)) : isNm (.str s) = false := by
  show (decide (1 ≤ s.length) && decide (s.length ≤ 8) && !decide (s ∈ WORDS) && s.cps.toList.all isLet) = false
  have : (decide (1 ≤ s.length) && decide (s.length ≤ 8) && !decide (s ∈ WORDS)) = false := by
    rw [Bool.eq_false_iff]
    intro e
    simp only [Bool.and_eq_true, decide_eq_true_eq, Bool.not_eq_true', decide_eq_false_iff_not] at e
    exact h ⟨e.1.1, e.1.2, e.2⟩
  rw [this]; rfl
theorem isNm_yes {s : Str} (h1 : 1 ≤ s.length) (h2 : s.length ≤ 8) (h3 : s ∉ WORDS) : isNm (.str s) = (s.cps.toList.map isLet).all id := by
  show (decide (1 ≤ s.length) && decide (s.length ≤ 8) && !decide (s ∈ WORDS) && s.cps.toList.all isLet) = _
  rw [decide_eq_true h1, decide_eq_true h2, decide_eq_false h3, List.all_map]
  rfl
theorem nm (k : Nat) {B : Nat} {d : D} (h : U B d) : Fs (k + 1) 2 [d] S = .ok (.bl (isNm d)) S := by
  apply of_sat
  rw [Fs_is_name, sat_run]
  refine ⟨rfl, ?_⟩
  unfold m_is_name
  cases h with
  | @str s hs =>
    have l9 := asc_len hs
    by_cases h1 : 1 ≤ s.length
    · by_cases h2 : s.length ≤ 8
      · by_cases h3 : s ∈ WORDS
        · rw [isNm_no (by simp [h3])]
          simp [mem_tup hs, len_s (Nat.le_trans l9 (by decide)), c_MOST_SIGNS, h3]
        · rw [isNm_yes h1 h2 h3]
          have h1' : (1 : Int) ≤ s.length := by omega
          have h2' : (s.length : Int) ≤ 8 := by omega
          simp only [ssat_seq, ssat_if, sat_tOr, sat_tNot, sat_tTruth, sat_tOfE, sat_eN, sat_aCons, sat_aNil, sat_eVar, sat_eK, List.map_cons, List.map_nil, List.cons_append, List.nil_append, List.getElem?_cons_zero, isi_str, sat_ok, truthD_bl, Bool.not_true, Bool.false_eq_true, if_false, sat_eChain, len_s (Nat.le_trans l9 (by decide)), c_MOST_SIGNS, le_int, blD_bl, h1', h2', decide_true, if_true, sat_e2, mem_tup hs, h3, decide_false, ssat_skip, ssat_sRet, sat_eLc, sat_iSeq, items_str (Nat.le_trans l9 (by decide)), wipeD, List.length_cons, List.length_nil, Nat.zero_add, Nat.reduceSub, List.replicate, List.set_cons_succ, List.set_cons_zero, List.length_map]
          refine ⟨small (by show s.cps.size ≤ 1000; exact Nat.le_trans l9 (by decide)), ?_⟩
          refine lets (fun c S => ?_) ?_
          · simp [c_LETTERS]
            exact to_sat in_let ⟨rfl, rfl⟩
          · rw [all_bl, sat_ok]; exact ⟨rfl, rfl⟩
      · rw [isNm_no (by simp [h2])]
        simp [mem_tup hs, len_s (Nat.le_trans l9 (by decide)), c_MOST_SIGNS, h2]
        omega
    · rw [isNm_no (by simp [h1])]
      simp [mem_tup hs, len_s (Nat.le_trans l9 (by decide)), c_MOST_SIGNS, h1]
      omega
  | _ => simp [isNm]
theorem num (k : Nat) {B : Nat} {d : D} (h : U B d) : Fs (k + 2) 1 [d, .int 0, .int 9972] S = .ok (.bl (isNum d)) S := by
  have w : ∀ S, Fs (k + 1) 0 [d] S = .ok (.bl (match d with | .int _ => true | _ => false)) S := fun S => by
    apply of_sat
    rw [Fs_is_whole, sat_run]
    refine ⟨rfl, ?_⟩
    unfold m_is_whole
    cases h <;> simp
  apply of_sat
  rw [Fs_is_number, sat_run]
  refine ⟨rfl, ?_⟩
  unfold m_is_number
  cases h with
  | @int i h0 h1 =>
    simp [w, isNum]
    by_cases a : 0 ≤ i <;> simp [a]
  | _ => simp [w, isNum]
theorem mark (k : Nat) {B : Nat} {d : D} {g : Bool} (h : U B d) : Fs (k + 2) 4 [.bl g, d] S = .ok (.bl (if g = true then isNm d else isEmp d)) S := by
  apply of_sat
  rw [Fs_is_mark, sat_run]
  refine ⟨rfl, ?_⟩
  unfold m_is_mark
  cases g with
  | true => simp [nm k h]
  | false =>
    cases h with
    | @str s hs => simp [isEmp]; rfl
    | _ => simp [isEmp]
def leafOk (w : Str) (m : D) (ps : List D) : Bool := ps.isEmpty && ((w == "num" && isNum m) || (w == "name" && isNm m))
theorem leaf (k : Nat) {w : Str} {m : D} {ps : List D} {B : Nat} (hm : U B m) : Fs (k + 3) 3 [.tup [.str w, m, .tup ps]] S = .ok (.bl (leafOk w m ps)) S := by
  apply of_sat
  rw [Fs_is_leaf, sat_run]
  refine ⟨rfl, ?_⟩
  unfold m_is_leaf
  have e1 := fun S => num (S := S) k hm
  have e2 := fun S => nm (S := S) (k + 1) hm
  simp [leafOk, c_NUM, c_NAME]
  cases ps with
  | cons p ps => simp
  | nil =>
    simp
    by_cases h1 : w = "num"
    · simp [h1, e1, e2]
      have : ("num" : Str) ≠ "name" := by decide +kernel
      cases isNum m <;> simp [this]
    · simp [h1, e1, e2]
      by_cases h2 : w = "name"
      · have : ("name" : Str) ≠ "num" := by decide +kernel
        simp [h2, e2, this]
      · simp [h2]
end K01
set_option Elab.async false
set_option linter.all false
set_option maxRecDepth 100000
set_option maxHeartbeats 4000000
namespace K01
open PySem L2 L3
variable {S : Store} {n : Nat}
theorem lc_map {te : ED} {env : EnvD} {i : Nat} (f : D → D) : ∀ {xs : List D}, (∀ x ∈ xs, ∀ S, (te (env.set i (some x)) S).sat fun d S' => d = f x ∧ S' = S) → ∀ {S : Store} {Q : List D → Store → Prop}, Q (xs.map f) S → lcSat (L3.gName i) tYesD te env xs S Q
  | [], _, _, _, hQ => hQ
  | x :: xs, ht, S, Q, hQ => by
    unfold lcSat
    simp only [L3.gName, tYesD, sat_ok, if_true]
    refine sat_mono (ht x (List.mem_cons_self ..) S) fun y S3 h => ?_
    obtain ⟨rfl, rfl⟩ := h
    exact lc_map f (fun x hx => ht x (List.mem_cons_of_mem _ hx)) hQ
def shp (q : Nat × Nat × Bool) : D := .tup [.int q.1, .int q.2.1, .bl q.2.2]
theorem kd_shape (w : Str) : kdAt ["plus", "times", "most", "row", "say", "less", "below", "if", "let", "each"] [(.tup [(.int 1), (.int 6), (.bl false)]), (.tup [(.int 1), (.int 6), (.bl false)]), (.tup [(.int 1), (.int 6), (.bl false)]), (.tup [(.int 0), (.int 6), (.bl false)]), (.tup [(.int 1), (.int 1), (.bl false)]), (.tup [(.int 2), (.int 2), (.bl false)]), (.tup [(.int 2), (.int 2), (.bl false)]), (.tup [(.int 3), (.int 3), (.bl false)]), (.tup [(.int 2), (.int 2), (.bl true)]), (.tup [(.int 2), (.int 2), (.bl true)])] w = (shape w).map shp := by
  by_cases h1 : w = "plus"; · subst h1; kernel_rfl
  by_cases h2 : w = "times"; · subst h2; kernel_rfl
  by_cases h3 : w = "most"; · subst h3; kernel_rfl
  by_cases h4 : w = "row"; · subst h4; kernel_rfl
  by_cases h5 : w = "say"; · subst h5; kernel_rfl
  by_cases h6 : w = "less"; · subst h6; kernel_rfl
  by_cases h7 : w = "below"; · subst h7; kernel_rfl
  by_cases h8 : w = "if"; · subst h8; kernel_rfl
  by_cases h9 : w = "let"; · subst h9; kernel_rfl
  by_cases h10 : w = "each"; · subst h10; kernel_rfl
  simp [kdAt, shape, h1, h2, h3, h4, h5, h6, h7, h8, h9, h10]
theorem no_in {w : Str} : notInD (.str w) c_SHAPES S = .ok (.bl (!(shape w).isSome)) S := by
  have : memD (.str w) c_SHAPES S = some (shape w).isSome := by
    show memKd (.str w) _ _ = _
    simp only [memKd]
    rw [kd_shape]; simp
  unfold notInD; rw [this]
theorem ix_sh {w : Str} {q} (h : shape w = some q) : ixD c_SHAPES (.str w) S = .ok (shp q) S := by
  have : kdAt ["plus", "times", "most", "row", "say", "less", "below", "if", "let", "each"] [(.tup [(.int 1), (.int 6), (.bl false)]), (.tup [(.int 1), (.int 6), (.bl false)]), (.tup [(.int 1), (.int 6), (.bl false)]), (.tup [(.int 0), (.int 6), (.bl false)]), (.tup [(.int 1), (.int 1), (.bl false)]), (.tup [(.int 2), (.int 2), (.bl false)]), (.tup [(.int 2), (.int 2), (.bl false)]), (.tup [(.int 3), (.int 3), (.bl false)]), (.tup [(.int 2), (.int 2), (.bl true)]), (.tup [(.int 2), (.int 2), (.bl true)])] w = some (shp q) := by rw [kd_shape, h]; rfl
  unfold ixD c_SHAPES
  simp only [this]
theorem ok_not3 (k : Nat) {l : List D} (h : l.length ≠ 3) : ok k (.tup l) = false := by
  cases k with
  | zero => rfl
  | succ k =>
    unfold ok
    split <;> first | rfl | (rename_i e; cases e; exact absurd rfl h)
theorem thing {B : Nat} (hB : B ≤ 1000) : ∀ (deep k : Nat) {x : D} {S : Store}, U B x → Fs (k + 4 + deep) 5 [.glb "is_leaf", x, .int deep, .int 6] S = .ok (.bl (ok deep x)) S := by
  intro deep
  induction deep with
  | zero =>
    intro k x S h
    apply of_sat
    rw [show k + 4 + 0 = k + 3 + 1 from rfl, Fs_is_thing_with, sat_run]
    refine ⟨rfl, ?_⟩
    unfold m_is_thing_with
    simp [ok]
  | succ deep ih =>
    intro k x S h
    apply of_sat
    rw [show k + 4 + (deep + 1) = k + 4 + deep + 1 from rfl, Fs_is_thing_with, sat_run]
    refine ⟨rfl, ?_⟩
    have d1 : ¬ ((deep : Int) + 1 < 1) := by omega
    unfold m_is_thing_with
    cases h with
    | @tup l hll hl =>
      by_cases h3 : l.length = 3
      · match l, h3 with
        | [a, m, p], _ =>
          have ua := hl a (by simp)
          have um := hl m (by simp)
          have up := hl p (by simp)
          cases ua with
          | @str w hw =>
            cases up with
            | @tup ps hzz hps =>
              have wl := asc_len hw
              cases hq : shape w with
              | none =>
                have e := leaf (S := S) (k + 1 + deep) (w := w) (ps := ps) um
                rw [show k + 1 + deep + 3 = k + 4 + deep by omega] at e
                have hr : ok (deep + 1) (.tup [.str w, m, .tup ps]) = leafOk w m ps := by
                  simp only [ok, leafOk, fits, hq]
                  by_cases h1 : w = "num"
                  · have : (("num" : Str) == "name") = false := by decide +kernel
                    subst h1
                    simp only [if_true, this]
                    cases isNum m <;> cases ps <;> simp
                  · by_cases h2 : w = "name"
                    · have e : (w == ("name" : Str)) = true := beq_iff_eq.mpr h2
                      simp only [if_neg h1, if_pos h2, beq_false_of_ne h1, e]
                      cases isNm m <;> cases ps <;> simp
                    · simp only [if_neg h1, if_neg h2, beq_false_of_ne h1, beq_false_of_ne h2]
                      simp
                rw [hr]
                generalize leafOk w m ps = r at *
                simp [d1, no_in, ne_int, hq, e]
              | some q =>
                obtain ⟨f, mo, g⟩ := q
                obtain ⟨_, w1, w2⟩ := shape_word hq
                have hr : ok (deep + 1) (.tup [.str w, m, .tup ps]) = (decide (f ≤ ps.length) && decide (ps.length ≤ mo) && (if g = true then isNm m else isEmp m) && (ps.map (ok deep)).all id) := by
                  simp only [ok, fits, hq, if_neg w1, if_neg w2, List.all_map]
                  rfl
                rw [hr]
                have em := fun S => mark (S := S) (k + 2 + deep) (g := g) um
                rw [show k + 2 + deep + 2 = k + 4 + deep by omega] at em
                have last : ∀ (w' : D) S, (eLc (iSeq (eVar 6)) [10] (L3.gName 10) tYesD (eKw (kwK (Fs (k + 4 + deep) 5) 3 1 kbd_is_thing_with_3_widest_g) (aCons (eVar 0) (aCons (eVar 10) (aCons (e2 subD (eVar 2) (eK (D.int 1))) aNil))) (aCons (eVar 3) aNil))
                    [some (D.glb "is_leaf"), some (D.tup [D.str w, m, D.tup ps]), some (D.int ((deep : Int) + 1)), some (D.int 6), some (D.str w), some m, some (D.tup ps), some (D.int (f : Int)), some w', some (D.bl g), none] S).sat fun x S1 => x = .lst ((ps.map (ok deep)).map .bl) ∧ S1 = S := fun w' S => by
                  rw [sat_eLc]
                  simp only [sat_iSeq, sat_eVar, List.getElem?_cons_succ, List.getElem?_cons_zero, itemsD_tup, sat_ok, wipeD, List.length_cons, List.length_nil, Nat.zero_add, Nat.reduceAdd, Nat.reduceSub, List.replicate, List.set_cons_succ, List.set_cons_zero]
                  refine ⟨small (Nat.le_trans hzz hB), lc_map (fun x => .bl (ok deep x)) (fun x hx S => ?_) (by simp)⟩
                  simp only [sat_eKw, sat_aCons, sat_aNil, sat_eVar, sat_e2, sat_eK, List.getElem?_cons_succ, List.getElem?_cons_zero, List.set_cons_succ, List.set_cons_zero, sub_int, sat_ok, kwK, kbd_is_thing_with_3_widest_g, gath, List.length_cons, List.length_nil, Nat.zero_add, Nat.reduceAdd, and_self, if_true]
                  have := ih k (x := x) (S := S) (hps x hx)
                  rw [show ((deep : Int) + 1 - 1) = deep by omega]
                  exact to_sat this ⟨rfl, rfl⟩
                generalize (if g = true then isNm m else isEmp m) = M at *
                generalize (ps.map (ok deep)) = bs at *
                generalize hR : (decide (f ≤ ps.length) && decide (ps.length ≤ mo) && M && bs.all id) = r
                have fin : ∀ w' S', (f ≤ ps.length ∧ ps.length ≤ mo ∧ M = true) → ((eLc (iSeq (eVar 6)) [10] (L3.gName 10) tYesD (eKw (kwK (Fs (k + 4 + deep) 5) 3 1 kbd_is_thing_with_3_widest_g) (aCons (eVar 0) (aCons (eVar 10) (aCons (e2 subD (eVar 2) (eK (D.int 1))) aNil))) (aCons (eVar 3) aNil))
                    [some (D.glb "is_leaf"), some (D.tup [D.str w, m, D.tup ps]), some (D.int ((deep : Int) + 1)), some (D.int 6), some (D.str w), some m, some (D.tup ps), some (D.int (f : Int)), some w', some (D.bl g), none] S').sat fun x S1 => (allD [x] S1).sat fun d S'' => d = .bl r ∧ S'' = S') := by
                  rintro w' S' ⟨c1, c2, c3⟩
                  refine sat_mono (last w' S') fun x S1 ⟨e1, e2⟩ => ?_
                  subst e1 e2
                  rw [all_bl, sat_ok]
                  refine ⟨?_, rfl⟩
                  rw [← hR, c3, decide_eq_true c1, decide_eq_true c2]; rfl
                have nof : ¬ (f ≤ ps.length ∧ ps.length ≤ mo ∧ M = true) → r = false := by
                  intro h
                  rw [← hR]
                  have : (decide (f ≤ ps.length) && decide (ps.length ≤ mo) && M) = false := by
                    rw [Bool.eq_false_iff]
                    intro e
                    simp only [Bool.and_eq_true, decide_eq_true_eq] at e
                    exact h ⟨e.1.1, e.1.2, e.2⟩
                  rw [this]; rfl
                clear hr hR last
                by_cases hrow : w = "row"
                · have : f = 0 ∧ mo = 6 ∧ g = false := by
                    rw [hrow] at hq
                    have h2 : shape "row" = some (0, 6, false) := by decide +kernel
                    rw [h2] at hq
                    cases hq; exact ⟨rfl, rfl, rfl⟩
                  obtain ⟨rfl, rfl, rfl⟩ := this
                  simp [d1, no_in, ne_int, hq, ix_sh hq, shp, c_ROW, eq_true hrow, em]
                  by_cases c2 : ps.length ≤ 6
                  · rw [if_pos (by omega)]
                    by_cases c3 : M = true
                    · rw [if_pos c3]; exact fin _ S ⟨Nat.zero_le _, c2, c3⟩
                    · rw [if_neg c3]; exact nof fun h => c3 h.2.2
                  · rw [if_neg (by omega)]; exact nof fun h => c2 h.2.1
                · simp [d1, no_in, ne_int, hq, ix_sh hq, shp, c_ROW, eq_false hrow, em]
                  by_cases c1 : f ≤ ps.length
                  · rw [if_pos c1]
                    by_cases c2 : ps.length ≤ mo
                    · rw [if_pos c2]
                      by_cases c3 : M = true
                      · rw [if_pos c3]; exact fin _ S ⟨c1, c2, c3⟩
                      · rw [if_neg c3]; exact nof fun h => c3 h.2.2
                    · rw [if_neg c2]; exact nof fun h => c2 h.2.1
                  · rw [if_neg c1]; exact nof fun h => c1 h.1
            | _ => simp [d1, ok, ne_int]
          | _ => simp [d1, ok, ne_int]
      · rw [ok_not3 _ h3]
        have h3' : ¬ ((l.length : Int) = 3) := by omega
        simp [d1, h3', ne_int]
    | _ => simp [ok, d1, ne_int]
/-- what is a program has three parts -/
theorem ok_tup {k : Nat} {x : D} (h : ok (k + 1) x = true) : ∃ w m ps, x = .tup [.str w, m, .tup ps] ∧ ∀ p ∈ ps, ok k p = true := by
  unfold ok at h
  split at h
  · rename_i e; cases e
  · rename_i k' w m ps e1
    cases e1
    refine ⟨w, m, ps, rfl, fun p hp => ?_⟩
    split at h
    · simp only [Bool.and_eq_true, List.isEmpty_iff] at h; rw [h.2] at hp; cases hp
    split at h
    · simp only [Bool.and_eq_true, List.isEmpty_iff] at h; rw [h.2] at hp; cases hp
    · simp only [Bool.and_eq_true, List.all_eq_true] at h; exact h.2 p hp
  · cases h
theorem count_rule {B : Nat} (hB : B ≤ 1000) {f g : FN} {deep : Nat} (ih : ∀ {x : D} {S : Store}, U B x → ok deep x = true → f [x] S = .ok (.int (szz deep x)) S) {x : D} {S : Store} (h : U B x) (hk : ok (deep + 1) x = true) (hg : g = run 1 2 (sRet (e2 addD (eK (.int 1)) (eN sumD (aCons (eLc (iSeq (e2 ixD (eVar 0) (eK (.int 2)))) [1] (L3.gName 1) (tYesD) (eN (callK f []) (aCons (eVar 1) (aNil)))) (aNil)))))) :
    g [x] S = .ok (.int (szz (deep + 1) x)) S := by
  subst hg
  obtain ⟨w, m, ps, rfl, hp⟩ := ok_tup hk
  apply of_sat
  rw [sat_run]
  refine ⟨rfl, ?_⟩
  have up : U B (.tup ps) := by
    cases h with
    | tup hl hall => exact hall _ (by simp)
  cases up with
  | tup hz hps =>
    simp only [ssat_sRet, sat_e2, sat_eK, sat_eN, sat_aCons, sat_aNil, sat_eLc, sat_iSeq, sat_eVar, List.map_cons, List.map_nil, List.cons_append, List.nil_append, List.getElem?_cons_zero]
    rw [show ∀ S, ixD (.tup [.str w, m, .tup ps]) (.int 2) S = .ok (.tup ps) S from fun _ => rfl]
    simp only [sat_ok, itemsD_tup, wipeD, List.length_cons, List.length_nil, Nat.zero_add, Nat.reduceAdd, Nat.reduceSub, List.replicate, List.set_cons_succ, List.set_cons_zero]
    refine ⟨small (Nat.le_trans hz hB), lc_map (fun x => .int (szz deep x)) (fun x hx S => ?_) ?_⟩
    · simp only [sat_eN, sat_aCons, sat_aNil, sat_eVar, List.set_cons_succ, List.set_cons_zero, List.getElem?_cons_succ, List.getElem?_cons_zero, callK_eq, List.append_nil]
      exact to_sat (ih (hps x hx) (hp x hx)) ⟨rfl, rfl⟩
    · rw [show (ps.map fun x => D.int (szz deep x)) = (ps.map (szz deep)).map D.int by simp, sum_int, sat_ok, add_int, sat_ok]
      exact ⟨rfl, rfl⟩
theorem count {B : Nat} (hB : B ≤ 1000) : ∀ (deep k : Nat) {x : D} {S : Store}, U B x → ok deep x = true → Fs (k + 1 + deep) 6 [x] S = .ok (.int (szz deep x)) S
  | 0, k, x, S, h, hk => by cases hk
  | deep + 1, k, x, S, h, hk => count_rule hB (fun h' hk' => count hB deep k h' hk') h hk (by rw [show k + 1 + (deep + 1) = k + 1 + deep + 1 from rfl, Fs_count_of]; rfl)
theorem sized {B : Nat} (hB : B ≤ 1000) : ∀ (deep k : Nat) {x : D} {S : Store}, U B x → ok deep x = true → Fs (k + 1 + deep) 18 [x] S = .ok (.int (szz deep x)) S
  | 0, k, x, S, h, hk => by cases hk
  | deep + 1, k, x, S, h, hk => count_rule hB (fun h' hk' => sized hB deep k h' hk') h hk (by rw [show k + 1 + (deep + 1) = k + 1 + deep + 1 from rfl, Fs_law_size]; rfl)
def isPg (x : D) : Bool := ok 10 x && decide (szz 10 x ≤ 60)
theorem prog {B : Nat} (hB : B ≤ 1000) (k : Nat) {x : D} {S : Store} (h : U B x) : Fs (k + 16) 7 [x] S = .ok (.bl (isPg x)) S := by
  apply of_sat
  rw [show k + 16 = k + 15 + 1 from rfl, Fs_is_program, sat_run]
  refine ⟨rfl, ?_⟩
  unfold m_is_program
  have e1 := thing hB 10 (k + 1) (S := S) h
  have e2 := fun hk => count hB 10 (k + 4) (S := S) h hk
  rw [show k + 1 + 4 + 10 = k + 15 by omega] at e1
  rw [show k + 4 + 1 + 10 = k + 15 by omega] at e2
  simp only [ssat_sRet, sat_eAnd, sat_eN, sat_aCons, sat_aNil, sat_eK, sat_eVar, List.map_cons, List.map_nil, List.cons_append, List.nil_append, List.getElem?_cons_zero, callK_eq, c_MOST_DEEP]
  rw [show ((10 : Nat) : Int) = 10 from rfl] at e1
  rw [e1, sat_ok, blD_bl, sat_ok]
  unfold isPg
  cases hk : ok 10 x with
  | false => simp
  | true => simp [e2 hk, c_MOST_THINGS]
end K01
set_option Elab.async false
set_option linter.all false
set_option maxRecDepth 100000
set_option maxHeartbeats 4000000
namespace K01
open PySem L2 L3
variable {S : Store} {n : Nat}
theorem lwhole (k : Nat) {B : Nat} {d : D} (h : U B d) : Fs (k + 1) 15 [d, .int 9973] S = .ok (.bl (isNum d)) S := by
  apply of_sat
  rw [Fs_law_is_whole, sat_run]
  refine ⟨rfl, ?_⟩
  unfold m_law_is_whole
  cases h with
  | @int i h0 h1 =>
    simp [isNum]
    by_cases a : 0 ≤ i
    · simp [a]; omega
    · simp [a]
  | _ => simp [isNum]
theorem lname (k : Nat) {B : Nat} {d : D} (h : U B d) : Fs (k + 1) 16 [d] S = .ok (.bl (isNm d)) S := by
  apply of_sat
  rw [Fs_law_is_name, sat_run]
  refine ⟨rfl, ?_⟩
  unfold m_law_is_name
  rw [ssat_seq]
  simp only [ssat_asg, sat_eBM, sat_eK, mt_str, true_and, sat_aCons, sat_aNil, split_words, sat_ok, gName_eq, ssat_nx, List.map_cons, List.map_nil, List.cons_append, List.nil_append, List.length_cons, List.length_nil, Nat.zero_add, Nat.reduceSub, List.replicate, List.set_cons_succ, List.set_cons_zero]
  cases h with
  | @str s hs =>
    have l9 := asc_len hs
    have inw : ∀ S, inD (.str s) (.lst (WORDS.map .str)) S = .ok (.bl (decide (s ∈ WORDS))) S := fun S => by
      have e : memD (.str s) (.lst (WORDS.map .str)) S = some (decide (s ∈ WORDS)) := by
        have ws : toPyL (WORDS.map .str) = some (WORDS.map .str) := by kernel_rfl
        simp only [memD, memData, toPy, asc_ok hs, if_true, ws, Option.map_some]
        rw [if_pos (show (PyData.str s).depth ≤ 64 by simp [PyData.depth])]
        congr 1
        rw [Bool.eq_iff_iff]
        simp only [List.any_map, List.any_eq_true, Function.comp, decide_eq_true_eq, PyData.eqv]
        constructor
        · rintro ⟨x, hx, e⟩
          have : x = s := by simpa using e
          exact this ▸ hx
        · intro hx
          exact ⟨s, hx, by simp⟩
      unfold inD; rw [e]
    by_cases h1 : 1 ≤ s.length
    · by_cases h2 : s.length ≤ 8
      · by_cases h3 : s ∈ WORDS
        · rw [isNm_no (by simp [h3])]
          simp [inw, len_s (Nat.le_trans l9 (by decide)), h3]
        · rw [isNm_yes h1 h2 h3]
          have h1' : (1 : Int) ≤ s.length := by omega
          have h2' : (s.length : Int) ≤ 8 := by omega
          simp only [ssat_seq, ssat_if, sat_tOr, sat_tNot, sat_tTruth, sat_tOfE, sat_eN, sat_aCons, sat_aNil, sat_eVar, sat_eK, List.getElem?_cons_zero, List.getElem?_cons_succ, isi_str, sat_ok, truthD_bl, Bool.not_true, Bool.false_eq_true, if_false, sat_eChain, len_s (Nat.le_trans l9 (by decide)), le_int, blD_bl, h1', h2', decide_true, if_true, sat_e2, inw, h3, decide_false, ssat_skip, ssat_sRet, sat_eLc, sat_iSeq, items_str (Nat.le_trans l9 (by decide)), wipeD, List.set_cons_succ, List.set_cons_zero, List.length_map]
          refine ⟨small (by show s.cps.size ≤ 1000; exact Nat.le_trans l9 (by decide)), ?_⟩
          refine lets (fun c S => ?_) ?_
          · simp only [sat_eChain, sat_eK, sat_eVar, List.set_cons_succ, List.set_cons_zero, List.getElem?_cons_zero, List.getElem?_cons_succ, ge_a, le_z, sat_ok, blD_bl]
            unfold isLet
            by_cases a : 97 ≤ c <;> simp [a]
          · rw [all_bl, sat_ok]; exact ⟨rfl, rfl⟩
      · rw [isNm_no (by simp [h2])]
        simp [inw, len_s (Nat.le_trans l9 (by decide)), h2]
        omega
    · rw [isNm_no (by simp [h1])]
      simp [inw, len_s (Nat.le_trans l9 (by decide)), h1]
      omega
  | _ => simp [isNm]
/-- objects may have come, nothing else -/
def Ext (S S' : Store) : Prop := ∃ T, S' = S ++ T
theorem Ext.refl : Ext S S := ⟨[], by simp⟩
theorem Ext.trans {S S' S'' : Store} (h : Ext S S') (g : Ext S' S'') : Ext S S'' := by
  obtain ⟨T, rfl⟩ := h
  obtain ⟨T', rfl⟩ := g
  exact ⟨T ++ T', by simp⟩
theorem Ext.frH {S S' : Store} (h : Ext S S') (hS : Hand n S) : FrH n S S' := by
  obtain ⟨T, rfl⟩ := h
  have e : ∀ (m : Nat) (o' : O), S[m]? = some o' → (S ++ T)[m]? = some o' := fun m o' e => by
    rw [List.getElem?_append_left (List.getElem?_eq_some_iff.mp e).1]; exact e
  obtain ⟨g, s, q⟩ := hS
  exact ⟨by simp, fun m o' _ q => e m o' q, ⟨g, s, e _ _ q⟩⟩
def DK : List (Key × D) := [(.inr "plus", .str "123456"), (.inr "times", .str "123456"), (.inr "most", .str "123456"), (.inr "row", .str "0123456"), (.inr "say", .str "1"), (.inr "less", .str "2"), (.inr "below", .str "2"), (.inr "if", .str "3"), (.inr "let", .str "2"), (.inr "each", .str "2")]
def dig (w : Str) : Str := if w = "plus" ∨ w = "times" ∨ w = "most" then "123456" else if w = "row" then "0123456" else if w = "say" then "1" else if w = "less" ∨ w = "below" then "2" else if w = "if" then "3" else if w = "let" ∨ w = "each" then "2" else ""
theorem get_dig (w : Str) : (dGet DK (.inr w)).getD (.str "") = .str (dig w) := by
  by_cases h1 : w = "plus"; · subst h1; kernel_rfl
  by_cases h2 : w = "times"; · subst h2; kernel_rfl
  by_cases h3 : w = "most"; · subst h3; kernel_rfl
  by_cases h4 : w = "row"; · subst h4; kernel_rfl
  by_cases h5 : w = "say"; · subst h5; kernel_rfl
  by_cases h6 : w = "less"; · subst h6; kernel_rfl
  by_cases h7 : w = "below"; · subst h7; kernel_rfl
  by_cases h8 : w = "if"; · subst h8; kernel_rfl
  by_cases h9 : w = "let"; · subst h9; kernel_rfl
  by_cases h10 : w = "each"; · subst h10; kernel_rfl
  have e' : ∀ a : Str, ¬ w = a → (a = w) = False := fun a h => eq_false fun e => h e.symm
  simp [dGet, DK, List.find?, e' _ h1, e' _ h2, e' _ h3, e' _ h4, e' _ h5, e' _ h6, e' _ h7, e' _ h8, e' _ h9, e' _ h10, h1, h2, h3, h4, h5, h6, h7, h8, h9, h10, dig]
def fitN (w : Str) (n : Nat) : Bool := match shape w with
  | some (f, mo, _) => decide (f ≤ n) && decide (n ≤ mo)
  | none => false
/-- a number of parts as a word has -/
theorem dig_fits (w : Str) (n : Nat) (h : n ≤ 9) : memStr (.str ((toString (n : Int) : String) : Str)) (dig w) = some (fitN w n) := by
  have hs : n = 0 ∨ n = 1 ∨ n = 2 ∨ n = 3 ∨ n = 4 ∨ n = 5 ∨ n = 6 ∨ n = 7 ∨ n = 8 ∨ n = 9 := by omega
  by_cases h1 : w = "plus"; · subst h1; rcases hs with rfl | rfl | rfl | rfl | rfl | rfl | rfl | rfl | rfl | rfl <;> decide +kernel
  by_cases h2 : w = "times"; · subst h2; rcases hs with rfl | rfl | rfl | rfl | rfl | rfl | rfl | rfl | rfl | rfl <;> decide +kernel
  by_cases h3 : w = "most"; · subst h3; rcases hs with rfl | rfl | rfl | rfl | rfl | rfl | rfl | rfl | rfl | rfl <;> decide +kernel
  by_cases h4 : w = "row"; · subst h4; rcases hs with rfl | rfl | rfl | rfl | rfl | rfl | rfl | rfl | rfl | rfl <;> decide +kernel
  by_cases h5 : w = "say"; · subst h5; rcases hs with rfl | rfl | rfl | rfl | rfl | rfl | rfl | rfl | rfl | rfl <;> decide +kernel
  by_cases h6 : w = "less"; · subst h6; rcases hs with rfl | rfl | rfl | rfl | rfl | rfl | rfl | rfl | rfl | rfl <;> decide +kernel
  by_cases h7 : w = "below"; · subst h7; rcases hs with rfl | rfl | rfl | rfl | rfl | rfl | rfl | rfl | rfl | rfl <;> decide +kernel
  by_cases h8 : w = "if"; · subst h8; rcases hs with rfl | rfl | rfl | rfl | rfl | rfl | rfl | rfl | rfl | rfl <;> decide +kernel
  by_cases h9 : w = "let"; · subst h9; rcases hs with rfl | rfl | rfl | rfl | rfl | rfl | rfl | rfl | rfl | rfl <;> decide +kernel
  by_cases h10 : w = "each"; · subst h10; rcases hs with rfl | rfl | rfl | rfl | rfl | rfl | rfl | rfl | rfl | rfl <;> decide +kernel
  have e1 : shape w = none := by simp [shape, h1, h2, h3, h4, h5, h6, h7, h8, h9, h10]
  have e2 : dig w = "" := by simp [dig, h1, h2, h3, h4, h5, h6, h7, h8, h9, h10]
  have e3 : fitN w n = false := by unfold fitN; rw [e1]
  rw [e3, e2]
  rcases hs with rfl | rfl | rfl | rfl | rfl | rfl | rfl | rfl | rfl | rfl <;> decide +kernel
end K01
set_option Elab.async false
set_option linter.all false
set_option maxRecDepth 100000
set_option maxHeartbeats 4000000
namespace K01
open PySem L2 L3
variable {S : Store} {n : Nat}
def DK6 : List (Key × D) := [(.inr "plus", .str "123456"), (.inr "times", .str "123456"), (.inr "most", .str "123456"), (.inr "row", .str "0123456"), (.inr "say", .str "1"), (.inr "less", .str "2")]
theorem dk6 {env : EnvD} : eDct [(eK (.str "plus"), eK (.str "123456")), (eK (.str "times"), eK (.str "123456")), (eK (.str "most"), eK (.str "123456")), (eK (.str "row"), eK (.str "0123456")), (eK (.str "say"), eK (.str "1")), (eK (.str "less"), eK (.str "2"))] env S = .ok (.obj S.length) (S ++ [.dK DK6]) := by
  simp [eDct, pairsD, R.nox, R.bind, eK]
  kernel_rfl
theorem dk4 {env : EnvD} : eDic [(eK (.str "below"), eK (.str "2")), (eK (.str "if"), eK (.str "3")), (eK (.str "let"), eK (.str "2")), (eK (.str "each"), eK (.str "2"))] env S = .ok (.dic [.inr "below", .inr "if", .inr "let", .inr "each"] [.str "2", .str "3", .str "2", .str "2"]) S := by
  simp [eDic, pairsD, R.nox, R.bind, eK]
  kernel_rfl
theorem dup : dupdD (.obj S.length) [.dic [.inr "below", .inr "if", .inr "let", .inr "each"] [.str "2", .str "3", .str "2", .str "2"]] (S ++ [.dK DK6]) = .ok .non (S ++ [.dK DK]) := by
  have e : (S ++ [O.dK DK6])[S.length]? = some (.dK DK6) := by simp
  have e2 : mergeD DK6 (([.inr "below", .inr "if", .inr "let", .inr "each"] : List Key).zip [D.str "2", .str "3", .str "2", .str "2"]) = DK := by kernel_rfl
  unfold dupdD
  simp only [e, dkAt, List.length_cons, List.length_nil, if_true, Nat.zero_add, Nat.reduceAdd, e2]
  rw [if_pos ⟨by decide, rfl⟩]
  simp
theorem get {w : Str} : dgetD (.obj S.length) [.str w, .str ""] (S ++ [.dK DK]) = .ok (.str (dig w)) (S ++ [.dK DK]) := by
  have e : (S ++ [O.dK DK])[S.length]? = some (.dK DK) := by simp
  unfold dgetD
  simp only [dkAt, e, keyOf, get_dig]
theorem mtd : mtD (.obj S.length) (S ++ [.dK DK]) = some "dict" := by simp [mtD]
theorem mtd6 : mtD (.obj S.length) (S ++ [.dK DK6]) = some "dict" := by simp [mtD]
theorem in_le {w : Str} (h : asc w = true) : inD (.str w) (.tup [.str "let", .str "each"]) S = .ok (.bl (decide (w = "let" ∨ w = "each"))) S := by
  have e : memD (.str w) (.tup [.str "let", .str "each"]) S = some (decide (w = "let" ∨ w = "each")) := by
    have a1 : PyData.strOk "let" = true := by decide +kernel
    have a2 : PyData.strOk "each" = true := by decide +kernel
    simp only [memD, toPy, toPyL, a1, a2, if_true, asc_ok h, Option.map_some, memData]
    rw [if_pos (show (PyData.str w).depth ≤ 64 by simp [PyData.depth])]
    congr 1
    rw [Bool.eq_iff_iff]
    simp only [List.any_cons, List.any_nil, Bool.or_false, Bool.or_eq_true, decide_eq_true_eq, PyData.eqv, beq_iff_eq]
    constructor
    · rintro (h | h) <;> simp [h]
    · rintro (h | h) <;> simp [h]
  unfold inD; rw [e]
theorem notin_le {w : Str} (h : asc w = true) : notInD (.str w) (.tup [.str "let", .str "each"]) S = .ok (.bl (!decide (w = "let" ∨ w = "each"))) S := by
  have := in_le (S := S) h
  unfold inD at this
  unfold notInD
  cases e : memD (.str w) (.tup [.str "let", .str "each"]) S with
  | none => rw [e] at this; cases this
  | some b =>
    rw [e] at this
    simp only [R.ok.injEq, D.bl.injEq, and_true] at this
    rw [this]
/-- turns of a comprehension, each of which may bring objects -/
theorem lc_ext {te : ED} {env : EnvD} {i : Nat} (f : D → D) : ∀ {xs : List D}, (∀ x ∈ xs, ∀ S, (te (env.set i (some x)) S).sat fun d S' => d = f x ∧ Ext S S') → ∀ {S : Store} {Q : List D → Store → Prop}, (∀ S', Ext S S' → Q (xs.map f) S') → lcSat (L3.gName i) tYesD te env xs S Q
  | [], _, S, _, hQ => hQ S .refl
  | x :: xs, ht, S, Q, hQ => by
    unfold lcSat
    simp only [L3.gName, tYesD, sat_ok, if_true]
    refine sat_mono (ht x (List.mem_cons_self ..) S) fun y S3 h => ?_
    obtain ⟨rfl, h⟩ := h
    exact lc_ext f (fun x hx => ht x (List.mem_cons_of_mem _ hx)) fun S' h' => hQ S' (h.trans h')
theorem letrue {w : Str} {f mo : Nat} {g : Bool} (h : shape w = some (f, mo, g)) : decide (w = "let" ∨ w = "each") = g := by
  unfold shape at h
  split at h
  · rename_i q; cases h; rcases q with rfl | rfl | rfl <;> decide +kernel
  split at h
  · rename_i q; subst q; cases h; decide +kernel
  split at h
  · rename_i q; subst q; cases h; decide +kernel
  split at h
  · rename_i q; cases h; rcases q with rfl | rfl <;> decide +kernel
  split at h
  · rename_i q; subst q; cases h; decide +kernel
  split at h
  · rename_i q; cases h; exact decide_eq_true q
  cases h
theorem str_len {n : Nat} (h : n ≤ 1000) : strD [.int (n : Int)] S = .ok (.str ((toString (n : Int) : String) : Str)) S := by
  unfold strD
  simp only []
  rw [if_pos]
  rw [Int.natAbs_natCast]
  by_cases z : n = 0
  · rw [z]; decide
  · exact Nat.lt_trans ((Nat.log2_lt z).mpr (Nat.lt_of_le_of_lt h (by decide : 1000 < 2 ^ 20))) (by decide)
theorem notin_str {x : D} {z : Str} {b : Bool} (h : memStr x z = some b) : notInD x (.str z) S = .ok (.bl (!b)) S := by
  unfold notInD
  rw [show memD x (.str z) S = some b from h]
theorem ok_head (k : Nat) {a m p : D} (h : ∀ w, a ≠ .str w) : ok k (.tup [a, m, p]) = false := by
  cases k with
  | zero => rfl
  | succ k =>
    unfold ok
    split <;> first | rfl | (rename_i e; cases e; exact absurd rfl (h _))
theorem ok_tail (k : Nat) {a m p : D} (h : ∀ w, p ≠ .tup w) : ok k (.tup [a, m, p]) = false := by
  cases k with
  | zero => rfl
  | succ k =>
    unfold ok
    split <;> first | rfl | (rename_i e; cases e; exact absurd rfl (h _))
theorem lthing {B : Nat} (hB : B ≤ 1000) : ∀ (deep k : Nat) {x : D} {S : Store}, U B x → wt x ≤ 1000000 → dp x ≤ 100 → (Fs (k + 2 + deep) 17 [x, .int deep] S).sat fun d S' => d = .bl (ok deep x) ∧ Ext S S' := by
  intro deep
  induction deep with
  | zero =>
    intro k x S h hw hd
    rw [show k + 2 + 0 = k + 1 + 1 from rfl, Fs_law_is_thing, sat_run]
    refine ⟨rfl, ?_⟩
    unfold m_law_is_thing
    have E : Ext S S := .refl
    have fin : ((eK (.bl false)) : ED) = eK (.bl false) := rfl
    cases h with
    | @tup l hll hl =>
      by_cases h3 : l.length = 3
      · match l, h3 with
        | [a, m, p], _ =>
          have ua := hl a (by simp)
          have ix : ∀ S, ixD (.tup [a, m, p]) (.int 0) S = .ok a S := fun _ => rfl
          by_cases hs : ∃ w, a = .str w
          · obtain ⟨w, rfl⟩ := hs
            refine step_no (S1 := S) (of_sat (by simp [ne_int, ix])) (step_asg (S1 := S) (S2 := S) (d := .tup [.str w, m, p]) (of_sat (by simp)) rfl ?_)
            simp only [List.map_cons, List.map_nil, List.cons_append, List.nil_append, List.length_cons, List.length_nil, Nat.zero_add, Nat.reduceAdd, Nat.reduceSub, List.replicate, List.set_cons_succ, List.set_cons_zero]
            refine step_ret (S1 := S) (of_sat (by simp [eq_int])) ?_
            simp [ok, E]
          · have : isiD [a, .ty "str"] S = .ok (.bl false) S := by cases ua <;> first | exact absurd ⟨_, rfl⟩ hs | simp
            refine step_ret (S1 := S) (of_sat (by simp [ne_int, ix, this])) ?_
            simp [ok, E]
      · have h3' : ¬ ((l.length : Int) = 3) := by omega
        refine step_ret (S1 := S) (of_sat (by simp [h3', ne_int])) ?_
        simp [ok, E]
    | _ => exact step_ret (S1 := S) (of_sat (by simp)) (by simp [ok, E])
  | succ deep ih =>
    intro k x S h hw hd
    rw [show k + 2 + (deep + 1) = k + 2 + deep + 1 from rfl, Fs_law_is_thing, sat_run]
    refine ⟨rfl, ?_⟩
    have d1 : ¬ ((deep : Int) + 1 = 0) := by omega
    have E : Ext S S := .refl
    unfold m_law_is_thing
    cases h with
    | @tup l hll hl =>
      by_cases h3 : l.length = 3
      · match l, h3 with
        | [a, m, p], _ =>
          have ua := hl a (by simp)
          have um := hl m (by simp)
          have up := hl p (by simp)
          have ix : ∀ S, ixD (.tup [a, m, p]) (.int 0) S = .ok a S := fun _ => rfl
          by_cases hs : ∃ w, a = .str w
          · obtain ⟨w, rfl⟩ := hs
            refine step_no (S1 := S) (of_sat (by simp [ne_int, ix])) (step_asg (S1 := S) (S2 := S) (d := .tup [.str w, m, p]) (of_sat (by simp)) rfl ?_)
            simp only [List.map_cons, List.map_nil, List.cons_append, List.nil_append, List.length_cons, List.length_nil, Nat.zero_add, Nat.reduceAdd, Nat.reduceSub, List.replicate, List.set_cons_succ, List.set_cons_zero]
            cases up with
            | @tup ps hzz hps =>
              refine step_no (S1 := S) (of_sat (by simp [eq_int, d1])) ?_
              have ua : asc w = true := by cases ua; assumption
              have hwm : wt m ≤ 1000000 := by have := wt_mem (l := [.str w, m, .tup ps]) (x := m) (by simp); simp only [wt] at hw; omega
              have hdm : dp m ≤ 100 := by have := dp_mem (l := [.str w, m, .tup ps]) (x := m) (by simp); simp only [dp] at hd; omega
              have hwp : wts ps ≤ 1000000 := by simp only [wt, wts] at hw; omega
              have hdps : dps ps ≤ 100 := by simp only [dp, dps] at hd; omega
              by_cases hn : w = "num"
              · have e := fun S => lwhole (S := S) (k + 1 + deep) um
                rw [show k + 1 + deep + 1 = k + 2 + deep by omega] at e
                have hr : ok (deep + 1) (.tup [.str w, m, .tup ps]) = (isNum m && ps.isEmpty) := by
                  simp only [ok, if_pos hn]
                rw [hr]
                generalize isNum m = b at *
                refine step_yes (S1 := S) (of_sat (by simp [eq_true hn])) ?_
                rw [ssat_seq]
                refine step_asg (S1 := S) (S2 := S) (d := .bl b) (of_sat (by simp [eq_true hn, e])) rfl ?_
                simp only [ssat_sRet, sat_eAnd, sat_eVar, List.set_cons_succ, List.set_cons_zero, List.getElem?_cons_succ, List.getElem?_cons_zero, blD_bl, sat_ok]
                cases b <;> simp [E]
              by_cases hn2 : w = "name"
              · have e := fun S => lname (S := S) (k + 1 + deep) um
                rw [show k + 1 + deep + 1 = k + 2 + deep by omega] at e
                have hr : ok (deep + 1) (.tup [.str w, m, .tup ps]) = (isNm m && ps.isEmpty) := by
                  simp only [ok, if_pos hn2, if_neg hn]
                rw [hr]
                generalize isNm m = b at *
                refine step_yes (S1 := S) (of_sat (by simp [eq_true hn2, eq_false hn])) ?_
                rw [ssat_seq]
                refine step_asg (S1 := S) (S2 := S) (d := .bl b) (of_sat (by simp [eq_false hn, e])) rfl ?_
                simp only [ssat_sRet, sat_eAnd, sat_eVar, List.set_cons_succ, List.set_cons_zero, List.getElem?_cons_succ, List.getElem?_cons_zero, blD_bl, sat_ok]
                cases b <;> simp [E]
              have hr : ok (deep + 1) (.tup [.str w, m, .tup ps]) = (fits w m ps.length && ps.all (ok deep)) := by
                simp only [ok, if_neg hn2, if_neg hn]
              rw [hr]
              refine step_no (S1 := S) (of_sat (by simp [eq_false hn2, eq_false hn])) ?_
              refine step_asg (S1 := S ++ [.dK DK6]) (S2 := S ++ [.dK DK6]) dk6 rfl ?_
              refine step_expr (S1 := S ++ [.dK DK]) (d := .non) (of_sat (by
                simp only [sat_eBM, sat_eVar, sat_aCons, sat_aNil, List.set_cons_succ, List.set_cons_zero, List.getElem?_cons_succ, List.getElem?_cons_zero, mtd6, true_and, dk4, sat_ok, dup, and_self])) ?_
              have E2 : Ext S (S ++ [.dK DK]) := ⟨_, rfl⟩
              obtain ⟨fn, hfn⟩ : ∃ fn, fn = fitN w ps.length := ⟨_, rfl⟩
              have c5 : (tOr (tOfE (e2 gtD (eN lenD (aCons (eVar 4) (aNil))) (eK (.int 9)))) (tOfE (e2 notInD (eN strD (aCons (eN lenD (aCons (eVar 4) (aNil))) (aNil))) (eBM "dict" dgetD (eVar 6) (aCons (eVar 2) (aCons (eK (.str "")) (aNil)))))))
                  [some (D.tup [D.str w, m, D.tup ps]), some (D.int ((deep + 1 : Nat) : Int)), some (D.str w), some m, some (D.tup ps), none, some (.obj S.length), none] (S ++ [.dK DK]) = .ok (!fn) (S ++ [.dK DK]) := by
                apply of_sat
                by_cases h9 : ps.length ≤ 9
                · have h9' : ¬ (9 < (ps.length : Int)) := by omega
                  have m1 := dig_fits w ps.length h9
                  rw [← hfn] at m1
                  simp only [sat_tOr, sat_tOfE, sat_e2, sat_eN, sat_aCons, sat_aNil, sat_eVar, sat_eK, List.getElem?_cons_succ, List.getElem?_cons_zero, len_tup, sat_ok, gt_int, blD_bl, decide_false, Bool.false_eq_true, if_false, gt_iff_lt, h9', str_len (Nat.le_trans h9 (by decide)), sat_eBM, mtd, get, notin_str m1, true_and, and_self]
                · have h9' : 9 < (ps.length : Int) := by omega
                  have : fn = false := by
                    rw [hfn]
                    unfold fitN
                    cases q : shape w with
                    | none => rfl
                    | some q' =>
                      obtain ⟨f, mo, g⟩ := q'
                      have := shape_most q
                      simp only [Bool.and_eq_false_iff, decide_eq_false_iff_not]
                      exact .inr (by omega)
                  rw [this]
                  simp only [sat_tOr, sat_tOfE, sat_e2, sat_eN, sat_aCons, sat_aNil, sat_eVar, sat_eK, List.getElem?_cons_succ, List.getElem?_cons_zero, len_tup, sat_ok, gt_int, blD_bl, gt_iff_lt, h9', decide_true, if_true, Bool.not_false, and_self]
              simp only [List.set_cons_succ, List.set_cons_zero]
              cases fn with
              | false =>
                refine step_ret c5 ?_
                have : fits w m ps.length = false := by
                  unfold fits
                  unfold fitN at hfn
                  cases q : shape w with
                  | none => rfl
                  | some q' =>
                    obtain ⟨f, mo, g⟩ := q'
                    rw [q] at hfn
                    simp only at hfn ⊢
                    rw [← hfn]; rfl
                rw [this]
                simp [E2]
              | true =>
                refine step_no c5 ?_
                unfold fitN at hfn
                cases q : shape w with
                | none => rw [q] at hfn; cases hfn
                | some q' =>
                  obtain ⟨f, mo, g⟩ := q'
                  have hft : fits w m ps.length = (if g = true then isNm m else isEmp m) := by
                    rw [q] at hfn
                    simp only [fits, q]
                    simp only at hfn
                    rw [← hfn]; simp
                  rw [hft]
                  have lt := letrue q
                  have enm := fun S => lname (S := S) (k + 1 + deep) um
                  rw [show k + 1 + deep + 1 = k + 2 + deep by omega] at enm
                  obtain ⟨z, ez, hz⟩ := repr_ok um hwm hdm
                  have c6 : (tOr (tAnd (tOfE (e2 inD (eVar 2) (eN mkTup (aCons (eK (.str "let")) (aCons (eK (.str "each")) (aNil)))))) (tNot (tTruth (eN (callK (Fs (k + 2 + deep) 16) []) (aCons (eVar 3) (aNil)))))) (tAnd (tOfE (e2 notInD (eVar 2) (eN mkTup (aCons (eK (.str "let")) (aCons (eK (.str "each")) (aNil)))))) (tOfE (e2 neD (eN reprD (aCons (eVar 3) (aNil))) (eK (.str "''"))))))
                      [some (D.tup [D.str w, m, D.tup ps]), some (D.int ((deep + 1 : Nat) : Int)), some (D.str w), some m, some (D.tup ps), none, some (.obj S.length), none] (S ++ [.dK DK]) = .ok (!(if g = true then isNm m else isEmp m)) (S ++ [.dK DK]) := by
                    apply of_sat
                    cases g <;> simp [in_le ua, notin_le ua, lt, enm, ez, hz, sz2]
                  generalize (if g = true then isNm m else isEmp m) = M at *
                  cases M with
                  | false =>
                    refine step_ret c6 ?_
                    simp [E2]
                  | true =>
                    refine step_no c6 ?_
                    simp only [ssat_sRet, sat_eN, sat_aCons, sat_aNil, sat_eLc, sat_iSeq, sat_eVar, List.getElem?_cons_succ, List.getElem?_cons_zero, itemsD_tup, sat_ok, wipeD, List.set_cons_succ, List.set_cons_zero]
                    refine ⟨small (Nat.le_trans hzz hB), lc_ext (fun x => .bl (ok deep x)) (fun x hx S => ?_) fun S' h' => ?_⟩
                    · simp only [sat_eN, sat_aCons, sat_aNil, sat_eVar, sat_e2, sat_eK, List.set_cons_succ, List.set_cons_zero, List.getElem?_cons_succ, List.getElem?_cons_zero, sub_int, sat_ok, callK_eq, List.append_nil]
                      rw [show (((deep + 1 : Nat) : Int) - 1) = deep by omega]
                      exact ih k (hps x hx) (Nat.le_trans (wt_mem hx) hwp) (Nat.le_trans (dp_mem hx) hdps)
                    · rw [show (ps.map fun x => D.bl (ok deep x)) = (ps.map (ok deep)).map D.bl by simp, all_bl, sat_ok, List.all_map]
                      exact ⟨rfl, E2.trans h'⟩
            | _ => exact step_ret (S1 := S) (of_sat (by simp [eq_int, d1])) (by rw [ok_tail _ (by simp)]; simp [E])
          · have : isiD [a, .ty "str"] S = .ok (.bl false) S := by cases ua <;> first | exact absurd ⟨_, rfl⟩ hs | simp
            refine step_ret (S1 := S) (of_sat (by simp [ne_int, ix, this])) ?_
            rw [ok_head _ fun w e => hs ⟨w, e⟩]
            simp [E]
      · have h3' : ¬ ((l.length : Int) = 3) := by omega
        refine step_ret (S1 := S) (of_sat (by simp [h3', ne_int])) ?_
        rw [ok_not3 _ h3]
        simp [E]
    | _ => exact step_ret (S1 := S) (of_sat (by simp)) (by simp [ok, E])
end K01
set_option Elab.async false
set_option linter.all false
set_option maxRecDepth 100000
set_option maxHeartbeats 4000000
namespace K01
open PySem L2 L3
variable {S : Store} {n : Nat}
theorem lprog {B : Nat} (hB : B ≤ 1000) (k : Nat) {x : D} {S : Store} (h : U B x) (hw : wt x ≤ 1000000) (hd : dp x ≤ 100) : (Fs (k + 16) 19 [x] S).sat fun d S' => d = .bl (isPg x) ∧ Ext S S' := by
  rw [show k + 16 = k + 15 + 1 from rfl, Fs_law_is_program, sat_run]
  refine ⟨rfl, ?_⟩
  unfold m_law_is_program
  simp only [ssat_sRet, sat_eAnd, sat_eN, sat_aCons, sat_aNil, sat_eK, sat_eVar, List.map_cons, List.map_nil, List.cons_append, List.nil_append, List.getElem?_cons_zero, callK_eq]
  have e1 := lthing hB 10 (k + 3) (S := S) h hw hd
  rw [show k + 3 + 2 + 10 = k + 15 by omega, show ((10 : Nat) : Int) = 10 from rfl] at e1
  refine sat_mono e1 fun d S1 ⟨e, E⟩ => ?_
  subst e
  have e2 := fun hk => sized hB 10 (k + 4) (S := S1) h hk
  rw [show k + 4 + 1 + 10 = k + 15 by omega] at e2
  unfold isPg
  cases hk : ok 10 x with
  | false => simp [E]
  | true => simp [e2 hk, E]
theorem right {B : Nat} (hB : B ≤ 1000) (k : Nat) {x : D} {S : Store} (h : U B x) (hw : wt x ≤ 1000000) (hd : dp x ≤ 100) : (Fs (k + 17) 22 [x] S).sat fun d S' => d = .bl true ∧ Ext S S' := by
  rw [show k + 17 = k + 16 + 1 from rfl, Fs_law_right, sat_run]
  refine ⟨rfl, ?_⟩
  obtain ⟨z, ez, _⟩ := repr_ok h hw hd
  have ep := fun S => prog hB k (S := S) h
  unfold m_law_right
  refine step_asg (S1 := S) (S2 := S) (d := .str z) (of_sat (by simp [ez])) rfl ?_
  refine step_asg (S1 := S) (S2 := S) (d := .lst [.bl (isPg x), .bl (isPg x)]) (of_sat (by simp [ep, kwK, kbd_is_program_0_thing_g, gath, sz2])) rfl ?_
  simp only [List.map_cons, List.map_nil, List.cons_append, List.nil_append, List.length_cons, List.length_nil, Nat.zero_add, Nat.reduceAdd, Nat.reduceSub, List.replicate, List.set_cons_succ, List.set_cons_zero]
  simp only [ssat_sRet, sat_eAnd, sat_e2, sat_eN, sat_aCons, sat_aNil, sat_eVar, sat_eK, List.getElem?_cons_succ, List.getElem?_cons_zero, sat_mkLst, List.length_cons, List.length_nil, Nat.zero_add, sz1, true_and, callK_eq, List.append_nil]
  refine sat_mono (lprog hB k h hw hd) fun d S1 ⟨e, E⟩ => ?_
  subst e
  have e1 : ∀ (b : Bool) S, mulD (.lst [.bl b]) (.int 2) S = .ok (.lst [.bl b, .bl b]) S := fun b S => by cases b <;> kernel_rfl
  have e2 : ∀ (b : Bool) S, eqD (.lst [.bl b, .bl b]) (.lst [.bl b, .bl b]) S = .ok (.bl true) S := fun b S => by cases b <;> kernel_rfl
  have e3 : ∀ (b : Bool) S, ixD (.lst [.bl b, .bl b]) (.int 0) S = .ok (.bl b) S := fun b S => rfl
  simp [e1, e2, e3, ez, E]
mutual
def uB (B : Nat) : D → Bool
  | .non => true
  | .bl _ => true
  | .int i => decide (-10000 ≤ i) && decide (i ≤ 10000)
  | .str s => asc s
  | .tup l => decide (l.length ≤ B) && uBs B l
  | .lst l => decide (l.length ≤ B) && uBs B l
  | .dic [] [] => true
  | _ => false
def uBs (B : Nat) : List D → Bool
  | [] => true
  | x :: xs => uB B x && uBs B xs
end
mutual
theorem uB_ok {B : Nat} : ∀ {d : D}, uB B d = true → U B d
  | .non, _ => .non
  | .bl _, _ => .bl _
  | .int i, h => by
    simp only [uB, Bool.and_eq_true, decide_eq_true_eq] at h
    exact .int h.1 h.2
  | .str s, h => by simp only [uB] at h; exact .str h
  | .tup l, h => by
    simp only [uB, Bool.and_eq_true, decide_eq_true_eq] at h
    exact .tup h.1 (uBs_ok h.2)
  | .lst l, h => by
    simp only [uB, Bool.and_eq_true, decide_eq_true_eq] at h
    exact .lst h.1 (uBs_ok h.2)
  | .dic [] [], _ => .dic
  | .dic (_ :: _) _, h => by simp [uB] at h
  | .dic [] (_ :: _), h => by simp [uB] at h
  | .obj _, h => by simp [uB] at h
  | .glb _, h => by simp [uB] at h
  | .ty _, h => by simp [uB] at h
  | .scr _, h => by simp [uB] at h
  | .kd _ _, h => by simp [uB] at h
theorem uBs_ok {B : Nat} : ∀ {l : List D}, uBs B l = true → ∀ x ∈ l, U B x
  | [], _ => fun _ hx => nomatch hx
  | y :: l, h => by
    simp only [uBs, Bool.and_eq_true] at h
    have h1 := uB_ok h.1
    have h2 := uBs_ok h.2
    intro x hx
    rcases List.mem_cons.mp hx with rfl | hx
    · exact h1
    · exact h2 x hx
end
/-- a thing of any kind -/
def Odd (d : D) : Prop := U 3 d ∧ wt d ≤ 400 ∧ dp d ≤ 2
def oddB (d : D) : Bool := uB 3 d && decide (wt d ≤ 400) && decide (dp d ≤ 2)
theorem oddB_ok {l : List D} (h : l.all oddB = true) : ∀ d ∈ l, Odd d := fun d hd => by
  have := List.all_eq_true.mp h d hd
  simp only [oddB, Bool.and_eq_true, decide_eq_true_eq] at this
  exact ⟨uB_ok this.1.1, this.1.2, this.2⟩
def O1 : List D := [.non, .bl true, .bl false, .int 0, .int 1, .int 9972, .int 9973, .int (-1), .str "", .str "a", .str "A", .str "abcdefgh", .str "abcdefghi", .str "a b", .str "plus", .str "row", .str "if"]
def O2 : List D := [.str "num", .str "name", .str "any", .str "let", .lst [], .dic [] [], .tup [], .tup [.str "num", .int 1, .tup []], .lst [.str "num", .int 1, .tup []], .tup [.str "any", .str "x", .tup []]]
def O3 : List D := [.tup [.str "rest", .str "x", .tup []], .tup [.str "num", .bl true, .tup []], .tup [.str "name", .str "if", .tup []], .tup [.str "plus", .str "", .tup []], .tup [.str "row", .str "", .tup []]]
def O4 : List D := [.tup [.int 1, .int 2, .int 3]]
theorem odds : (((O1 ++ O2) ++ O3) ++ O4).all oddB = true := by decide +kernel
theorem odd {k : Nat} (hp : IsPick2 (Fs k 10)) (hS : Hand n S) : (Fs (k + 1) 20 [.obj n] S).sat fun d S' => Odd d ∧ FrH n S S' := by
  rw [Fs_law_odd, sat_run]
  refine ⟨rfl, ?_⟩
  unfold m_law_odd
  have l1 : O1.length = 17 := rfl
  have l2 : O2.length = 10 := rfl
  have l3 : O3.length = 5 := rfl
  have l4 : O4.length = 1 := rfl
  refine step_asg (S1 := S) (S2 := S) (d := .lst O1) (of_sat (by simp [sz17, O1, neg_int])) rfl ?_
  refine step_asg (S1 := S) (S2 := S) (d := .lst (O1 ++ O2)) (of_sat (by
    simp [sz10, sz0, sz3, sz2, sz1]
    exact to_sat (add_lst (small (by rw [l1]; simp))) ⟨rfl, rfl⟩)) rfl ?_
  refine step_asg (S1 := S) (S2 := S) (d := .lst (O1 ++ O2 ++ O3)) (of_sat (by
    simp [sz5, sz0, sz3]
    exact to_sat (add_lst (small (by simp [l1, l2]))) ⟨by rw [List.append_assoc]; rfl, rfl⟩)) rfl ?_
  simp only [List.map_cons, List.map_nil, List.cons_append, List.nil_append, List.length_cons, List.length_nil, Nat.zero_add, Nat.reduceAdd, Nat.reduceSub, List.replicate, List.set_cons_succ, List.set_cons_zero, ssat_sRet, sat_eN, sat_aCons, sat_aNil, sat_eVar, sat_eK, sat_e2, List.getElem?_cons_succ, List.getElem?_cons_zero, sat_mkTup, sat_mkLst, sz3, sz1, true_and, callK_eq, List.append_nil]
  rw [add_lst (a := O1 ++ O2 ++ O3) (small (by simp [l1, l2, l3])), sat_ok]
  refine sat_mono (hp n S _ _ hS (.lst _) (by simp) (by simp [l1, l2, l3])) fun d S1 ⟨h1, h2⟩ => ⟨oddB_ok odds d h1, h2⟩
theorem cut_lo {l : List D} {i : Nat} (h : i ≤ l.length) : cutL l none (some (i : Int)) = l.take i := by
  unfold cutL
  rw [HT.sIx_none, HT.sIx_nat]
  simp [Nat.min_eq_left h]
theorem cut_hi {l : List D} {i : Nat} (h : i ≤ l.length) : cutL l (some (i : Int)) none = l.drop i := by
  unfold cutL
  rw [HT.sIx_none, HT.sIx_nat, Nat.min_eq_left h, List.take_of_length_le (by simp)]
theorem cut_ge {l : List D} {i : Nat} : cutL l (some (i : Int)) none = l.drop (min i l.length) := by
  unfold cutL
  rw [HT.sIx_none, HT.sIx_nat, List.take_of_length_le (by simp)]
theorem wts_cut (l : List D) (i : Nat) : wts (l.take i) + wts (l.drop i) = wts l := by rw [← wts_app, List.take_append_drop]
theorem dps_le {l : List D} {m : Nat} : dps l ≤ m ↔ ∀ x ∈ l, dp x ≤ m := by
  induction l with
  | nil => simp [dps]
  | cons a l ih => simp only [dps, Nat.max_le, ih, List.forall_mem_cons]
/-- what is bent -/
structure Bent (B : Nat) (x y : D) : Prop where
  u : U (B + 1) y
  w : wt y ≤ 2 * wt x + 1000
  d : dp y ≤ dp x + 3
theorem Odd.bent {B : Nat} (hB : 3 ≤ B) {x y : D} (h : Odd y) : Bent B x y := ⟨h.1.mono (by omega), by have := h.2.1; omega, by have := h.2.2; omega⟩
local macro_rules | `(tactic| open_k) => `(tactic| simp only [ssat_seq, ssat_asg, ssat_sRet, ssat_sExpr, ssat_if, ssat_skip, ssat_par, ssat_nx, ssat_ret, ssat_for, sat_e2, sat_e1, sat_eN, sat_aCons, sat_aNil, sat_eVar, sat_eK, sat_tOfE, sat_tTruth, sat_tNot, sat_tAnd, sat_tOr, sat_eIf, sat_eBM, sat_iSeq, sat_iArgs, sat_eAnd, sat_eOr, sat_eNot, sat_eChain, sat_eSl, sat_pNo, sat_pYes, sat_eLc, sat_eKw, sat_mkTup, sat_mkLst, sat_mkObj, sat_ok, callK_eq, List.append_nil, List.map_cons, List.map_nil, List.length_cons, List.length_nil, List.replicate, List.getElem?_cons_succ, List.getElem?_cons_zero, List.cons_append, List.nil_append, List.set_cons_succ, List.set_cons_zero, gName_eq, gTup_tup, gNames_cons, gNames_nil, Nat.zero_add, Nat.reduceAdd, Nat.reduceSub, sz0, sz1, sz2, sz3, sz4, sz5, sz6, sz7, sz8, sz10, sz17, true_and, add_int, sub_int, neg_int, lt_int, le_int, gt_int, ge_int, eq_int, ne_int, blD_bl, truthD_bl, itemsD_lst, itemsD_tup, wipeD, eq_strs, ne_strs, L3.sl_tup, L3.sl_lst, if_true, if_false, Bool.false_eq_true, sat_range1, sat_range2, tuple_lst, tuple_tup, len_tup, len_lst, len_scr, D.int.injEq, exists_eq_left', mt_str])
theorem eback {l : List D} {a b : Int} : True := trivial
theorem bent_body {B : Nat} (hB : B ≤ 500) (h3 : 3 ≤ B) {K : Nat} (ht : IsTake (Fs K 9)) (hp : IsPick2 (Fs K 10)) (ho : ∀ {S}, Hand n S → (Fs K 20 [.obj n] S).sat fun d S' => Odd d ∧ FrH n S S') (deep : Nat)
    (ih : ∀ d, deep = d + 1 → ∀ {x : D} {S : Store}, U B x → Hand n S → (Fs K 21 [.obj n, x, .int d] S).sat fun y S' => Bent B x y ∧ FrH n S S') {x : D} {S : Store} (h : U B x) (hS : Hand n S) :
    (Fs (K + 1) 21 [.obj n, x, .int deep] S).sat fun d S' => Bent B x d ∧ FrH n S S' := by
  rw [Fs_law_bent, sat_run]
  refine ⟨rfl, ?_⟩
  unfold m_law_bent
  refine seq_rule (fun e S1 => ∃ kind : Int, e = [some (.obj n), some x, some (.int (deep : Int)), some (.int kind), none, none, none] ∧ FrH n S S1) ?_ ?_
  · open_k
    refine sat_mono (ht n S 9 hS (by decide) (by decide)) fun d1 S1 ⟨⟨f, e1, f0, f1⟩, fr1⟩ => ?_
    subst e1
    exact ⟨f, rfl, fr1⟩
  rintro e S1 ⟨kind, rfl, fr1⟩
  by_cases hc : ∃ l, x = .tup l ∧ l ≠ [] ∧ kind < 6 ∧ 0 < deep
  · obtain ⟨l, rfl, hl, hk, hd⟩ := hc
    obtain ⟨d, rfl⟩ : ∃ d, deep = d + 1 := ⟨deep - 1, by omega⟩
    have hd' : (0 : Int) < ((d + 1 : Nat) : Int) := by omega
    obtain ⟨hll, hall⟩ : l.length ≤ B ∧ ∀ x ∈ l, U B x := by cases h with | tup a b => exact ⟨a, b⟩
    have l0 : 0 < l.length := List.length_pos_iff.mpr hl
    have le : l.isEmpty = false := by simpa using hl
    refine step_yes (S1 := S1) (of_sat (by open_k; simp [le, hk])) ?_
    rw [ssat_seq]
    refine seq_rule (fun e S2 => ∃ at' : Nat, e = [some (.obj n), some (.tup l), some (.int ((d + 1 : Nat) : Int)), some (.int kind), some (.int (at' : Int)), none, none] ∧ at' < l.length ∧ FrH n S S2) ?_ ?_
    · open_k
      refine sat_mono (ht n S1 _ fr1.hd (by omega) (by omega)) fun d1 S2 ⟨⟨f, e1, f0, f1⟩, fr2⟩ => ?_
      subst e1
      refine ⟨f.toNat, ?_, by omega, fr1.trans fr2⟩
      rw [show ((f.toNat : Nat) : Int) = f by omega]
    rintro e S2 ⟨at', rfl, ha, fr2⟩
    have ex : atI l (at' : Int) = some (l[at']'ha) := by
      simp [atI, ixN, ha]
    have ix : ixD (.tup l) (.int (at' : Int)) S2 = .ok (l[at']'ha) S2 := by simp only [ixD, ex]
    open_k
    rw [ix, sat_ok, show (((d + 1 : Nat) : Int) - 1) = d by omega]
    refine sat_mono (ih d rfl (hall _ (List.getElem_mem ha)) fr2.hd) fun y S3 ⟨hy, fr3⟩ => ?_
    rw [show ((at' : Int) + 1) = ((at' + 1 : Nat) : Int) by omega, cut_lo (by omega), cut_hi (by omega)]
    rw [add_tup (small (by simp; omega)), sat_ok, add_tup (small (by simp; omega)), sat_ok]
    have hsplit : l = l.take at' ++ ([l[at']'ha] ++ l.drop (at' + 1)) := by simp
    refine ⟨⟨?_, ?_, ?_⟩, fr2.trans fr3⟩
    · refine .tup (by simp; omega) fun z hz => ?_
      simp only [List.mem_append, List.mem_singleton] at hz
      rcases hz with (hz | hz) | hz
      · exact (hall z (List.mem_of_mem_take hz)).mono (by omega)
      · rw [hz]; exact hy.u
      · exact (hall z (List.mem_of_mem_drop hz)).mono (by omega)
    · have e1 : wts l = wts (l.take at') + (wt (l[at']'ha) + wts (l.drop (at' + 1))) := by
        conv => lhs; rw [hsplit]
        rw [wts_app, wts_app]; simp [wts]
      have := hy.w
      simp only [wt, wts_app, wts, e1]; omega
    · have := hy.d
      have h1 : dp (l[at']'ha) ≤ dps l := dp_mem (List.getElem_mem ha)
      have h2 : dps (l.take at') ≤ dps l := dps_le.mpr fun z hz => dp_mem (List.mem_of_mem_take hz)
      have h4 : dps (l.drop (at' + 1)) ≤ dps l := dps_le.mpr fun z hz => dp_mem (List.mem_of_mem_drop hz)
      simp only [dp, dps_app, dps]; omega
  refine step_no (S1 := S1) (of_sat ?_) ?_
  · cases h with
    | @tup l hll hall =>
      open_k
      simp only [isi_tup, sat_ok, truthD_bl, if_true, ne_tup0, blD_bl]
      by_cases hl : l = []
      · simp [hl]
      · have le : l.isEmpty = false := by simpa using hl
        by_cases hk : kind < 6
        · have hd : ¬ (0 : Int) < deep := fun hd => hc ⟨l, rfl, hl, hk, by omega⟩
          simp [le, hk, hd]
          omega
        · simp [le, hk]
    | _ => open_k; simp
  by_cases hr : (∃ l, x = .tup l) ∧ kind ≠ 6
  · obtain ⟨⟨l, rfl⟩, hk⟩ := hr
    obtain ⟨hll, hall⟩ : l.length ≤ B ∧ ∀ x ∈ l, U B x := by cases h with | tup a b => exact ⟨a, b⟩
    refine step_no (S1 := S1) (of_sat (by open_k; simp [hk])) ?_
    refine seq_rule (fun e S2 => ∃ at' : Nat, e = [some (.obj n), some (.tup l), some (.int (deep : Int)), some (.int kind), some (.int (at' : Int)), none, none] ∧ at' ≤ l.length ∧ FrH n S S2) ?_ ?_
    · open_k
      refine sat_mono (ht n S1 _ fr1.hd (by omega) (by omega)) fun d1 S2 ⟨⟨f, e1, f0, f1⟩, fr2⟩ => ?_
      subst e1
      refine ⟨f.toNat, ?_, by omega, fr1.trans fr2⟩
      rw [show ((f.toNat : Nat) : Int) = f by omega]
    rintro e S2 ⟨at', rfl, ha, fr2⟩
    -- the parts
    have wc := wts_cut l at'
    have mt : ∀ i, dps (l.take i) ≤ dps l := fun i => dps_le.mpr fun z hz => dp_mem (List.mem_of_mem_take hz)
    have md : ∀ i, dps (l.drop i) ≤ dps l := fun i => dps_le.mpr fun z hz => dp_mem (List.mem_of_mem_drop hz)
    have wtk : ∀ i, wts (l.take i) ≤ wts l := fun i => by have := wts_cut l i; omega
    have wdr : ∀ i, wts (l.drop i) ≤ wts l := fun i => by have := wts_cut l i; omega
    have ut : ∀ i, ∀ z ∈ l.take i, U (B + 1) z := fun i z hz => (hall z (List.mem_of_mem_take hz)).mono (by omega)
    have ud : ∀ i, ∀ z ∈ l.drop i, U (B + 1) z := fun i z hz => (hall z (List.mem_of_mem_drop hz)).mono (by omega)
    have hi1 : cutL l (some (((at' : Int) + 1))) none = l.drop (at' + 1) := by
      rw [show ((at' : Int) + 1) = ((at' + 1 : Nat) : Int) by omega, cut_ge]
      by_cases q : at' + 1 ≤ l.length
      · rw [Nat.min_eq_left q]
      · rw [Nat.min_eq_right (by omega), List.drop_eq_nil_of_le (Nat.le_refl _), List.drop_eq_nil_of_le (by omega)]
    have bl : ∀ a b : List D, a.length + b.length ≤ B + 1 → (∀ z ∈ a, U (B + 1) z) → (∀ z ∈ b, U (B + 1) z) → wts a + wts b ≤ 2 * wts l + 400 → dps a ≤ dps l + 2 → dps b ≤ dps l + 2 → Bent B (.tup l) (.tup (a ++ b)) := by
      intro a b h1 h2 h3 h4 h5 h6
      refine ⟨.tup (by simpa using h1) fun z hz => ?_, by simp only [wt, wts_app]; omega, by simp only [dp, dps_app]; omega⟩
      rcases List.mem_append.mp hz with hz | hz
      · exact h2 z hz
      · exact h3 z hz
    have lt1 : ∀ i, (l.take i).length ≤ l.length := fun i => by simp; omega
    refine seq_rule (fun e S3 => ∃ a b : D, e = [some (.obj n), some (.tup l), some (.int (deep : Int)), some (.int kind), some (.int (at' : Int)), some (.lst [a, b, .lst l]), none] ∧ Bent B (.tup l) a ∧ Bent B (.tup l) b ∧ FrH n S S3) ?_ ?_
    · open_k
      refine sat_mono (ho fr2.hd) fun y S3 ⟨hy, fr3⟩ => ?_
      rw [cut_lo ha, cut_hi ha, hi1]
      simp only [add_tup (small (show (l.take at').length + [y].length ≤ 1000 by simp; omega)), add_tup (small (show (l.take at' ++ [y]).length + (l.drop at').length ≤ 1000 by simp; omega)), add_tup (small (show (l.take at').length + (l.drop (at' + 1)).length ≤ 1000 by simp; omega)), sat_ok]
      have ls : listD [.tup l] S3 = .ok (.lst l) S3 := rfl
      rw [ls, sat_ok]
      refine ⟨_, _, rfl, bl _ _ (by simp; omega) ?_ (ud _) ?_ ?_ (Nat.le_trans (md _) (by omega)), bl _ _ (by simp; omega) (ut _) (ud _) (by have := wtk at'; have := wdr (at' + 1); omega) (Nat.le_trans (mt _) (by omega)) (Nat.le_trans (md _) (by omega)), fr2.trans fr3⟩
      · intro z hz
        simp only [List.mem_append, List.mem_singleton] at hz
        rcases hz with hz | hz
        · exact ut _ z hz
        · rw [hz]; exact hy.1.mono (by omega)
      · have := hy.2.1
        simp only [wts_app, wts]; omega
      · have := hy.2.2
        have := mt at'
        simp only [dps_app, dps]; omega
    rintro e S3 ⟨a, b, rfl, ba, bb, fr3⟩
    have q2 : ∃ t : List D, (∀ S, (eBackT (eSl (eVar 1) (pYes (eVar 4)) (pYes (e2 addD (eVar 4) (eK (.int 2)))))) [some (.obj n), some (.tup l), some (.int (deep : Int)), some (.int kind), some (.int (at' : Int)), some (.lst [a, b, .lst l]), none] S = .ok (.tup t) S) ∧ (∀ z ∈ t, U (B + 1) z) ∧ wts (l.take at') + wts t ≤ wts l ∧ dps t ≤ dps l ∧ at' + t.length + (l.length - (at' + 2)) ≤ l.length := by
      have hcut : cutL l (some (at' : Int)) (some ((at' : Int) + 2)) = (l.drop at').take (min (at' + 2) l.length - at') := by
        unfold cutL
        rw [show ((at' : Int) + 2) = ((at' + 2 : Nat) : Int) by omega, HT.sIx_nat, HT.sIx_nat, Nat.min_eq_left ha]
      have wrev : ∀ t : List D, wts t.reverse = wts t := by
        intro t
        induction t with
        | nil => rfl
        | cons x t ih => simp only [List.reverse_cons, wts_app, ih, wts]; omega
      refine ⟨((l.drop at').take (min (at' + 2) l.length - at')).reverse, fun S => of_sat ?_, fun z hz => ?_, ?_, ?_, ?_⟩
      · simp only [sat_eBackT]
        open_k
        rw [hcut]
        simp
      · rw [List.mem_reverse] at hz
        exact ud _ z (List.mem_of_mem_take hz)
      · rw [wrev]
        have := wts_cut (l.drop at') (min (at' + 2) l.length - at')
        omega
      · rw [dps_le]
        intro z hz
        rw [List.mem_reverse] at hz
        exact dp_mem (List.mem_of_mem_drop (List.mem_of_mem_take hz))
      · simp; omega
    obtain ⟨t, et, u1, w1, d1, n1⟩ := q2
    refine step_asg (et S3) rfl ?_
    have hi2 : cutL l (some (((at' : Int) + 2))) none = l.drop (at' + 2) := by
      rw [show ((at' : Int) + 2) = ((at' + 2 : Nat) : Int) by omega, cut_ge]
      by_cases q : at' + 2 ≤ l.length
      · rw [Nat.min_eq_left q]
      · rw [Nat.min_eq_right (by omega), List.drop_eq_nil_of_le (Nat.le_refl _), List.drop_eq_nil_of_le (by omega)]
    have lo1 : cutL l none (some ((at' : Int) + 1)) = l.take (at' + 1) := by
      unfold cutL
      rw [show ((at' : Int) + 1) = ((at' + 1 : Nat) : Int) by omega, HT.sIx_none, HT.sIx_nat]
      by_cases q : at' + 1 ≤ l.length
      · simp [Nat.min_eq_left q]
      · rw [Nat.min_eq_right (by omega), List.take_of_length_le (show l.length ≤ at' + 1 by omega)]; simp
    open_k
    rw [cut_lo ha, hi2]
    simp only [add_tup (small (show (l.take at').length + t.length ≤ 1000 by simp; omega)), add_tup (small (show (l.take at' ++ t).length + (l.drop (at' + 2)).length ≤ 1000 by simp; omega)), sat_ok]
    rw [lo1, cut_hi ha]
    simp only [add_tup (small (show (l.take (at' + 1)).length + (l.drop at').length ≤ 1000 by simp; omega)), sat_ok]
    rw [add_lst (small (by simp)), sat_ok]
    refine sat_mono (hp n S3 _ _ fr3.hd (.lst _) (by simp) (by simp)) fun d S4 ⟨hd, fr4⟩ => ⟨?_, fr3.trans fr4⟩
    simp only [List.cons_append, List.nil_append, List.mem_cons, List.not_mem_nil, or_false] at hd
    rcases hd with rfl | rfl | rfl | rfl | rfl
    · exact ba
    · exact bb
    · exact ⟨.lst (by omega) fun z hz => (hall z hz).mono (by omega), by simp only [wt]; omega, by simp only [dp]; omega⟩
    · refine bl _ _ (by simp; omega) (fun z hz => ?_) (ud _) ?_ ?_ (Nat.le_trans (md _) (by omega))
      · rcases List.mem_append.mp hz with hz | hz
        · exact ut _ z hz
        · exact u1 z hz
      · have := wdr (at' + 2)
        simp only [wts_app]; omega
      · have := mt at'
        simp only [dps_app]; omega
    · exact bl _ _ (by simp; omega) (ut _) (ud _) (by have := wtk (at' + 1); have := wdr at'; omega) (Nat.le_trans (mt _) (by omega)) (Nat.le_trans (md _) (by omega))
  · refine step_ret (S1 := S1) (of_sat ?_) ?_
    · cases h with
      | @tup l hll hall =>
        have hk : kind = 6 := Classical.byContradiction fun hk => hr ⟨⟨l, rfl⟩, hk⟩
        open_k
        simp [hk]
      | _ => open_k; simp
    · open_k
      refine sat_mono (ho fr1.hd) fun d S2 ⟨h1, h2⟩ => ⟨h1.bent h3, fr1.trans h2⟩
end K01
set_option Elab.async false
set_option linter.all false
set_option maxRecDepth 100000
set_option maxHeartbeats 4000000
namespace K01
open PySem L2 L3
variable {S : Store} {n : Nat}
theorem tk (k : Nat) : IsTake (Fs (k + 1) 9) := by rw [Fs_law_take]; exact isTake
theorem pk (k : Nat) : IsPick2 (Fs (k + 2) 10) := by rw [show k + 2 = k + 1 + 1 from rfl, Fs_law_pick]; exact isPick2 (tk k)
theorem cl (k : Nat) : IsCalled (Fs (k + 3) 11) := by rw [show k + 3 = k + 2 + 1 from rfl, Fs_law_called]; exact isCalled (tk (k + 1)) (pk k)
theorem dg (k : Nat) : IsDigit (Fs (k + 3) 12) := by rw [show k + 3 = k + 2 + 1 from rfl, Fs_law_digit]; exact isDigit (tk (k + 1)) (pk k)
theorem gr : ∀ L k, GrownOk (Fs (k + 4 + L) 13) L
  | 0, k => by rw [show k + 4 + 0 = k + 3 + 1 from rfl, Fs_law_grown]; exact grown_ok (tk (k + 2)) (pk (k + 1)) (dg k) fun h => absurd rfl h
  | L + 1, k => by
    rw [show k + 4 + (L + 1) = k + 4 + L + 1 from rfl, Fs_law_grown]
    have h1 := tk (k + 3 + L)
    have h2 := pk (k + 2 + L)
    have h3 := dg (k + 1 + L)
    rw [show k + 3 + L + 1 = k + 4 + L by omega] at h1
    rw [show k + 2 + L + 2 = k + 4 + L by omega] at h2
    rw [show k + 1 + L + 3 = k + 4 + L by omega] at h3
    exact grown_ok h1 h2 h3 fun _ => gr L k
theorem code (k : Nat) (hS : Hand n S) {left : Nat} (h5 : 5 ≤ left) : (Fs (k + 13) 14 [.obj n, .int left] S).sat fun d S' => ∃ t : Tm, d = t.d ∧ Good t ∧ t.dep ≤ 8 ∧ t.size ≤ left + 25 ∧ FrH n S S' := by
  rw [show k + 13 = k + 12 + 1 from rfl, Fs_law_code]
  refine code_ok (tk (k + 11)) (cl (k + 9)) (fun L hL => ?_) hS h5
  have := gr L (k + 8 - L)
  rw [show k + 8 - L + 4 + L = k + 12 by omega] at this
  exact this
theorem bentK {B : Nat} (hB : B ≤ 500) (h3 : 3 ≤ B) : ∀ (deep k : Nat) {x : D} {S : Store}, U B x → Hand n S → (Fs (k + 4 + deep) 21 [.obj n, x, .int deep] S).sat fun d S' => Bent B x d ∧ FrH n S S'
  | 0, k, x, S, h, hS => bent_body hB h3 (tk (k + 2)) (pk (k + 1)) (fun h => odd (pk k) h) 0 (fun d e => by cases e) h hS
  | deep + 1, k, x, S, h, hS => by
    have h1 := tk (k + 3 + deep)
    have h2 := pk (k + 2 + deep)
    have h4 := pk (k + 1 + deep)
    rw [show k + 3 + deep + 1 = k + 4 + deep by omega] at h1
    rw [show k + 2 + deep + 2 = k + 4 + deep by omega] at h2
    rw [show k + 1 + deep + 2 = k + 3 + deep by omega] at h4
    have h6 : ∀ {S}, Hand n S → (Fs (k + 4 + deep) 20 [.obj n] S).sat fun d S' => Odd d ∧ FrH n S S' := fun {S} h => by
      have := odd h4 h
      rw [show k + 3 + deep + 1 = k + 4 + deep by omega] at this
      exact this
    rw [show k + 4 + (deep + 1) = k + 4 + deep + 1 from rfl]
    exact bent_body hB h3 h1 h2 h6 (deep + 1) (fun d e => by cases e; exact fun h hS => bentK hB h3 deep k h hS) h hS
theorem tm_wt : ∀ t : Tm, wt t.d ≤ 400 * t.size
  | .num _ => by simp [Tm.d, wt, wts, Tm.size]
  | .nam _ => by simp [Tm.d, wt, wts, Tm.size]
  | .nd w m ps => by
    have : ∀ ts : List Tm, (∀ t ∈ ts, wt t.d ≤ 400 * t.size) → wts (Tm.ds ts) ≤ 400 * Tm.sizes ts := by
      intro ts
      induction ts with
      | nil => intro _; simp [Tm.ds, wts]
      | cons t ts ih =>
        intro h
        have h1 := h t (List.mem_cons_self ..)
        have h2 := ih fun t ht => h t (List.mem_cons_of_mem _ ht)
        simp only [Tm.ds, wts, Tm.sizes]; omega
    have := this ps fun t _ => tm_wt t
    simp only [Tm.d, wt, wts, Tm.size]; omega
theorem tm_dp : ∀ t : Tm, dp t.d ≤ 2 * t.dep
  | .num _ => by simp [Tm.d, dp, dps, Tm.dep]
  | .nam _ => by simp [Tm.d, dp, dps, Tm.dep]
  | .nd w m ps => by
    have : ∀ ts : List Tm, (∀ t ∈ ts, dp t.d ≤ 2 * t.dep) → dps (Tm.ds ts) ≤ 2 * Tm.deps ts := by
      intro ts
      induction ts with
      | nil => intro _; simp [Tm.ds, dps]
      | cons t ts ih =>
        intro h
        have h1 := h t (List.mem_cons_self ..)
        have h2 := ih fun t ht => h t (List.mem_cons_of_mem _ ht)
        simp only [Tm.ds, dps, Tm.deps]; omega
    have := this ps fun t _ => tm_dp t
    simp only [Tm.d, dp, dps, Tm.dep]; omega
theorem law_true (ns : List Int) (hns : ns.length ≤ 63) : ∃ S, Fs 100 23 [.scr ns] [] = .ok (.bl true) S := by
  have key : (Fs 100 23 [.scr ns] []).sat fun d _ => d = .bl true := by
    rw [show (100 : Nat) = 99 + 1 from rfl, Fs_law, sat_run]
    refine ⟨rfl, ?_⟩
    unfold m_law
    refine seq_rule (fun e S => True) ?_ fun e S _ => by simp
    obtain ⟨m, hm, em⟩ : ∃ m : Nat, m ≤ 5 ∧ ∀ S, (eN maxD (aCons (eK (.int 1)) (aCons (eN minD (aCons (eK (.int 5)) (aCons (eN lenD (aCons (eVar 0) (aNil))) (aNil)))) (aNil))) [some (.scr ns), none, none, none, none, none] S) = .ok (.int m) S := by
      refine ⟨max 1 (min 5 ns.length), by omega, fun S => ?_⟩
      apply of_sat
      simp [minD, maxD]
      repeat' split
      all_goals omega
    simp only [ssat_for, sat_iArgs, sat_aCons, sat_aNil, List.map_cons, List.map_nil, List.cons_append, List.nil_append, List.length_cons, List.length_nil, Nat.zero_add, Nat.reduceSub, List.replicate, em, sat_ok, sat_range1]
    refine ⟨by simp [okRng]; omega, ?_⟩
    refine for_each (fun e S => ∃ a1 a2 a3 a4 a5 : Option D, e = [some (.scr ns), a1, a2, a3, a4, a5]) ⟨_, _, _, _, _, rfl⟩ ?_ fun _ _ _ => trivial
    rintro x hx e S ⟨a1, a2, a3, a4, a5, rfl⟩
    obtain ⟨i, rfl, i0, i1⟩ := mem_range hx
    simp only [gName_eq, ssat_nx, List.set_cons_succ, List.set_cons_zero]
    refine seq_rule (fun e S => ∃ n, (∃ a3 a4 a5 : Option D, e = [some (.scr ns), some (.int i), some (.obj n), a3, a4, a5]) ∧ Hand n S) ?_ ?_
    · simp only [ssat_asg, sat_eN, sat_aCons, sat_aNil, sat_eVar, List.getElem?_cons_succ, List.getElem?_cons_zero, callK_eq, List.append_nil]
      have hd : IsHand (Fs 99 8) := by rw [show (99 : Nat) = 98 + 1 from rfl, Fs_law_hand]; exact isHand
      refine sat_mono (hd S ns i i0 (by omega)) fun d S' ⟨e, g, s, eS⟩ => ?_
      subst e eS
      simp only [gName_eq, ssat_nx, List.set_cons_succ, List.set_cons_zero]
      exact ⟨_, ⟨_, _, _, rfl⟩, g, s, by simp⟩
    rintro e S ⟨n, ⟨a3, a4, a5, rfl⟩, hS⟩
    refine seq_rule (fun e S => ∃ t : Tm, (∃ a4 a5 : Option D, e = [some (.scr ns), some (.int i), some (.obj n), some t.d, a4, a5]) ∧ Good t ∧ t.dep ≤ 8 ∧ t.size ≤ 52 ∧ Hand n S) ?_ ?_
    · simp only [ssat_asg, sat_eN, sat_aCons, sat_aNil, sat_eVar, sat_eK, sat_e2, List.getElem?_cons_succ, List.getElem?_cons_zero, callK_eq, List.append_nil]
      refine sat_mono (tk 98 n S 22 hS (by decide) (by decide)) fun d S1 ⟨⟨f, e, f0, f1⟩, fr⟩ => ?_
      subst e
      rw [add_int, sat_ok]
      have := code 86 (left := (6 + f).toNat) fr.hd (by omega)
      rw [show (((6 + f).toNat : Nat) : Int) = 6 + f by omega] at this
      refine sat_mono this fun d S2 ⟨t, e, g, dp, sz, fr2⟩ => ?_
      subst e
      simp only [gName_eq, ssat_nx, List.set_cons_succ, List.set_cons_zero]
      exact ⟨t, ⟨_, _, rfl⟩, g, dp, by omega, fr2.hd⟩
    rintro e S ⟨t, ⟨a4, a5, rfl⟩, good, dep, size, hS⟩
    have ut := Good.u t good
    have w0 := tm_wt t
    have d0 := tm_dp t
    have pg : isPg t.d = true := by
      have := szz_tm 10 t (by omega)
      simp only [isPg, Good.ok 10 t good (by omega), this, Bool.true_and, decide_eq_true_eq]
      omega
    refine seq_rule (fun e S => (∃ a4 a5 : Option D, e = [some (.scr ns), some (.int i), some (.obj n), some t.d, a4, a5]) ∧ Hand n S) ?_ ?_
    · simp only [ssat_if, sat_tOr, sat_tNot, sat_tTruth, sat_eN, sat_aCons, sat_aNil, sat_eVar, List.getElem?_cons_succ, List.getElem?_cons_zero, callK_eq, List.append_nil]
      refine sat_mono (lprog (by decide) 83 ut (by omega) (by omega)) fun d S1 ⟨e, E⟩ => ?_
      subst e
      have hS1 := (E.frH hS).hd
      rw [pg, truthD_bl, sat_ok]
      simp only [Bool.not_true, Bool.false_eq_true, if_false]
      refine sat_mono (right (by decide) 82 ut (by omega) (by omega)) fun d S2 ⟨e, E2⟩ => ?_
      subst e
      rw [truthD_bl, sat_ok]
      simp only [Bool.not_true, Bool.false_eq_true, if_false, ssat_skip]
      exact ⟨⟨_, _, rfl⟩, (E2.frH hS1).hd⟩
    rintro e S ⟨⟨a4, a5, rfl⟩, hS⟩
    simp only [ssat_for, sat_iArgs, sat_aCons, sat_aNil, sat_eK, sat_range1]
    refine ⟨by decide, ?_⟩
    refine for_each (fun e S => (∃ a4 a5 : Option D, e = [some (.scr ns), some (.int i), some (.obj n), some t.d, a4, a5]) ∧ Hand n S) ⟨⟨_, _, rfl⟩, hS⟩ ?_ fun e S ⟨⟨a4, a5, h⟩, hS⟩ => ⟨_, _, _, _, _, h⟩
    rintro x hx e S ⟨⟨a4, a5, rfl⟩, hS⟩
    simp only [gName_eq, ssat_nx, List.set_cons_succ, List.set_cons_zero]
    have cnt : ∀ (B : Nat), 3 ≤ B → B ≤ 500 → ∀ y S, U B y → Hand n S → (Fs 99 21 [.obj n, y, .int 9] S).sat fun d S' => Bent B y d ∧ FrH n S S' := fun B h1 h2 y S hu hS => bentK h2 h1 9 86 hu hS
    refine seq_rule (fun e S => ∃ y, e = [some (.scr ns), some (.int i), some (.obj n), some t.d, some x, some y] ∧ U 7 y ∧ wt y ≤ 50000 ∧ dp y ≤ 20 ∧ Hand n S) ?_ ?_
    · simp only [ssat_asg, sat_eN, sat_aCons, sat_aNil, sat_eVar, sat_eK, List.getElem?_cons_succ, List.getElem?_cons_zero, callK_eq, List.append_nil]
      refine sat_mono (cnt 6 (by decide) (by decide) t.d S ut hS) fun y S1 ⟨b, fr⟩ => ?_
      simp only [gName_eq, ssat_nx, List.set_cons_succ, List.set_cons_zero]
      exact ⟨y, rfl, b.u, by have := b.w; omega, by have := b.d; omega, fr.hd⟩
    rintro e S ⟨y, rfl, uy, wy, dy, hS⟩
    refine seq_rule (fun e S => ∃ y, e = [some (.scr ns), some (.int i), some (.obj n), some t.d, some x, some y] ∧ U 8 y ∧ wt y ≤ 110000 ∧ dp y ≤ 23 ∧ Hand n S) ?_ ?_
    · simp only [ssat_if, sat_tOfE, sat_e2, sat_eN, sat_aCons, sat_aNil, sat_eVar, sat_eK, List.getElem?_cons_succ, List.getElem?_cons_zero, callK_eq, List.append_nil]
      refine sat_mono (tk 98 n S 3 hS (by decide) (by decide)) fun d S1 ⟨⟨f, e, f0, f1⟩, fr⟩ => ?_
      subst e
      rw [eq_int, sat_ok, blD_bl, sat_ok]
      by_cases hf : f = 0
      · simp only [hf, decide_true, if_true, ssat_asg, sat_eN, sat_aCons, sat_aNil, sat_eVar, sat_eK, List.getElem?_cons_succ, List.getElem?_cons_zero, callK_eq, List.append_nil]
        refine sat_mono (cnt 7 (by decide) (by decide) y S1 uy fr.hd) fun z S2 ⟨b, fr2⟩ => ?_
        simp only [gName_eq, ssat_nx, List.set_cons_succ, List.set_cons_zero]
        exact ⟨z, rfl, b.u, by have := b.w; omega, by have := b.d; omega, fr2.hd⟩
      · simp only [hf, decide_false, Bool.false_eq_true, if_false, ssat_skip]
        exact ⟨y, rfl, uy.mono (by decide), by omega, by omega, fr.hd⟩
    rintro e S ⟨z, rfl, uz, wz, dz, hS⟩
    simp only [ssat_if, sat_tNot, sat_tTruth, sat_eN, sat_aCons, sat_aNil, sat_eVar, List.getElem?_cons_succ, List.getElem?_cons_zero, callK_eq, List.append_nil]
    refine sat_mono (right (by decide) 82 uz (by omega) (by omega)) fun d S2 ⟨e, E2⟩ => ?_
    subst e
    rw [truthD_bl, sat_ok]
    simp only [Bool.not_true, Bool.false_eq_true, if_false, ssat_skip]
    exact ⟨⟨_, _, rfl⟩, (E2.frH hS).hd⟩
  obtain ⟨d, S, e, rfl⟩ := sat_ex.mp key
  exact ⟨S, e⟩
end K01
set_option Elab.async false
set_option linter.all false
set_option maxRecDepth 100000
set_option maxHeartbeats 4000000
open PySem PySem.W PyProof.Rows in
set_option maxRecDepth 100000 in
set_option maxHeartbeats 0 in
theorem PySem.Challenge.cw_holepatterns_k01_programs_spoilt_anywher_holds : PySem.Challenge.rw_holepatterns_k01_programs_spoilt_anywher.Holds := by
  w_on; o_law; k_head; (case hw => w_witness2)
  k_fill
  refine L3.walk (l := PySem.Challenge.rw_holepatterns_k01_programs_spoilt_anywher) (k := 100) (x := "_law_script") rfl (by decide +kernel) rfl ⟨rfl, by decide, by decide⟩ (fun w h Y => PySem.W.kIn_of Y) ?F
  case F =>
    intro w mg fa h KX G hmg
    refine' K01.all_mk KX G hmg K01.law_true ?a_is_whole ?l_is_whole ?c_is_whole ?k_is_whole ?a_is_number ?l_is_number ?c_is_number ?k_is_number ?w_is_number_high ?w_is_number_low ?a_is_name ?l_is_name ?c_is_name ?k_is_name ?a_is_leaf ?l_is_leaf ?c_is_leaf ?k_is_leaf ?a_is_mark ?l_is_mark ?c_is_mark ?k_is_mark ?a_is_thing_with ?l_is_thing_with ?c_is_thing_with ?k_is_thing_with ?w_is_thing_with_widest ?a_count_of ?l_count_of ?c_count_of ?k_count_of ?a_is_program ?l_is_program ?c_is_program ?k_is_program ?a_law_hand ?l_law_hand ?c_law_hand ?k_law_hand ?a_law_take ?l_law_take ?c_law_take ?k_law_take ?a_law_pick ?l_law_pick ?c_law_pick ?k_law_pick ?a_law_called ?l_law_called ?c_law_called ?k_law_called ?a_law_digit ?l_law_digit ?c_law_digit ?k_law_digit ?a_law_grown ?l_law_grown ?c_law_grown ?k_law_grown ?a_law_code ?l_law_code ?c_law_code ?k_law_code ?a_law_is_whole ?l_law_is_whole ?c_law_is_whole ?k_law_is_whole ?a_law_is_name ?l_law_is_name ?c_law_is_name ?k_law_is_name ?a_law_is_thing ?l_law_is_thing ?c_law_is_thing ?k_law_is_thing ?a_law_size ?l_law_size ?c_law_size ?k_law_size ?a_law_is_program ?l_law_is_program ?c_law_is_program ?k_law_is_program ?a_law_odd ?l_law_odd ?c_law_odd ?k_law_odd ?a_law_bent ?l_law_bent ?c_law_bent ?k_law_bent ?a_law_right ?l_law_right ?c_law_right ?k_law_right ?a_law ?l_law ?c_law ?k_law ?z_abs ?z_all ?z_bool ?z_int ?z_isinstance ?z_len ?z_list ?z_max ?z_min ?z_range ?z_repr ?z_str ?z_sum ?z_tuple ?x_LETTERS ?x_MOST_DEEP ?x_MOST_SIGNS ?x_MOST_THINGS ?x_NAME ?x_NUM ?x_ROW ?x_SHAPES ?l_SHAPES ?l_SHAPES_0 ?l_SHAPES_1 ?l_SHAPES_2 ?l_SHAPES_3 ?l_SHAPES_4 ?l_SHAPES_5 ?l_SHAPES_6 ?l_SHAPES_7 ?l_SHAPES_8 ?l_SHAPES_9 ?m_SHAPES ?h_SHAPES_9 ?h_SHAPES_8 ?h_SHAPES_7 ?h_SHAPES_6 ?h_SHAPES_5 ?h_SHAPES_4 ?h_SHAPES_3 ?h_SHAPES_2 ?h_SHAPES_1 ?h_SHAPES_0 ?x_WORDS ?l_WORDS
    (case a_is_whole => k_is)
    (case l_is_whole => k_is)
    (case c_is_whole => k_is)
    (case k_is_whole => k_is)
    (case a_is_number => k_is)
    (case l_is_number => k_is)
    (case c_is_number => k_is)
    (case k_is_number => k_is)
    (case w_is_number_high => k_is)
    (case w_is_number_low => k_is)
    (case a_is_name => k_is)
    (case l_is_name => k_is)
    (case c_is_name => k_is)
    (case k_is_name => k_is)
    (case a_is_leaf => k_is)
    (case l_is_leaf => k_is)
    (case c_is_leaf => k_is)
    (case k_is_leaf => k_is)
    (case a_is_mark => k_is)
    (case l_is_mark => k_is)
    (case c_is_mark => k_is)
    (case k_is_mark => k_is)
    (case a_is_thing_with => k_is)
    (case l_is_thing_with => k_is)
    (case c_is_thing_with => k_is)
    (case k_is_thing_with => k_is)
    (case w_is_thing_with_widest => k_is)
    (case a_count_of => k_is)
    (case l_count_of => k_is)
    (case c_count_of => k_is)
    (case k_count_of => k_is)
    (case a_is_program => k_is)
    (case l_is_program => k_is)
    (case c_is_program => k_is)
    (case k_is_program => k_is)
    (case a_law_hand => k_is)
    (case l_law_hand => k_is)
    (case c_law_hand => k_is)
    (case k_law_hand => k_is)
    (case a_law_take => k_is)
    (case l_law_take => k_is)
    (case c_law_take => k_is)
    (case k_law_take => k_is)
    (case a_law_pick => k_is)
    (case l_law_pick => k_is)
    (case c_law_pick => k_is)
    (case k_law_pick => k_is)
    (case a_law_called => k_is)
    (case l_law_called => k_is)
    (case c_law_called => k_is)
    (case k_law_called => k_is)
    (case a_law_digit => k_is)
    (case l_law_digit => k_is)
    (case c_law_digit => k_is)
    (case k_law_digit => k_is)
    (case a_law_grown => k_is)
    (case l_law_grown => k_is)
    (case c_law_grown => k_is)
    (case k_law_grown => k_is)
    (case a_law_code => k_is)
    (case l_law_code => k_is)
    (case c_law_code => k_is)
    (case k_law_code => k_is)
    (case a_law_is_whole => k_is)
    (case l_law_is_whole => k_is)
    (case c_law_is_whole => k_is)
    (case k_law_is_whole => k_is)
    (case a_law_is_name => k_is)
    (case l_law_is_name => k_is)
    (case c_law_is_name => k_is)
    (case k_law_is_name => k_is)
    (case a_law_is_thing => k_is)
    (case l_law_is_thing => k_is)
    (case c_law_is_thing => k_is)
    (case k_law_is_thing => k_is)
    (case a_law_size => k_is)
    (case l_law_size => k_is)
    (case c_law_size => k_is)
    (case k_law_size => k_is)
    (case a_law_is_program => k_is)
    (case l_law_is_program => k_is)
    (case c_law_is_program => k_is)
    (case k_law_is_program => k_is)
    (case a_law_odd => k_is)
    (case l_law_odd => k_is)
    (case c_law_odd => k_is)
    (case k_law_odd => k_is)
    (case a_law_bent => k_is)
    (case l_law_bent => k_is)
    (case c_law_bent => k_is)
    (case k_law_bent => k_is)
    (case a_law_right => k_is)
    (case l_law_right => k_is)
    (case c_law_right => k_is)
    (case k_law_right => k_is)
    (case a_law => k_is)
    (case l_law => k_is)
    (case c_law => k_is)
    (case k_law => k_is)
    (case z_abs => k_is)
    (case z_all => k_is)
    (case z_bool => k_is)
    (case z_int => k_is)
    (case z_isinstance => k_is)
    (case z_len => k_is)
    (case z_list => k_is)
    (case z_max => k_is)
    (case z_min => k_is)
    (case z_range => k_is)
    (case z_repr => k_is)
    (case z_str => k_is)
    (case z_sum => k_is)
    (case z_tuple => k_is)
    (case x_LETTERS => k_is)
    (case x_MOST_DEEP => k_is)
    (case x_MOST_SIGNS => k_is)
    (case x_MOST_THINGS => k_is)
    (case x_NAME => k_is)
    (case x_NUM => k_is)
    (case x_ROW => k_is)
    (case x_SHAPES => k_is)
    (case l_SHAPES => k_is)
    (case l_SHAPES_0 => k_is)
    (case l_SHAPES_1 => k_is)
    (case l_SHAPES_2 => k_is)
    (case l_SHAPES_3 => k_is)
    (case l_SHAPES_4 => k_is)
    (case l_SHAPES_5 => k_is)
    (case l_SHAPES_6 => k_is)
    (case l_SHAPES_7 => k_is)
    (case l_SHAPES_8 => k_is)
    (case l_SHAPES_9 => k_is)
    (case m_SHAPES => rfl)
    (case h_SHAPES_9 => rfl)
    (case h_SHAPES_8 => rfl)
    (case h_SHAPES_7 => rfl)
    (case h_SHAPES_6 => rfl)
    (case h_SHAPES_5 => rfl)
    (case h_SHAPES_4 => rfl)
    (case h_SHAPES_3 => rfl)
    (case h_SHAPES_2 => rfl)
    (case h_SHAPES_1 => rfl)
    (case h_SHAPES_0 => rfl)
    (case x_WORDS => k_is)
    (case l_WORDS => k_is)
