import PyProof.Rows.All
import Wide.All
import OpenK.AllK
import Wide.FinOn
import HandS.Base
import HandS.Call
import HandS.List
import HandS.Comp
import HandS.Dict
import HandS.Iter
import HandS.Text
import HandS.Exc
import HandS.Ends
import HandS.Words
import HandS.WordsExc
import HandS.ExcOwn
import HandS.CallSlots
import HandS.CallLocal
import HandS.Defaults
import HandS.IsInst
import HandS.TupAny
import HandS.DictComp
import HandS.Style
import HandS.Wide
import HandS.TryOnly
import HandS.More
import HandS.Deep
import PyProof.StrOps2
import PySem.Challenge.RW_holepatterns_k02_programs_at_their_bound
set_option Elab.async false
set_option linter.all false
set_option maxRecDepth 100000
/-! L3A: plain values, a store of mutable objects, results, and what each construct denotes. -/
namespace L3
open PySem

inductive D where
  | non | bl (b : Bool) | int (i : Int) | str (s : Str) | tup (l : List D) | lst (l : List D)
  | dic (ks : List L2.Key) (l : List D) | obj (n : Nat) | glb (x : Str) | ty (n : String) | scr (l : List Int) | kd (ks : List Str) (l : List D)
deriving Inhabited

inductive O where
  | lst (l : List D) | dK (l : List (L2.Key × D)) | dT (l : List (List L2.Key × D)) | ins (c : Str) (fs : List (Str × D)) | dead

abbrev Store := List O
structure Ex where
  cls : Str
  fs : List (Str × D)

inductive R (α : Type) where
  | ok (a : α) (S : Store) | exc (e : Ex) (S : Store) | bad
@[reducible] def R.bind {α β : Type} (r : R α) (f : α → Store → R β) : R β :=
  match r with
  | .ok a S => f a S
  | .exc e S => .exc e S
  | .bad => .bad

abbrev EnvD := List (Option D)
abbrev ED := EnvD → Store → R D
abbrev TD := EnvD → Store → R Bool
abbrev AD := EnvD → Store → R (List D)
inductive SR where
  | nx (env : EnvD) (S : Store) | ret (d : D) (S : Store) | brk (env : EnvD) (S : Store) | ct (env : EnvD) (S : Store) | exc (e : Ex) (env : EnvD) (S : Store) | bad
abbrev SD := EnvD → Store → SR
def R.toS {α : Type} (env : EnvD) (r : R α) (k : α → Store → SR) : SR :=
  match r with
  | .ok a S => k a S
  | .exc e S => .exc e env S
  | .bad => .bad

/-! ### expressions -/
def eVar (i : Nat) : ED := fun env S => match env[i]? with
  | some (some d) => .ok d S
  | _ => .bad
def eK (d : D) : ED := fun _ S => .ok d S
abbrev F1 := D → Store → R D
abbrev F2 := D → D → Store → R D
abbrev FN := List D → Store → R D
def e1 (f : F1) (a : ED) : ED := fun env S => (a env S).bind fun x S1 => f x S1
def e2 (f : F2) (a b : ED) : ED := fun env S => (a env S).bind fun x S1 => (b env S1).bind fun y S2 => f x y S2
def aNil : AD := fun _ S => .ok [] S
def aCons (a : ED) (r : AD) : AD := fun env S => (a env S).bind fun x S1 => (r env S1).bind fun xs S2 => .ok (x :: xs) S2
def eN (f : FN) (a : AD) : ED := fun env S => (a env S).bind fun xs S1 => f xs S1
/-- o.m(..): the receiver, the arguments -/
def eM (f : D → FN) (o : ED) (a : AD) : ED := fun env S => (o env S).bind fun x S1 => (a env S1).bind fun xs S2 => f x xs S2
def eIf (c : TD) (a b : ED) : ED := fun env S => (c env S).bind fun k S1 => match k with
  | true => a env S1
  | false => b env S1
/-! ### tests -/
def tOfE (a : ED) : TD := fun env S => (a env S).bind fun x S1 => match x with
  | .bl k => .ok k S1
  | _ => .bad
def truthD (x : D) (S : Store) : R Bool := match x with
  | .bl k => .ok k S
  | .non => .ok false S
  | .int i => .ok (i != 0) S
  | .str s => if s.length ≤ sizeLine then .ok (s.length != 0) S else .bad
  | .tup l => .ok (!l.isEmpty) S
  | .lst l => .ok (!l.isEmpty) S
  | .obj n => match S[n]? with
    | some (.lst l) => .ok (!l.isEmpty) S
    | _ => .bad
  | _ => .bad
def tTruth (a : ED) : TD := fun env S => (a env S).bind fun x S1 => truthD x S1
def tNot (a : TD) : TD := fun env S => (a env S).bind fun k S1 => .ok (!k) S1
def tAnd (a b : TD) : TD := fun env S => (a env S).bind fun k S1 => match k with
  | true => b env S1
  | false => .ok false S1
def tOr (a b : TD) : TD := fun env S => (a env S).bind fun k S1 => match k with
  | true => .ok true S1
  | false => b env S1
/-- and, or, not as values of truths -/
def eNot (a : ED) : ED := fun env S => (tOfE a env S).bind fun k S1 => .ok (.bl (!k)) S1
def eAnd (a b : ED) : ED := fun env S => (tOfE a env S).bind fun k S1 => match k with
  | true => b env S1
  | false => .ok (.bl false) S1
def eOr (a b : ED) : ED := fun env S => (tOfE a env S).bind fun k S1 => match k with
  | true => .ok (.bl true) S1
  | false => b env S1
/-- a < b < c -/
def eChain (f g : F2) (a b c : ED) : ED := fun env S => (a env S).bind fun x S1 => (b env S1).bind fun y S2 => (f x y S2).bind fun k S3 => match k with
  | .bl true => (c env S3).bind fun z S4 => g y z S4
  | .bl false => .ok (.bl false) S3
  | _ => .bad

/-! ### displays -/
def mkTup : FN := fun xs S => if xs.length ≤ sizeLine then .ok (.tup xs) S else .bad
def mkLst : FN := fun xs S => if xs.length ≤ sizeLine then .ok (.lst xs) S else .bad
/-- a list that will be changed -/
def mkObj : FN := fun xs S => if xs.length ≤ sizeLine then .ok (.obj S.length) (S ++ [.lst xs]) else .bad

/-! ### statements -/
def sSkip : SD := fun env S => .nx env S
def sSeq (a b : SD) : SD := fun env S => match a env S with
  | .nx env1 S1 => b env1 S1
  | r => r
def sIf (c : TD) (a b : SD) : SD := fun env S => (c env S).toS env fun k S1 => match k with
  | true => a env S1
  | false => b env S1
def sRet (a : ED) : SD := fun env S => (a env S).toS env fun d S1 => .ret d S1
def sExpr (a : ED) : SD := fun env S => (a env S).toS env fun _ S1 => .nx env S1
def sBrk : SD := fun env S => .brk env S
def sCt : SD := fun env S => .ct env S
/-- a target -/
abbrev GD := D → EnvD → Store → SR
def gName (i : Nat) : GD := fun d env S => .nx (env.set i (some d)) S
def sAsg (a : ED) (g : GD) : SD := fun env S => (a env S).toS env fun d S1 => g d env S1
/-- several names -/
def gNames : List Nat → List D → EnvD → Store → SR
  | [], [], env, S => .nx env S
  | i :: is, d :: ds, env, S => gNames is ds (env.set i (some d)) S
  | _, _, _, _ => .bad
def gTup (is : List Nat) : GD := fun d env S => match d with
  | .tup l => gNames is l env S
  | _ => .bad
/-- a for over written items -/
def forL (g : GD) (body : SD) : List D → EnvD → Store → SR
  | [], env, S => .nx env S
  | x :: xs, env, S => match g x env S with
    | .nx env1 S1 => match body env1 S1 with
      | .nx env2 S2 => forL g body xs env2 S2
      | .ct env2 S2 => forL g body xs env2 S2
      | .brk env2 S2 => .nx env2 S2
      | .ret d S2 => .ret d S2
      | .exc e env2 S2 => .exc e env2 S2
      | .bad => .bad
    | _ => .bad
def sWhile (c : TD) (body : SD) : Nat → SD
  | 0, _, _ => .bad
  | n + 1, env, S => (c env S).toS env fun k S1 => match k with
    | false => .nx env S1
    | true => match body env S1 with
      | .nx env2 S2 => sWhile c body n env2 S2
      | .ct env2 S2 => sWhile c body n env2 S2
      | .brk env2 S2 => .nx env2 S2
      | .ret d S2 => .ret d S2
      | .exc e env2 S2 => .exc e env2 S2
      | .bad => .bad
def SR.fin : SR → R D
  | .nx _ S1 => .ok .non S1
  | .ret d S1 => .ok d S1
  | .exc e _ S1 => .exc e S1
  | _ => .bad
/-- a def's body at its arguments: np parameters, n slots -/
def run (np n : Nat) (body : SD) : FN := fun xs S => if xs.length = np then (body (xs.map some ++ List.replicate (n - xs.length) none) S).fin else .bad
end L3
set_option Elab.async false
set_option linter.all false
set_option maxRecDepth 100000
/-! L3B: how plain values, the store and results stand for the model's; the rules. -/
namespace L3
open PySem PySem.Spec PyProof.Rows L2

structure GC where
  K : PySem.W.Frag
  w : World
  mg : Str → Option Value
structure Wd where
  mu : List Addr
  S : Store
  H : Hp
  /-- lists and dicts that are being made around here: nothing refers to them -/
  tmp : List Addr

def O.live : O → Prop
  | .dead => False
  | _ => True
def MutS (w : Wd) (a : Addr) : Prop := ∃ (n : Nat) (o : O), w.S[n]? = some o ∧ o.live ∧ w.mu[n]? = some a
def Mut (w : Wd) (a : Addr) : Prop := MutS w a ∨ a ∈ w.tmp
/-- read, never written -/
def Fz (w : Wd) (a : Addr) (u : HO) : Prop := Rd w.H a u ∧ ¬ Mut w a
def KT (K : PySem.W.Frag) (a : Addr) (xs : List V) : Prop :=
  ∃ (o : Obj) (its : Array Value) (n : Nat), K.lookup a = some o ∧ o.cls = .type "tuple" ∧ o.data = .seq its n ∧ its.size ≤ sizeLine ∧ Vals xs its.toList
def KL (K : PySem.W.Frag) (a : Addr) (xs : List V) : Prop :=
  ∃ (o : Obj) (its : Array Value) (n : Nat), K.lookup a = some o ∧ o.cls = .type "list" ∧ o.dict = none ∧ o.data = .seq its n ∧ its.size ≤ sizeLine ∧ Vals xs its.toList

mutual
def Rep (G : GC) (w : Wd) : D → V → Prop
  | .non, v => v = .non
  | .bl b, v => v = .bl b
  | .int i, v => v = .int i
  | .str s, v => v = .str s
  | .tup l, v => ∃ a vs, v = .ref a ∧ (Fz w a (.tup vs) ∨ KT G.K a vs) ∧ RepL G w l vs
  | .lst l, v => ∃ a vs, v = .ref a ∧ w.H a = some (.lst vs) ∧ ¬ Mut w a ∧ RepL G w l vs
  | .dic ks l, v => ∃ a vs, v = .ref a ∧ w.H a = some (.dK (ks.zip vs)) ∧ ¬ Mut w a ∧ ks.length = l.length ∧ RepL G w l vs
  | .obj n, v => ∃ a, w.mu[n]? = some a ∧ v = .ref a
  | .glb x, v => ∃ u, G.mg x = some u ∧ RelV v u
  | .ty n, v => v = .ty n
  | .scr ns, v => ∃ a, v = .ref a ∧ (Fz w a (.lst (ns.map V.int)) ∨ KL G.K a (ns.map V.int))
  | .kd ks l, v => ∃ a es n vs us, v = .ref a ∧ KDict G.K G.w a es n ∧ (∀ z, PySem.W.nsIn G.K a z = some ((ks.zip us).lookup z)) ∧ ks.length = l.length ∧ Vals vs us ∧ RepL G w l vs
def RepL (G : GC) (w : Wd) : List D → List V → Prop
  | [], vs => vs = []
  | d :: ds, vs => ∃ v r, vs = v :: r ∧ Rep G w d v ∧ RepL G w ds r
end

def RepKV {κ : Type} (G : GC) (w : Wd) : List (κ × D) → List (κ × V) → Prop
  | [], x => x = []
  | p :: r, x => ∃ v y, x = (p.1, v) :: y ∧ Rep G w p.2 v ∧ RepKV G w r y
def ORep (G : GC) (w : Wd) (a : Addr) : O → Prop
  | .lst ds => ∃ vs, w.H a = some (.lst vs) ∧ RepL G w ds vs
  | .dK kvs => ∃ vs, w.H a = some (.dK vs) ∧ RepKV G w kvs vs
  | .dT kvs => ∃ vs, w.H a = some (.dT vs) ∧ RepKV G w kvs vs
  | .ins c fs => ∃ C dx vs, w.H a = some (.ins C dx vs) ∧ RepKV G w fs vs ∧ G.mg c = some (.ref C)
  | .dead => True
structure SRep (G : GC) (w : Wd) : Prop where
  len : w.mu.length = w.S.length
  inj : ∀ (n m : Nat) (a : Addr) (o o' : O), w.S[n]? = some o → w.S[m]? = some o' → o.live → o'.live → w.mu[n]? = some a → w.mu[m]? = some a → n = m
  obj : ∀ (n : Nat) (o : O) (a : Addr), w.S[n]? = some o → w.mu[n]? = some a → ORep G w a o
  tm : ∀ a ∈ w.tmp, (∃ u, w.H a = some u) ∧ ¬ MutS w a
structure ERep (G : GC) (w : Wd) (env : EnvD) (σ : L2.St) : Prop where
  len : env.length = σ.length
  at' : ∀ (i : Nat) (d : D), env[i]? = some (some d) → ∃ v : V, σ[i]? = some (some v) ∧ Rep G w d v
/-- from w to w': all is kept but what the store holds, and what stands at T -/
structure WX' (T : List Addr) (w w' : Wd) : Prop where
  mu : ∀ (n : Nat) (a : Addr), w.mu[n]? = some a → w'.mu[n]? = some a
  keep : ∀ (a : Addr) (o : HO), w.H a = some o → ¬ MutS w a → a ∉ T → w'.H a = some o ∧ ¬ MutS w' a
  tmp : ∀ a ∈ w'.tmp, a ∈ w.tmp ∨ a ∈ T
  tmp' : ∀ a ∈ w.tmp, a ∈ w'.tmp
abbrev WExt (w w' : Wd) : Prop := WX' [] w w'
theorem WExt.refl (w : Wd) : WExt w w := ⟨fun _ _ h => h, fun _ _ h h' _ => ⟨h, h'⟩, fun _ h => .inl h, fun _ h => h⟩
theorem WX'.trans {T : List Addr} {a b c : Wd} (x : WX' T a b) (y : WX' T b c) : WX' T a c :=
  ⟨fun n d h => y.mu n d (x.mu n d h), fun d o h h' t => let ⟨h1, h2⟩ := x.keep d o h h' t; y.keep d o h1 h2 t, fun d h => (y.tmp d h).elim (x.tmp d) .inr, fun d h => y.tmp' d (x.tmp' d h)⟩
theorem WX'.wide {T : List Addr} {a b : Wd} (x : WExt a b) : WX' T a b := ⟨x.mu, fun d o h h' _ => x.keep d o h h' (by simp), fun d h => (x.tmp d h).imp id fun z => by simp at z, x.tmp'⟩
/-- what may change is in the making, or not there yet -/
def Tok (T : List Addr) (w : Wd) : Prop := ∀ a ∈ T, a ∈ w.tmp ∨ w.H a = none
theorem WX'.keepM {T : List Addr} {w w' : Wd} (x : WX' T w w') (hT : Tok T w) {a : Addr} {o : HO} (h : w.H a = some o) (nm : ¬ Mut w a) : w'.H a = some o ∧ ¬ Mut w' a := by
  have nT : a ∉ T := fun z => (hT a z).elim (fun z => nm (.inr z)) fun z => by rw [h] at z; cases z
  obtain ⟨h1, h2⟩ := x.keep a o h (fun z => nm (.inl z)) nT
  exact ⟨h1, fun z => z.elim h2 fun z => (x.tmp a z).elim (fun z => nm (.inr z)) nT⟩
section
variable {T : List Addr} {G : GC} {w w' : Wd}
theorem Fz.monoT {a : Addr} {u : HO} (x : WX' T w w') (hT : Tok T w) (h : Fz w a u) : Fz w' a u := by
  obtain ⟨h | ⟨o, h⟩, nm⟩ := h
  · obtain ⟨h1, h2⟩ := x.keepM hT h nm; exact ⟨.inl h1, h2⟩
  · obtain ⟨h1, h2⟩ := x.keepM hT h nm; exact ⟨.inr ⟨o, h1⟩, h2⟩
mutual
theorem Rep.monoT (x : WX' T w w') (hT : Tok T w) : ∀ (d : D) (v : V), Rep G w d v → Rep G w' d v
  | .non, v, h => by simpa only [Rep] using h
  | .bl b, v, h => by simpa only [Rep] using h
  | .int i, v, h => by simpa only [Rep] using h
  | .str s, v, h => by simpa only [Rep] using h
  | .tup l, v, h => by
    simp only [Rep] at h ⊢
    obtain ⟨a, vs, e, h1, h2⟩ := h
    exact ⟨a, vs, e, h1.imp (Fz.monoT x hT) id, RepL.monoT x hT l vs h2⟩
  | .lst l, v, h => by
    simp only [Rep] at h ⊢
    obtain ⟨a, vs, e, h1, nm, h2⟩ := h
    obtain ⟨q1, q2⟩ := x.keepM hT h1 nm
    exact ⟨a, vs, e, q1, q2, RepL.monoT x hT l vs h2⟩
  | .dic ks l, v, h => by
    simp only [Rep] at h ⊢
    obtain ⟨a, vs, e, h1, nm, hl, h2⟩ := h
    obtain ⟨q1, q2⟩ := x.keepM hT h1 nm
    exact ⟨a, vs, e, q1, q2, hl, RepL.monoT x hT l vs h2⟩
  | .obj n, v, h => by
    simp only [Rep] at h ⊢
    obtain ⟨a, h1, e⟩ := h
    exact ⟨a, x.mu n a h1, e⟩
  | .glb y, v, h => by simpa only [Rep] using h
  | .ty n, v, h => by simpa only [Rep] using h
  | .scr ns, v, h => by
    simp only [Rep] at h ⊢
    obtain ⟨a, e, h1⟩ := h
    exact ⟨a, e, h1.imp (Fz.monoT x hT) id⟩
  | .kd ks l, v, h => by
    simp only [Rep] at h ⊢
    obtain ⟨a, es, n, vs, us, e, h1, h2, h3, h4, h5⟩ := h
    exact ⟨a, es, n, vs, us, e, h1, h2, h3, h4, RepL.monoT x hT l vs h5⟩
theorem RepL.monoT (x : WX' T w w') (hT : Tok T w) : ∀ (d : List D) (v : List V), RepL G w d v → RepL G w' d v
  | [], v, h => by simpa only [RepL] using h
  | d :: ds, v, h => by
    simp only [RepL] at h ⊢
    obtain ⟨y, r, e, h1, h2⟩ := h
    exact ⟨y, r, e, Rep.monoT x hT d y h1, RepL.monoT x hT ds r h2⟩
end
end
theorem noT {w : Wd} : Tok [] w := fun _ h => by simp at h
theorem Rep.mono {G : GC} {w w' : Wd} (x : WExt w w') (d : D) (v : V) (h : Rep G w d v) : Rep G w' d v := Rep.monoT x noT d v h
theorem RepL.mono {G : GC} {w w' : Wd} (x : WExt w w') (d : List D) (v : List V) (h : RepL G w d v) : RepL G w' d v := RepL.monoT x noT d v h
theorem RepKV.monoT {κ : Type} {T : List Addr} {G : GC} {w w' : Wd} (x : WX' T w w') (hT : Tok T w) : ∀ (d : List (κ × D)) (v : List (κ × V)), RepKV G w d v → RepKV G w' d v
  | [], v, h => h
  | d :: ds, v, h => by
    obtain ⟨y, r, e, h1, h2⟩ := h
    exact ⟨y, r, e, Rep.monoT x hT _ y h1, RepKV.monoT x hT ds r h2⟩
theorem RepKV.mono {κ : Type} {G : GC} {w w' : Wd} (x : WExt w w') (d : List (κ × D)) (v : List (κ × V)) (h : RepKV G w d v) : RepKV G w' d v := RepKV.monoT x noT d v h
theorem ERep.monoT {T : List Addr} {G : GC} {w w' : Wd} {env : EnvD} {σ : L2.St} (x : WX' T w w') (hT : Tok T w) (h : ERep G w env σ) : ERep G w' env σ :=
  ⟨h.len, fun i d e => let ⟨v, h1, h2⟩ := h.at' i d e; ⟨v, h1, Rep.monoT x hT d v h2⟩⟩
theorem ERep.mono {G : GC} {w w' : Wd} {env : EnvD} {σ : L2.St} (x : WExt w w') (h : ERep G w env σ) : ERep G w' env σ := ERep.monoT x noT h
theorem ERep.set {G : GC} {w : Wd} {env : EnvD} {σ : L2.St} {d : D} {v : V} (i : Nat) (h : ERep G w env σ) (r : Rep G w d v) : ERep G w (env.set i (some d)) (σ.set i (some v)) := by
  refine ⟨by simp [h.len], fun j d' e => ?_⟩
  by_cases hj : i = j
  · subst hj
    by_cases hi : i < env.length
    · rw [List.getElem?_set_self hi] at e
      cases e
      exact ⟨v, List.getElem?_set_self (by rw [← h.len]; exact hi), r⟩
    · rw [List.getElem?_eq_none (by simpa using hi)] at e
      cases e
  · rw [List.getElem?_set_ne hj] at e ⊢
    exact h.at' j d' e

/-- an exception in the air -/
def XRep (G : GC) (w : Wd) (e : Ex) (C : Value) (dx : Option Addr) : Prop :=
  (∃ Ca, G.mg e.cls = some (.ref Ca) ∧ C = .ref Ca) ∧ (e.fs = [] ∨ ∃ d kvs, dx = some d ∧ w.H d = some (.xd kvs) ∧ ¬ Mut w d ∧ RepKV G w e.fs kvs)

def Post {α β : Type} (G : GC) (w : Wd) (r : R α) (Ra : Wd → α → β → Prop) (Q : β → Hp → Prop) (E : Value → Option Addr → Hp → Prop) : Prop :=
  match r with
  | .ok d S' => ∀ v w', WExt w w' → w'.S = S' → SRep G w' → Ra w' d v → Q v w'.H
  | .exc e S' => ∀ C dx w', WExt w w' → w'.S = S' → SRep G w' → XRep G w' e C dx → E C dx w'.H
  | .bad => False
section
variable {α β γ δ : Type} {G : GC} {w w' : Wd} {r : R α} {Ra : Wd → α → β → Prop} {Rb : Wd → γ → δ → Prop} {Q Q' : β → Hp → Prop} {E E' : Value → Option Addr → Hp → Prop}
theorem Post.shift (x : WExt w w') (h : Post G w r Ra Q E) : Post G w' r Ra Q E := by
  cases r with
  | ok d S' => exact fun v w2 e hs sr rp => h v w2 (WX'.trans x e) hs sr rp
  | exc e S' => exact fun C dx w2 e hs sr rp => h C dx w2 (WX'.trans x e) hs sr rp
  | bad => exact h
theorem Post.mono (h : Post G w r Ra Q E) (hq : ∀ v H, Q v H → Q' v H) (he : ∀ C d H, E C d H → E' C d H) : Post G w r Ra Q' E' := by
  cases r with
  | ok d S' => exact fun v w2 e hs sr rp => hq _ _ (h v w2 e hs sr rp)
  | exc e S' => exact fun C dx w2 e hs sr rp => he _ _ _ (h C dx w2 e hs sr rp)
  | bad => exact h
/-- what a bind asks of its first part -/
def Mid {β : Type} (G : GC) (w : Wd) (Ra : Wd → α → β → Prop) (P : Wd → α → Prop) (x : β) (H1 : Hp) : Prop :=
  ∃ w1 d, w1.H = H1 ∧ WExt w w1 ∧ SRep G w1 ∧ Ra w1 d x ∧ P w1 d
theorem Post.bind {f : α → Store → R γ} {Q : δ → Hp → Prop} (h : Post G w (r.bind f) Rb Q E) :
    Post G w r Ra (Mid G w Ra fun w1 d => Post G w1 (f d w1.S) Rb Q E) E := by
  cases r with
  | ok d S' =>
    intro v w1 e hs sr rp
    refine ⟨w1, d, rfl, e, sr, rp, ?_⟩
    subst hs
    exact Post.shift e h
  | exc e S' => exact h
  | bad => exact h
theorem Post.ret {a : α} {b : β} (sr : SRep G w) (ra : Ra w a b) (h : Post G w (.ok a w.S) Ra Q E) : Q b w.H := h b w (.refl w) rfl sr ra
end

def tE (G : GC) (m : ED) (Wx : WX) : TE := fun σ H Q => ∃ w env, w.H = H ∧ SRep G w ∧ ERep G w env σ ∧ Post G w (m env w.S) (Rep G) Q (fun C dx H' => Wx C dx σ H')
def tT (G : GC) (m : TD) (Wx : WX) : TT := fun σ H Q => ∃ w env, w.H = H ∧ SRep G w ∧ ERep G w env σ ∧ Post G w (m env w.S) (fun _ a b => a = b) Q (fun C dx H' => Wx C dx σ H')
def tA (G : GC) (m : AD) (Wx : WX) : TA := fun σ H Q => ∃ w env, w.H = H ∧ SRep G w ∧ ERep G w env σ ∧ Post G w (m env w.S) (RepL G) Q (fun C dx H' => Wx C dx σ H')
def PostS (G : GC) (w : Wd) (r : SR) (D : Ends) (Wx : WX) : Prop :=
  match r with
  | .nx env' S' => ∀ σ' w', WExt w w' → w'.S = S' → SRep G w' → ERep G w' env' σ' → D.nx σ' w'.H
  | .ret d S' => ∀ v w', WExt w w' → w'.S = S' → SRep G w' → Rep G w' d v → D.rt v w'.H
  | .brk env' S' => ∀ σ' w', WExt w w' → w'.S = S' → SRep G w' → ERep G w' env' σ' → D.bk σ' w'.H
  | .ct env' S' => ∀ σ' w', WExt w w' → w'.S = S' → SRep G w' → ERep G w' env' σ' → D.ct σ' w'.H
  | .exc e env' S' => ∀ C dx σ' w', WExt w w' → w'.S = S' → SRep G w' → ERep G w' env' σ' → XRep G w' e C dx → Wx C dx σ' w'.H
  | .bad => False
def tS (G : GC) (m : SD) (Wx : WX) : TS := fun D σ H => ∃ w env, w.H = H ∧ SRep G w ∧ ERep G w env σ ∧ PostS G w (m env w.S) D Wx
theorem PostS.shift {G : GC} {w w' : Wd} {r : SR} {D : Ends} {Wx : WX} (x : WExt w w') (h : PostS G w r D Wx) : PostS G w' r D Wx := by
  cases r with
  | nx env S' => exact fun v w2 e hs sr rp => h v w2 (WX'.trans x e) hs sr rp
  | ret d S' => exact fun v w2 e hs sr rp => h v w2 (WX'.trans x e) hs sr rp
  | brk env S' => exact fun v w2 e hs sr rp => h v w2 (WX'.trans x e) hs sr rp
  | ct env S' => exact fun v w2 e hs sr rp => h v w2 (WX'.trans x e) hs sr rp
  | exc e env S' => exact fun C dx σ w2 e hs sr er rp => h C dx σ w2 (WX'.trans x e) hs sr er rp
  | bad => exact h
/-- an expression's result taken on by a statement -/
theorem PostS.ofR {α β : Type} {G : GC} {w : Wd} {r : R α} {Ra : Wd → α → β → Prop} {k : α → Store → SR} {D : Ends} {Wx : WX} {env : EnvD} {σ : L2.St} (er : ERep G w env σ) (h : PostS G w (r.toS env k) D Wx) :
    Post G w r Ra (Mid G w Ra fun w1 d => PostS G w1 (k d w1.S) D Wx) (fun C dx H' => Wx C dx σ H') := by
  cases r with
  | ok d S' =>
    intro v w1 e hs sr rp
    refine ⟨w1, d, rfl, e, sr, rp, ?_⟩
    subst hs
    exact PostS.shift e h
  | exc e S' => exact fun C dx w2 x hs sr rp => h C dx σ w2 x hs sr (er.mono x) rp
  | bad => exact h

/-! ### weaker readings -/
theorem peI {X : Cx} {e : Expr} {t t' : TE} (h : PE X e t) (i : ∀ σ H Q, t' σ H Q → t σ H Q) : PE X e t' := ⟨fun pins s σ H Q I q => h.run pins s σ H Q I (i _ _ _ q)⟩
theorem ptI {X : Cx} {e : Expr} {t t' : TT} (h : PT X e t) (i : ∀ σ H Q, t' σ H Q → t σ H Q) : PT X e t' := ⟨fun pins s σ H Q I q => h.run pins s σ H Q I (i _ _ _ q)⟩
theorem pwI {X : Cx} {e : Expr} {t t' : TT} (h : PW X e t) (i : ∀ σ H Q, t' σ H Q → t σ H Q) : PW X e t' := ⟨fun wh pins s σ H Q I q => h.run wh pins s σ H Q I (i _ _ _ q)⟩
theorem paI {X : Cx} {e : List Expr} {t t' : TA} (h : PA X e t) (i : ∀ σ H Q, t' σ H Q → t σ H Q) : PA X e t' := ⟨fun po pins s σ H Q I q => h.run po pins s σ H Q I (i _ _ _ q)⟩
theorem psI {X : Cx} {e : Stmt} {t t' : TS} (h : PS X e t) (i : ∀ D σ H, t' D σ H → t D σ H) : PS X e t' := ⟨fun pins s σ H D I q => h.run pins s σ H D I (i _ _ _ q)⟩
theorem pssI {X : Cx} {e : List Stmt} {t t' : TS} (h : PSs X e t) (i : ∀ D σ H, t' D σ H → t D σ H) : PSs X e t' := ⟨fun pins s σ H D I q => h.run pins s σ H D I (i _ _ _ q)⟩

abbrev WF : WX := fun _ _ _ _ => False

section
variable {G : GC} {X : Cx} {Wx : WX} {pos : Pos}
/-! ### expressions -/
theorem q_var {e : Expr} {i : Nat} (h : PE X e (tVar i)) : PE X e (tE G (eVar i) Wx) := peI h fun σ H Q q => by
  obtain ⟨w, env, rfl, sr, er, p⟩ := q
  unfold eVar at p
  cases hi : env[i]? with
  | none => rw [hi] at p; exact p.elim
  | some o =>
    cases o with
    | none => rw [hi] at p; exact p.elim
    | some d =>
      rw [hi] at p
      obtain ⟨v, e, r⟩ := er.at' i d hi
      exact ⟨v, e, Post.ret sr r p⟩
theorem q_const {e : Expr} {v : V} {d : D} (h : PE X e (tC v)) (r : ∀ w, Rep G w d v) : PE X e (tE G (eK d) Wx) := peI h fun σ H Q q => by
  obtain ⟨w, env, rfl, sr, er, p⟩ := q
  exact Post.ret sr (r w) p
theorem q_int {i j} : PE X (.Constant (.int i) j pos) (tE G (eK (.int i)) Wx) := q_const pe_int fun _ => by simp [Rep]
theorem q_bl {b j} : PE X (.Constant (.bool b) j pos) (tE G (eK (.bl b)) Wx) := q_const pe_bl fun _ => by simp [Rep]
theorem q_non {j} : PE X (.Constant .none j pos) (tE G (eK .non) Wx) := q_const pe_non fun _ => by simp [Rep]
theorem q_str {x j} : PE X (.Constant (.str x) j pos) (tE G (eK (.str x)) Wx) := q_const pe_str fun _ => by simp [Rep]

/-- an operation by values -/
def r2 (G : GC) (f : F2) : R2 := fun x y H Q => ∃ w d1 d2, w.H = H ∧ SRep G w ∧ Rep G w d1 x ∧ Rep G w d2 y ∧ Post G w (f d1 d2 w.S) (Rep G) Q (fun _ _ _ => False)
def r1 (G : GC) (f : F1) : V → Hp → VK → Prop := fun x H Q => ∃ w d1, w.H = H ∧ SRep G w ∧ Rep G w d1 x ∧ Post G w (f d1 w.S) (Rep G) Q (fun _ _ _ => False)
def rN (G : GC) (f : FN) : List V → Hp → VK → Prop := fun xs H Q => ∃ w ds, w.H = H ∧ SRep G w ∧ RepL G w ds xs ∧ Post G w (f ds w.S) (Rep G) Q (fun _ _ _ => False)
def rM (G : GC) (f : D → FN) : V → List V → Hp → VK → Prop := fun x xs H Q => ∃ w d ds, w.H = H ∧ SRep G w ∧ Rep G w d x ∧ RepL G w ds xs ∧ Post G w (f d ds w.S) (Rep G) Q (fun _ _ _ => False)
/-- no own exception comes of it -/
def R.calm {α : Type} : R α → Prop
  | .exc _ _ => False
  | _ => True
def Calm2 (f : F2) : Prop := ∀ x y S, (f x y S).calm
def Calm1 (f : F1) : Prop := ∀ x S, (f x S).calm
def CalmN (f : FN) : Prop := ∀ xs S, (f xs S).calm
def CalmM (f : D → FN) : Prop := ∀ x xs S, (f x xs S).calm
theorem Post.calm {α β : Type} {w : Wd} {r : R α} {Ra : Wd → α → β → Prop} {Q : β → Hp → Prop} {E E' : Value → Option Addr → Hp → Prop} (c : r.calm) (h : Post G w r Ra Q E) : Post G w r Ra Q E' := by
  cases r with
  | ok _ _ => exact h
  | exc _ _ => exact c.elim
  | bad => exact h

theorem imp_e2 {f : F2} {a b : ED} (c : Calm2 f) : ∀ σ H Q, tE G (e2 f a b) Wx σ H Q → tOp (r2 G f) (tE G a Wx) (tE G b Wx) σ H Q := by
  intro σ H Q q
  obtain ⟨w, env, rfl, sr, er, p⟩ := q
  refine ⟨w, env, rfl, sr, er, (Post.bind p).mono (fun x H1 m => ?_) fun _ _ _ h => h⟩
  obtain ⟨w1, d1, rfl, x1, s1, rp1, p1⟩ := m
  refine ⟨w1, env, rfl, s1, er.mono x1, (Post.bind p1).mono (fun y H2 m => ?_) fun _ _ _ h => h⟩
  obtain ⟨w2, d2, rfl, x2, s2, rp2, p2⟩ := m
  exact ⟨w2, d1, d2, rfl, s2, Rep.mono x2 _ _ rp1, rp2, p2.calm (c _ _ _)⟩
theorem q_op {op : Operator} {f : F2} {a b : Expr} {ma mb : ED} (ho : OpR X (binaryOp op) (r2 G f)) (c : Calm2 f) (ha : PE X a (tE G ma Wx)) (hb : PE X b (tE G mb Wx)) : PE X (.BinOp a op b pos) (tE G (e2 f ma mb) Wx) :=
  peI (pe_op ho ha hb) (imp_e2 c)
theorem q_cmp {op : CmpOp} {f : F2} {a b : Expr} {ma mb : ED} (ho : OpR X (compareOp op) (r2 G f)) (c : Calm2 f) (ha : PE X a (tE G ma Wx)) (hb : PE X b (tE G mb Wx)) (hm : behindInMarks op b = false) : PE X (.Compare a [op] [b] pos) (tE G (e2 f ma mb) Wx) :=
  peI (pe_cmpR ho ha hb hm) (imp_e2 c)
theorem q_ix {f : F2} {a b : Expr} {ma mb : ED} (ho : IxR X (r2 G f)) (c : Calm2 f) (ha : PE X a (tE G ma Wx)) (hb : PE X b (tE G mb Wx)) (hs : PlainIx b) : PE X (.Subscript a b pos) (tE G (e2 f ma mb) Wx) :=
  peI (pe_ix ho ha hb hs) (imp_e2 c)
theorem q_un {op : UnaryOp} {f : F1} {a : Expr} {ma : ED} (ho : UnR X (unaryOp op) (r1 G f)) (c : Calm1 f) (ha : PE X a (tE G ma Wx)) : PE X (.UnaryOp op a pos) (tE G (e1 f ma) Wx) :=
  peI (pe_un ho ha) fun σ H Q q => by
    obtain ⟨w, env, rfl, sr, er, p⟩ := q
    refine ⟨w, env, rfl, sr, er, (Post.bind p).mono (fun x H1 m => ?_) fun _ _ _ h => h⟩
    obtain ⟨w1, d1, rfl, x1, s1, rp1, p1⟩ := m
    exact ⟨w1, d1, rfl, s1, rp1, p1.calm (c _ _)⟩
/-! ### argument lists, displays, built-ins -/
theorem q_nil : PA X [] (tA G aNil Wx) := paI pa_nil fun σ H Q q => by
  obtain ⟨w, env, rfl, sr, er, p⟩ := q
  exact Post.ret (Ra := RepL G) sr (by simp [RepL]) p
theorem q_cons {e : Expr} {es : List Expr} {m : ED} {ms : AD} (ha : PE X e (tE G m Wx)) (hr : PA X es (tA G ms Wx)) (hs : starEach (e :: es) X.env = (false, eval e X.env) :: starEach es X.env := by rfl) : PA X (e :: es) (tA G (aCons m ms) Wx) :=
  paI (pa_cons ha hr hs) fun σ H Q q => by
    obtain ⟨w, env, rfl, sr, er, p⟩ := q
    refine ⟨w, env, rfl, sr, er, (Post.bind p).mono (fun x H1 m => ?_) fun _ _ _ h => h⟩
    obtain ⟨w1, d1, rfl, x1, s1, rp1, p1⟩ := m
    refine ⟨w1, env, rfl, s1, er.mono x1, (Post.bind p1).mono (fun y H2 m => ?_) fun _ _ _ h => h⟩
    obtain ⟨w2, d2, rfl, x2, s2, rp2, p2⟩ := m
    exact Post.ret (Ra := RepL G) (a := d1 :: d2) s2 (by simp only [RepL]; exact ⟨x, y, rfl, Rep.mono x2 _ _ rp1, rp2⟩) p2
theorem imp_eN {f : FN} {a : AD} (c : CalmN f) : ∀ σ H Q, tE G (eN f a) Wx σ H Q → tCB (rN G f) (tA G a Wx) σ H Q := by
  intro σ H Q q
  obtain ⟨w, env, rfl, sr, er, p⟩ := q
  refine ⟨w, env, rfl, sr, er, (Post.bind p).mono (fun x H1 m => ?_) fun _ _ _ h => h⟩
  obtain ⟨w1, d1, rfl, x1, s1, rp1, p1⟩ := m
  exact ⟨w1, d1, rfl, s1, rp1, p1.calm (c _ _)⟩
theorem q_callB {id : String} {x : Str} {p : Pos} {f : FN} {e : Expr} {es : List Expr} {m : AD} (hc : CallR X (.builtin id) (rN G f)) (c : CalmN f) (hg : Gl X x) (hm : X.mg x = none) (hv : bootBuiltins x = some (.builtin id)) (ha : PA X (e :: es) (tA G m Wx)) (hn : x ≠ "__name__" := by decide) (hdb : (x == ("__debug__" : Str)) = false := by decide)
    (he : starEach (e :: es) X.env = (false, eval e X.env) :: starEach es X.env := by rfl) (hpl : (backTo pos (starEach es X.env)).any (·.1) = false := by rfl) : PE X (.Call (.Name x p) (e :: es) [] pos) (tE G (eN f m) Wx) :=
  peI (pe_callB hc hg hm hv ha hn hdb he hpl) (imp_eN c)
theorem q_callTy {T : String} {x : Str} {p : Pos} {f : FN} {e : Expr} {es : List Expr} {m : AD} (hc : CallR X (.type T) (rN G f)) (c : CalmN f) (hg : Gl X x) (hm : X.mg x = none) (hv : bootBuiltins x = some (.type T)) (ha : PA X (e :: es) (tA G m Wx)) (hn : x ≠ "__name__" := by decide) (hdb : (x == ("__debug__" : Str)) = false := by decide)
    (he : starEach (e :: es) X.env = (false, eval e X.env) :: starEach es X.env := by rfl) (hpl : (backTo pos (starEach es X.env)).any (·.1) = false := by rfl) : PE X (.Call (.Name x p) (e :: es) [] pos) (tE G (eN f m) Wx) :=
  peI (pe_callTy hc hg hm hv ha hn hdb he hpl) (imp_eN c)
end
end L3
set_option Elab.async false
set_option linter.all false
set_option maxRecDepth 100000
/-! L3C: worlds that change; statements, loops, comprehensions. -/
namespace L3
open PySem PySem.Spec PyProof.Rows L2

section
variable {G : GC} {w : Wd} {p : Addr} {o : HO}
theorem RepL.length : ∀ {ds : List D} {vs : List V}, RepL G w ds vs → vs.length = ds.length
  | [], vs, h => by simp only [RepL] at h; subst h; rfl
  | d :: ds, vs, h => by
    simp only [RepL] at h
    obtain ⟨v, r, rfl, _, h2⟩ := h
    simp [RepL.length h2]
theorem RepL.get : ∀ {ds : List D} {vs : List V} {i : Nat} {d : D}, RepL G w ds vs → ds[i]? = some d → ∃ v, vs[i]? = some v ∧ Rep G w d v
  | [], _, _, _, _, e => by simp at e
  | d :: ds, vs, 0, d', h, e => by
    simp only [RepL] at h
    obtain ⟨v, r, rfl, h1, h2⟩ := h
    simp at e; subst e
    exact ⟨v, rfl, h1⟩
  | d :: ds, vs, i + 1, d', h, e => by
    simp only [RepL] at h
    obtain ⟨v, r, rfl, h1, h2⟩ := h
    obtain ⟨u, q1, q2⟩ := RepL.get (i := i) (d := d') h2 (by simpa using e)
    exact ⟨u, by simpa using q1, q2⟩
theorem RepL.append : ∀ {ds ds' : List D} {vs vs' : List V}, RepL G w ds vs → RepL G w ds' vs' → RepL G w (ds ++ ds') (vs ++ vs')
  | [], _, _, _, h, h' => by simp only [RepL] at h; subst h; exact h'
  | d :: ds, ds', vs, vs', h, h' => by
    simp only [RepL] at h
    obtain ⟨v, r, rfl, h1, h2⟩ := h
    show RepL G w (d :: (ds ++ ds')) (v :: (r ++ vs'))
    simp only [RepL]
    exact ⟨v, r ++ vs', rfl, h1, RepL.append h2 h'⟩
theorem RepL.one {d : D} {v : V} (h : Rep G w d v) : RepL G w [d] [v] := by
  simp only [RepL]; exact ⟨v, [], rfl, h, rfl⟩
theorem RepL.take : ∀ {ds : List D} {vs : List V} (n : Nat), RepL G w ds vs → RepL G w (ds.take n) (vs.take n)
  | _, _, 0, _ => by simp [RepL]
  | [], vs, n + 1, h => by simp only [RepL] at h; subst h; simp [RepL]
  | d :: ds, vs, n + 1, h => by
    simp only [RepL] at h
    obtain ⟨v, r, rfl, h1, h2⟩ := h
    simp only [List.take_succ_cons, RepL]
    exact ⟨v, _, rfl, h1, RepL.take n h2⟩
theorem RepL.drop : ∀ {ds : List D} {vs : List V} (n : Nat), RepL G w ds vs → RepL G w (ds.drop n) (vs.drop n)
  | _, _, 0, h => h
  | [], vs, n + 1, h => by simp only [RepL] at h; subst h; simp [RepL]
  | d :: ds, vs, n + 1, h => by
    simp only [RepL] at h
    obtain ⟨v, r, rfl, h1, h2⟩ := h
    simp only [List.drop_succ_cons]
    exact RepL.drop n h2
theorem RepL.set : ∀ {ds : List D} {vs : List V} (n : Nat) {d : D} {v : V}, RepL G w ds vs → Rep G w d v → RepL G w (ds.set n d) (vs.set n v)
  | [], vs, n, d, v, h, h' => by simp only [RepL] at h; subst h; simp [RepL]
  | d :: ds, vs, 0, d', v', h, h' => by
    simp only [RepL] at h
    obtain ⟨v, r, rfl, h1, h2⟩ := h
    simp only [List.set_cons_zero, RepL]
    exact ⟨_, _, rfl, h', h2⟩
  | d :: ds, vs, n + 1, d', v', h, h' => by
    simp only [RepL] at h
    obtain ⟨v, r, rfl, h1, h2⟩ := h
    simp only [List.set_cons_succ, RepL]
    exact ⟨_, _, rfl, h1, RepL.set n h2 h'⟩

theorem ORep.there {a : Addr} {ob : O} (h : ORep G w a ob) (lv : ob.live) : ∃ u, w.H a = some u := by
  cases ob with
  | lst l => obtain ⟨vs, e, _⟩ := h; exact ⟨_, e⟩
  | dK l => obtain ⟨vs, e, _⟩ := h; exact ⟨_, e⟩
  | dT l => obtain ⟨vs, e, _⟩ := h; exact ⟨_, e⟩
  | ins c l => obtain ⟨_, _, _, e, _⟩ := h; exact ⟨_, e⟩
  | dead => exact lv.elim
theorem MutS.there {a : Addr} (sr : SRep G w) (m : MutS w a) : ∃ u, w.H a = some u := by
  obtain ⟨n, ob, h1, lv, h2⟩ := m
  exact (sr.obj n ob a h1 h2).there lv
theorem ORep.keep {T : List Addr} {w' : Wd} {a : Addr} {ob : O} (x : WX' T w w') (hT : Tok T w) (h : ORep G w a ob) (e : ob.live → w'.H a = w.H a) : ORep G w' a ob := by
  cases ob with
  | lst l => obtain ⟨vs, h1, h2⟩ := h; exact ⟨vs, (e trivial).trans h1, RepL.monoT x hT _ _ h2⟩
  | dK l => obtain ⟨vs, h1, h2⟩ := h; exact ⟨vs, (e trivial).trans h1, RepKV.monoT x hT _ _ h2⟩
  | dT l => obtain ⟨vs, h1, h2⟩ := h; exact ⟨vs, (e trivial).trans h1, RepKV.monoT x hT _ _ h2⟩
  | ins c l => obtain ⟨C, dx, vs, h1, h2, h3⟩ := h; exact ⟨C, dx, vs, (e trivial).trans h1, RepKV.monoT x hT _ _ h2, h3⟩
  | dead => trivial

abbrev Wd.put (w : Wd) (p : Addr) (o : HO) : Wd := { w with H := upd w.H p o }
/-- a new object that the store does not hold -/
theorem new_ext (sr : SRep G w) (hp : w.H p = none) : WExt w (w.put p o) ∧ SRep G (w.put p o) ∧ ¬ Mut (w.put p o) p := by
  have x : WExt w (w.put p o) := ⟨fun _ _ h => h, fun a u h nm _ => ⟨(upd_ne (ne_of_none h hp)).trans h, nm⟩, fun _ h => .inl h, fun _ h => h⟩
  refine ⟨x, ⟨sr.len, sr.inj, fun n ob a h1 h2 => ?_, fun a ha => ?_⟩, fun m => m.elim (fun m => ?_) fun m => ?_⟩
  · have h := sr.obj n ob a h1 h2
    refine h.keep x noT fun lv => ?_
    obtain ⟨u, e⟩ := h.there lv
    exact upd_ne (ne_of_none e hp)
  · obtain ⟨⟨u, e⟩, nm⟩ := sr.tm a ha
    exact ⟨⟨u, (upd_ne (ne_of_none e hp)).trans e⟩, nm⟩
  · obtain ⟨u, e⟩ := MutS.there sr (show MutS w p from m)
    rw [hp] at e; cases e
  · obtain ⟨⟨u, e⟩, _⟩ := sr.tm p m
    rw [hp] at e; cases e
/-- a new object that the store holds -/
theorem new_obj {ob : O} (sr : SRep G w) (hp : w.H p = none) (hor : ∀ w', WExt w w' → w'.H p = some o → ORep G w' p ob) :
    WExt w ⟨w.mu ++ [p], w.S ++ [ob], upd w.H p o, w.tmp⟩ ∧ SRep G ⟨w.mu ++ [p], w.S ++ [ob], upd w.H p o, w.tmp⟩ := by
  have nmS : ∀ a u, w.H a = some u → ¬ MutS w a → ¬ MutS ⟨w.mu ++ [p], w.S ++ [ob], upd w.H p o, w.tmp⟩ a := fun a u h nm m => by
    obtain ⟨n, o', h1, lv, h2⟩ := m
    by_cases hn : n < w.S.length
    · refine nm ⟨n, o', ?_, lv, ?_⟩
      · simpa [List.getElem?_append_left hn] using h1
      · have : n < w.mu.length := by rw [sr.len]; exact hn
        simpa [List.getElem?_append_left this] using h2
    · have e : n = w.S.length := by
        have := (List.getElem?_eq_some_iff.mp h1).1
        simp at this; omega
      subst e
      have : (w.mu ++ [p])[w.mu.length]? = some p := by simp
      rw [← sr.len] at h2
      have e2 : p = a := Option.some.inj (this.symm.trans h2)
      rw [e2, h] at hp; cases hp
  have x : WExt w ⟨w.mu ++ [p], w.S ++ [ob], upd w.H p o, w.tmp⟩ :=
    ⟨fun n a h => by
        have hl := (List.getElem?_eq_some_iff.mp h).1
        show (w.mu ++ [p])[n]? = some a
        rw [List.getElem?_append_left hl]; exact h,
      fun a u h nm _ => ⟨(upd_ne (ne_of_none h hp)).trans h, nmS a u h nm⟩, fun _ h => .inl h, fun _ h => h⟩
  have split : ∀ (n : Nat) (o' : O), (w.S ++ [ob])[n]? = some o' → w.S[n]? = some o' ∨ (n = w.S.length ∧ o' = ob) := fun n o' h => by
    by_cases hn : n < w.S.length
    · rw [List.getElem?_append_left hn] at h; exact .inl h
    · have e : n = w.S.length := by
        have := (List.getElem?_eq_some_iff.mp h).1
        simp at this; omega
      subst e; simp at h; exact .inr ⟨rfl, h.symm⟩
  have mul : ∀ (n : Nat) (a : Addr), n < w.S.length → (w.mu ++ [p])[n]? = some a → w.mu[n]? = some a := fun n a hn h => by
    have : n < w.mu.length := by rw [sr.len]; exact hn
    rw [List.getElem?_append_left this] at h; exact h
  have mur : ∀ (a : Addr), (w.mu ++ [p])[w.S.length]? = some a → a = p := fun a h => by
    rw [← sr.len] at h; simp at h; exact h.symm
  have old : ∀ (n : Nat) (o' : O) (a : Addr), w.S[n]? = some o' → o'.live → (w.mu ++ [p])[n]? = some a → a ≠ p := fun n o' a h lv hm e => by
    have hn := (List.getElem?_eq_some_iff.mp h).1
    obtain ⟨u, q⟩ := (sr.obj n o' a h (mul n a hn hm)).there lv
    rw [e, hp] at q; cases q
  refine ⟨x, ⟨by simp [sr.len], fun n m a o1 o2 h1 h2 l1 l2 m1 m2 => ?_, fun n o' a h1 h2 => ?_, fun a ha => ?_⟩⟩
  · rcases split n o1 h1 with q1 | ⟨e1, q1⟩ <;> rcases split m o2 h2 with q2 | ⟨e2, q2⟩
    · exact sr.inj n m a o1 o2 q1 q2 l1 l2 (mul n a (List.getElem?_eq_some_iff.mp q1).1 m1) (mul m a (List.getElem?_eq_some_iff.mp q2).1 m2)
    · subst e2; exact absurd (mur a m2) (old n o1 a q1 l1 m1)
    · subst e1; exact absurd (mur a m1) (old m o2 a q2 l2 m2)
    · rw [e1, e2]
  · rcases split n o' h1 with q1 | ⟨e1, q1⟩
    · have hn := (List.getElem?_eq_some_iff.mp q1).1
      have h := sr.obj n o' a q1 (mul n a hn h2)
      refine h.keep x noT fun lv => ?_
      obtain ⟨u, e⟩ := h.there lv
      exact upd_ne (ne_of_none e hp)
    · subst e1 q1
      have e : a = p := mur a h2
      subst e
      exact hor _ x upd_same
  · obtain ⟨⟨u, e⟩, nm⟩ := sr.tm a ha
    exact ⟨⟨u, (upd_ne (ne_of_none e hp)).trans e⟩, nmS a u e nm⟩
/-- an object of the store changes -/
theorem set_obj {n : Nat} {a : Addr} {ob ob' : O} (sr : SRep G w) (hn : w.S[n]? = some ob) (lv : ob.live) (ha : w.mu[n]? = some a) (hor : ∀ w', WExt w w' → w'.H a = some o → ORep G w' a ob') :
    WExt w ⟨w.mu, w.S.set n ob', upd w.H a o, w.tmp⟩ ∧ SRep G ⟨w.mu, w.S.set n ob', upd w.H a o, w.tmp⟩ := by
  have hl := (List.getElem?_eq_some_iff.mp hn).1
  have back : ∀ (m : Nat) (o' : O), (w.S.set n ob')[m]? = some o' → (m = n ∧ o' = ob') ∨ (m ≠ n ∧ w.S[m]? = some o') := fun m o' h => by
    by_cases e : n = m
    · subst e; rw [List.getElem?_set_self hl] at h; exact .inl ⟨rfl, (Option.some.inj h).symm⟩
    · rw [List.getElem?_set_ne e] at h; exact .inr ⟨fun z => e z.symm, h⟩
  have mb : ∀ b, MutS ⟨w.mu, w.S.set n ob', upd w.H a o, w.tmp⟩ b → MutS w b := fun b ⟨m, o', h1, l1, h2⟩ => by
    rcases back m o' h1 with ⟨e, _⟩ | ⟨_, q⟩
    · subst e; exact ⟨m, ob, hn, lv, h2⟩
    · exact ⟨m, o', q, l1, h2⟩
  have nA : ∀ b, ¬ MutS w b → b ≠ a := fun b nm e => nm (by subst e; exact ⟨n, ob, hn, lv, ha⟩)
  have x : WExt w ⟨w.mu, w.S.set n ob', upd w.H a o, w.tmp⟩ := ⟨fun _ _ h => h, fun b u h nm _ => ⟨(upd_ne (nA b nm)).trans h, fun m => nm (mb b m)⟩, fun _ h => .inl h, fun _ h => h⟩
  have lvOf : ∀ (m : Nat) (o' : O), (w.S.set n ob')[m]? = some o' → o'.live → ∃ o2, w.S[m]? = some o2 ∧ o2.live := fun m o' h l => by
    rcases back m o' h with ⟨e, _⟩ | ⟨_, q⟩
    · subst e; exact ⟨ob, hn, lv⟩
    · exact ⟨o', q, l⟩
  refine ⟨x, ⟨by simp [sr.len], fun i j b o1 o2 h1 h2 l1 l2 m1 m2 => ?_, fun m o' b h1 h2 => ?_, fun b hb => ?_⟩⟩
  · obtain ⟨p1, q1, r1⟩ := lvOf i o1 h1 l1
    obtain ⟨p2, q2, r2⟩ := lvOf j o2 h2 l2
    exact sr.inj i j b p1 p2 q1 q2 r1 r2 m1 m2
  · rcases back m o' h1 with ⟨e, e2⟩ | ⟨ne, q⟩
    · subst e e2
      have e3 : b = a := Option.some.inj (h2.symm.trans ha)
      subst e3
      exact hor _ x upd_same
    · have h := sr.obj m o' b q h2
      refine h.keep x noT fun l => upd_ne fun e => ne ?_
      subst e
      exact sr.inj m n _ o' ob q hn l lv h2 ha
  · obtain ⟨⟨u, e⟩, nm⟩ := sr.tm b hb
    exact ⟨⟨u, (upd_ne (nA b nm)).trans e⟩, fun m => nm (mb b m)⟩
end
end L3
set_option Elab.async false
set_option linter.all false
set_option maxRecDepth 100000
/-! L3D: statements, loops. -/
namespace L3
open PySem PySem.Spec PyProof.Rows L2

section
variable {G : GC} {X : Cx} {Wx : WX} {pos : Pos}
/-! ### tests -/
theorem q_val {e : Expr} {m : ED} (h : PE X e (tE G m Wx)) (he : ∀ whole, isTrue e X.env whole = (do let v ← whole; standAt e.pos; holding [v] (truthy v)) := by intro _; rfl) : PT X e (tT G (tOfE m) Wx) := ptI (pt_val h he) fun σ H Q q => by
  obtain ⟨w, env, rfl, sr, er, p⟩ := q
  refine ⟨w, env, rfl, sr, er, (Post.bind p).mono (fun x H1 m => ?_) fun _ _ _ h => h⟩
  obtain ⟨w1, d1, rfl, x1, s1, rp1, p1⟩ := m
  cases d1 with
  | bl k =>
    simp only [Rep] at rp1; subst rp1
    exact ⟨k, rfl, Post.ret (Ra := fun _ (a b : Bool) => a = b) s1 rfl p1⟩
  | _ => exact p1.elim
theorem q_tnot {c : Expr} {m : TD} (h : PT X c (tT G m Wx)) : PT X (.UnaryOp .Not c pos) (tT G (tNot m) Wx) := ptI (pt_not h) fun σ H Q q => by
  obtain ⟨w, env, rfl, sr, er, p⟩ := q
  refine ⟨w, env, rfl, sr, er, (Post.bind (Ra := fun _ (a b : Bool) => a = b) p).mono (fun x H1 m => ?_) fun _ _ _ h => h⟩
  obtain ⟨w1, d1, rfl, x1, s1, rp1, p1⟩ := m
  subst rp1
  exact Post.ret (Ra := fun _ (a b : Bool) => a = b) s1 rfl p1
theorem imp_and {a b : TD} : ∀ σ H Q, tT G (tAnd a b) Wx σ H Q → L2.tAnd (tT G a Wx) (tT G b Wx) σ H Q := by
  intro σ H Q q
  obtain ⟨w, env, rfl, sr, er, p⟩ := q
  refine ⟨w, env, rfl, sr, er, (Post.bind (Ra := fun _ (a b : Bool) => a = b) p).mono (fun x H1 m => ?_) fun _ _ _ h => h⟩
  obtain ⟨w1, d1, rfl, x1, s1, rp1, p1⟩ := m
  subst rp1
  cases d1 with
  | true => exact iteT ⟨w1, env, rfl, s1, er.mono x1, p1⟩
  | false => exact iteF (Post.ret (Ra := fun _ (a b : Bool) => a = b) s1 rfl p1)
theorem imp_or {a b : TD} : ∀ σ H Q, tT G (tOr a b) Wx σ H Q → L2.tOr (tT G a Wx) (tT G b Wx) σ H Q := by
  intro σ H Q q
  obtain ⟨w, env, rfl, sr, er, p⟩ := q
  refine ⟨w, env, rfl, sr, er, (Post.bind (Ra := fun _ (a b : Bool) => a = b) p).mono (fun x H1 m => ?_) fun _ _ _ h => h⟩
  obtain ⟨w1, d1, rfl, x1, s1, rp1, p1⟩ := m
  subst rp1
  cases d1 with
  | true => exact iteT (Post.ret (Ra := fun _ (a b : Bool) => a = b) s1 rfl p1)
  | false => exact iteF ⟨w1, env, rfl, s1, er.mono x1, p1⟩

/-! ### small statements -/
theorem q_pass : PS X (.Pass pos) (tS G sSkip Wx) := psI ps_pass fun D σ H q => by
  obtain ⟨w, env, rfl, sr, er, p⟩ := q
  exact p σ w (.refl w) rfl sr er
theorem q_break : PS X (.Break pos) (tS G sBrk Wx) := psI ps_break fun D σ H q => by
  obtain ⟨w, env, rfl, sr, er, p⟩ := q
  exact p σ w (.refl w) rfl sr er
theorem q_cont : PS X (.Continue pos) (tS G sCt Wx) := psI ps_continue fun D σ H q => by
  obtain ⟨w, env, rfl, sr, er, p⟩ := q
  exact p σ w (.refl w) rfl sr er
theorem q_expr {e : Expr} {m : ED} (h : PE X e (tE G m Wx)) (hs : swapsWith e none pos.line X.env = pure false := by rfl) : PS X (.Expr e pos) (tS G (sExpr m) Wx) := psI (ps_expr h hs) fun D σ H q => by
  obtain ⟨w, env, rfl, sr, er, p⟩ := q
  refine ⟨w, env, rfl, sr, er, (PostS.ofR (Ra := Rep G) er p).mono (fun x H1 m => ?_) fun _ _ _ h => h⟩
  obtain ⟨w1, d1, rfl, x1, s1, rp1, p1⟩ := m
  exact p1 σ w1 (.refl w1) rfl s1 (er.mono x1)
theorem q_ret {e : Expr} {m : ED} (h : PE X e (tE G m Wx)) : PS X (.Return (some e) pos) (tS G (sRet m) Wx) := psI (ps_ret h) fun D σ H q => by
  obtain ⟨w, env, rfl, sr, er, p⟩ := q
  refine ⟨w, env, rfl, sr, er, (PostS.ofR (Ra := Rep G) er p).mono (fun x H1 m => ?_) fun _ _ _ h => h⟩
  obtain ⟨w1, d1, rfl, x1, s1, rp1, p1⟩ := m
  exact p1 x w1 (.refl w1) rfl s1 rp1
theorem q_retN : PS X (.Return none pos) (tS G (sRet (eK .non)) Wx) := psI ps_retN fun D σ H q => by
  obtain ⟨w, env, rfl, sr, er, p⟩ := q
  exact p _ w (.refl w) rfl sr (by simp [Rep])
theorem q_if {c : Expr} {a b : List Stmt} {mc : TD} {ma mb : SD} (hc : PT X c (tT G mc Wx)) (ha : PSs X a (tS G ma Wx)) (hb : PSs X b (tS G mb Wx)) : PS X (.If c a b pos) (tS G (sIf mc ma mb) Wx) := psI (ps_if hc ha hb) fun D σ H q => by
  obtain ⟨w, env, rfl, sr, er, p⟩ := q
  refine ⟨w, env, rfl, sr, er, (PostS.ofR (Ra := fun _ (a b : Bool) => a = b) er p).mono (fun x H1 m => ?_) fun _ _ _ h => h⟩
  obtain ⟨w1, d1, rfl, x1, s1, rp1, p1⟩ := m
  subst rp1
  cases d1 with
  | true => exact iteT ⟨w1, env, rfl, s1, er.mono x1, p1⟩
  | false => exact iteF ⟨w1, env, rfl, s1, er.mono x1, p1⟩
theorem q_snil : PSs X [] (tS G sSkip Wx) := pssI pss_nil fun D σ H q => by
  obtain ⟨w, env, rfl, sr, er, p⟩ := q
  exact p σ w (.refl w) rfl sr er
theorem q_scons {st : Stmt} {rest : List Stmt} {a b : SD} (h1 : PS X st (tS G a Wx)) (h2 : PSs X rest (tS G b Wx)) : PSs X (st :: rest) (tS G (sSeq a b) Wx) := pssI (pss_cons h1 h2) fun D σ H q => by
  obtain ⟨w, env, rfl, sr, er, p⟩ := q
  refine ⟨w, env, rfl, sr, er, ?_⟩
  unfold sSeq at p
  cases h : a env w.S with
  | nx env1 S1 =>
    rw [h] at p
    intro σ' w' e hs s' er'
    subst hs
    exact ⟨w', env1, rfl, s', er', PostS.shift e p⟩
  | ret d S1 => rw [h] at p; exact p
  | brk env1 S1 => rw [h] at p; exact p
  | ct env1 S1 => rw [h] at p; exact p
  | exc e env1 S1 => rw [h] at p; exact p
  | bad => rw [h] at p; exact p.elim
theorem q_sone {st : Stmt} {a : SD} (h1 : PS X st (tS G a Wx)) : PSs X [st] (tS G a Wx) := pss_one h1

/-! ### targets -/
def tG (G : GC) (g : GD) : TG := fun v σ H Q => ∃ w env d, w.H = H ∧ SRep G w ∧ ERep G w env σ ∧ Rep G w d v ∧
  match g d env w.S with
  | .nx env' S' => ∀ σ' w', WExt w w' → w'.S = S' → SRep G w' → ERep G w' env' σ' → Q σ' w'.H
  | _ => False
theorem pgI {e : Expr} {t t' : TG} (h : PG X e t) (i : ∀ v σ H Q, t' v σ H Q → t v σ H Q) : PG X e t' := ⟨fun pins s σ H v u Q I r q => h.run pins s σ H v u Q I r (i _ _ _ _ q)⟩
theorem q_gname {e : Expr} {i : Nat} (h : PG X e (L2.gName i)) : PG X e (tG G (gName i)) := pgI h fun v σ H Q q => by
  obtain ⟨w, env, d, rfl, sr, er, rp, p⟩ := q
  exact p _ w (.refl w) rfl sr (er.set i rp)
/-- a target stores, or the way is not told -/
def GOk (g : GD) : Prop := ∀ d env S, (∃ env' S', g d env S = .nx env' S') ∨ g d env S = .bad
theorem q_asg {tg e : Expr} {m : ED} {g : GD} (he : PE X e (tE G m Wx)) (hg : PG X tg (tG G g)) (hs : swapsWithSole [tg] e pos.line X.env = pure false := by rfl) (hw : swappedStores [tg] e X.env = pure none := by rfl)
    (h1 : (assignEach [tg] X.env).map (·.2) = [assign tg X.env] := by rfl) (gn : GOk g) : PS X (.Assign [tg] e pos) (tS G (sAsg m g) Wx) := psI (ps_asg he hg hs hw h1) fun D σ H q => by
  obtain ⟨w, env, rfl, sr, er, p⟩ := q
  refine ⟨w, env, rfl, sr, er, (PostS.ofR (Ra := Rep G) er p).mono (fun x H1 m => ?_) fun _ _ _ h => h⟩
  obtain ⟨w1, d1, rfl, x1, s1, rp1, p1⟩ := m
  refine ⟨w1, env, d1, rfl, s1, er.mono x1, rp1, ?_⟩
  rcases gn d1 env w1.S with ⟨env', S', h⟩ | h
  · rw [h] at p1 ⊢; exact p1
  · rw [h] at p1; exact p1.elim
theorem q_set {i : Nat} {x : Str} {e : Expr} {m : ED} {pos' : Pos} (hN : X.N.Nodup) (hi : X.N[i]? = some x) (hx : Loc X.env.scope x) (he : PE X e (tE G m Wx)) (hs : swapsWith e (some (.Name x pos')) pos.line X.env = pure false := by rfl) (hf : X.fn x = true ∨ X.env.scope.names.lookup x = some .local := by first | exact .inl rfl | exact .inr rfl | assumption) :
    PS X (.Assign [.Name x pos'] e pos) (tS G (sAsg m (gName i)) Wx) := psI (ps_set hN hi hx he hs hf) fun D σ H q => by
  obtain ⟨w, env, rfl, sr, er, p⟩ := q
  refine ⟨w, env, rfl, sr, er, (PostS.ofR (Ra := Rep G) er p).mono (fun x H1 m => ?_) fun _ _ _ h => h⟩
  obtain ⟨w1, d1, rfl, x1, s1, rp1, p1⟩ := m
  exact p1 _ w1 (.refl w1) rfl s1 ((er.mono x1).set i rp1)

/-! ### what a loop walks -/
structure ItOk (G : GC) (w : Wd) (J : It) (xs : List D) : Prop where
  go : ∀ (T : List Addr) w', (∀ a ∈ T, w.H a = none) → WX' T w w' → SRep G w' → ∀ (i : Nat) (d : D), xs[i]? = some d → J.go i w'.H ∧ ∀ x H'', J.yld i w'.H x H'' → ∃ w'', w''.H = H'' ∧ WExt w' w'' ∧ w''.S = w'.S ∧ SRep G w'' ∧ Rep G w'' d x
  stop : ∀ (T : List Addr) w', (∀ a ∈ T, w.H a = none) → WX' T w w' → SRep G w' → J.stop xs.length w'.H
/-- an iterable: what it gives -/
abbrev ID := EnvD → Store → R (List D)
def tI (G : GC) (m : ID) (Wx : WX) : TI := fun σ H Rr => ∃ w env, w.H = H ∧ SRep G w ∧ ERep G w env σ ∧ Post G w (m env w.S) (fun w' xs (J : It) => ItOk G w' J xs) Rr (fun C dx H' => Wx C dx σ H')
end
end L3
set_option Elab.async false
set_option linter.all false
set_option maxRecDepth 100000
/-! L3E: what is walked; for, while, comprehensions. -/
namespace L3
open PySem PySem.Spec PyProof.Rows L2

/-- one sign -/
def sgn (c : Nat) : D := .str ⟨#[c]⟩
def itemsD (x : D) (S : Store) : R (List D) := match x with
  | .tup l => .ok l S
  | .lst l => .ok l S
  | .str s => .ok (s.cps.toList.map sgn) S
  | .scr ns => .ok (ns.map .int) S
  | _ => .bad
def iSeq (a : ED) : ID := fun env S => (a env S).bind fun x S1 => itemsD x S1
def rangeD (lo hi : Int) : List D := (List.range (hi - lo).toNat).map fun i => .int (lo + (i : Nat))
def okRng (i : Int) : Bool := decide (-(2 ^ 62) ≤ i ∧ i < 2 ^ 62)
def range1 : List D → Store → R (List D) := fun xs S => match xs with
  | [.int j] => if okRng j then .ok (rangeD 0 j) S else .bad
  | _ => .bad
def range2 : List D → Store → R (List D) := fun xs S => match xs with
  | [.int i, .int j] => if okRng i && okRng j then .ok (rangeD i j) S else .bad
  | _ => .bad
def iArgs (f : List D → Store → R (List D)) (a : AD) : ID := fun env S => (a env S).bind fun xs S1 => f xs S1

theorem piI {X : Cx} {tg e : Expr} {t t' : TI} (h : PI X tg e t) (i : ∀ σ H R, t' σ H R → t σ H R) : PI X tg e t' := ⟨fun pins s σ H R I q => h.run pins s σ H R I (i _ _ _ q)⟩

section
variable {G : GC} {X : Cx} {Wx : WX} {pos : Pos}
theorem RepL_ints {w : Wd} : ∀ {ns : List Int} {vs : List V}, RepL G w (ns.map .int) vs ↔ vs = ns.map V.int
  | [], vs => by simp [RepL]
  | n :: ns, vs => by
    simp only [List.map_cons, RepL, Rep]
    constructor
    · rintro ⟨v, r, rfl, rfl, h⟩; rw [RepL_ints.mp h]
    · rintro rfl; exact ⟨_, _, rfl, rfl, RepL_ints.mpr rfl⟩
theorem fr_tok {T : List Addr} {w : Wd} (h : ∀ a ∈ T, w.H a = none) : Tok T w := fun a ha => .inr (h a ha)
theorem it_list {w : Wd} {a : Addr} {vs : List V} {l : List D} (h : (w.H a = some (.lst vs) ∧ ¬ Mut w a) ∨ Fz w a (.lst vs) ∨ KL G.K a vs) (r : RepL G w l vs) : ItOk G w (Itl G.K a) l := by
  have sq : ∀ (T : List Addr) w', (∀ a ∈ T, w.H a = none) → WX' T w w' → SqL G.K w'.H a vs := fun T w' hT x => by
    rcases h with ⟨h, nm⟩ | h | h
    · exact .inl (.inl (x.keepM (fr_tok hT) h nm).1)
    · exact .inl (Fz.monoT x (fr_tok hT) h).1
    · exact .inr h
  have inj : ∀ (T : List Addr) w', (∀ a ∈ T, w.H a = none) → WX' T w w' → ∀ (i : Nat) (d : D), l[i]? = some d → ∃ v, vs[i]? = some v ∧ Rep G w' d v := fun T w' hT x i d e => by
    obtain ⟨v, q1, q2⟩ := r.get e
    exact ⟨v, q1, Rep.monoT x (fr_tok hT) _ _ q2⟩
  refine ⟨fun T w' hT x s i d e => ?_, fun T w' hT x s => ⟨vs, sq T w' hT x, by rw [r.length]; exact Nat.le_refl _⟩⟩
  obtain ⟨v, q1, q2⟩ := inj T w' hT x i d e
  refine ⟨⟨vs, v, sq T w' hT x, q1⟩, fun y H'' hy => ?_⟩
  obtain ⟨rfl, hy⟩ := hy
  have e2 := hy vs (sq T w' hT x)
  rw [q1] at e2; cases e2
  exact ⟨w', rfl, .refl w', rfl, s, q2⟩
theorem it_tup {w : Wd} {a : Addr} {vs : List V} {l : List D} (h : Fz w a (.tup vs) ∨ KT G.K a vs) (r : RepL G w l vs) : ItOk G w (Itt G.K a) l := by
  have sq : ∀ (T : List Addr) w', (∀ a ∈ T, w.H a = none) → WX' T w w' → SqT G.K w'.H a vs := fun T w' hT x => by
    rcases h with h | h
    · exact .inl (Fz.monoT x (fr_tok hT) h).1
    · exact .inr h
  refine ⟨fun T w' hT x s i d e => ?_, fun T w' hT x s => ⟨vs, sq T w' hT x, by rw [r.length]; exact Nat.le_refl _⟩⟩
  obtain ⟨v, q1, q2⟩ := r.get e
  refine ⟨⟨vs, v, sq T w' hT x, q1⟩, fun y H'' hy => ?_⟩
  obtain ⟨rfl, hy⟩ := hy
  have e2 := hy vs (sq T w' hT x)
  rw [q1] at e2; cases e2
  exact ⟨w', rfl, .refl w', rfl, s, Rep.monoT x (fr_tok hT) _ _ q2⟩
theorem it_rng {w : Wd} {lo : Int} {n : Nat} : ItOk G w (Itr lo n) ((List.range n).map fun i => .int (lo + (i : Nat))) := by
  refine ⟨fun T w' hT x s i d e => ?_, fun T w' hT x s => by simp [Itr]⟩
  rw [List.getElem?_map] at e
  by_cases hi : i < n
  · rw [List.getElem?_range hi] at e
    cases e
    refine ⟨hi, fun y H'' hy => ?_⟩
    obtain ⟨rfl, rfl⟩ := hy
    exact ⟨w', rfl, .refl w', rfl, s, by simp [Rep]⟩
  · rw [List.getElem?_eq_none (by simpa using hi)] at e; cases e
theorem it_str {w : Wd} {z : Str} : ItOk G w (Its z) (z.cps.toList.map sgn) := by
  refine ⟨fun T w' hT x s i d e => ?_, fun T w' hT x s => by simp [Its]⟩
  rw [List.getElem?_map] at e
  cases q : z.cps.toList[i]? with
  | none => rw [q] at e; cases e
  | some c =>
    rw [q] at e
    cases e
    have hi : i < z.cps.size := by simpa using (List.getElem?_eq_some_iff.mp q).1
    refine ⟨hi, fun y H'' hy => ?_⟩
    obtain ⟨rfl, c', h1, rfl⟩ := hy
    have : c' = c := by
      have h2 : z.cps.toList[i]? = some c' := by simpa using h1
      rw [h2] at q; exact Option.some.inj q
    subst this
    exact ⟨w', rfl, .refl w', rfl, s, by simp [Rep, sgn]⟩
/-- a list, a tuple, a text -/
theorem q_iter {tg e : Expr} {m : ED} (hK : X.K = G.K) (h : PE X e (tE G m Wx)) : PI X tg e (tI G (iSeq m) Wx) := by
  refine ⟨fun pins s σ H R I q => ?_⟩
  obtain ⟨w, env, rfl, sr, er, p⟩ := q
  refine thn (h.run pins s σ w.H _ I ⟨w, env, rfl, sr, er, Post.bind p⟩) fun v s1 ⟨x, H1, I1, r1, q1⟩ => ?_
  obtain ⟨w1, d1, rfl, x1, sr1, rp1, p1⟩ := q1
  have lst : ∀ {a : Addr} {vs : List V}, SqL X.K w1.H a vs → R (Itl G.K a) w1.H → wpAny (model X.prog X.w) X.A (pyIter (.ref a)) (PIE X pins σ tg R) X.xe s1 := fun {a vs} hq q => by
    obtain ⟨its, rv, p, hz⟩ := I1.list hq
    refine wpAny_pyIter_list p.isList ?_
    refine ⟨s1.heap.objs.size, [s1.heap.objs.size], _, _, w1.H, rfl, I1.kept (t' := s1.toks) fun b o e => Heap.get?_push_of_some _ e, turn_list a _, ⟨_, Heap.get?_push_size _ rfl, rfl, rfl⟩, fun b hb => ?_, by rw [hK]; exact q⟩
    have e : b = s1.heap.objs.size := by simpa using hb
    subst e
    exact I1.fpOk (Nat.le_refl _) (I1.hok.fresh (Nat.le_refl _))
  cases d1 with
  | tup l =>
    simp only [Rep] at rp1
    obtain ⟨a, vs, rfl, hq, rl⟩ := rp1
    cases r1
    have q := p1 (Itt G.K a) w1 (.refl _) rfl sr1 (it_tup hq rl)
    have hq' : SqT X.K w1.H a vs := by rw [hK]; exact hq.imp (fun z => z.1) id
    obtain ⟨its, rv, p, hz⟩ := I1.tuple hq'
    refine wpAny_pyIter_tuple (show s1.heap.IsTuple a its.toArray from p) ?_
    refine ⟨s1.heap.objs.size, [s1.heap.objs.size], _, _, w1.H, rfl, I1.kept (t' := s1.toks) fun b o e => Heap.get?_push_of_some _ e, turn_tuple a _, ⟨_, Heap.get?_push_size _ rfl, rfl, rfl⟩, fun b hb => ?_, by rw [hK]; exact q⟩
    have e : b = s1.heap.objs.size := by simpa using hb
    subst e
    exact I1.fpOk (Nat.le_refl _) (I1.hok.fresh (Nat.le_refl _))
  | lst l =>
    simp only [Rep] at rp1
    obtain ⟨a, vs, rfl, hq, nm, rl⟩ := rp1
    cases r1
    exact lst (vs := vs) (.inl (.inl hq)) (p1 (Itl G.K a) w1 (.refl _) rfl sr1 (it_list (.inl ⟨hq, nm⟩) rl))
  | scr ns =>
    simp only [Rep] at rp1
    obtain ⟨a, rfl, hq⟩ := rp1
    cases r1
    exact lst (vs := ns.map V.int) (by rw [hK]; exact hq.imp (fun z => z.1) id) (p1 (Itl G.K a) w1 (.refl _) rfl sr1 (it_list (.inr hq) (RepL_ints.mpr rfl)))
  | str z =>
    simp only [Rep] at rp1
    subst rp1
    obtain ⟨t, rfl⟩ := r1
    have q := p1 (Its z) w1 (.refl _) rfl sr1 it_str
    cases ha : z.cps.all (· < 128)
    · exact wpAny_pyIter_wide ha (pi_one (tk := s1.toks) I1 _ (turn_str _ z t "str_iterator" (.inr rfl)) ⟨_, Heap.get?_push_size _ rfl, rfl, rfl⟩ q)
    · exact wpAny_pyIter_ascii ha (pi_one (tk := s1.toks) I1 _ (turn_str _ z t "str_ascii_iterator" (.inl rfl)) ⟨_, Heap.get?_push_size _ rfl, rfl, rfl⟩ q)
  | _ => exact p1.elim
theorem q_range1 {tg a : Expr} {m : AD} {p : Pos} (hg : Gl X "range") (hm : X.mg "range" = none) (ha : PA X [a] (tA G m Wx)) (hs : starEach [a] X.env = [(false, eval a X.env)] := by rfl) : PI X tg (.Call (.Name "range" p) [a] [] pos) (tI G (iArgs range1 m) Wx) := piI (pi_range1 hg hm ha hs) fun σ H R q => by
  obtain ⟨w, env, rfl, sr, er, p⟩ := q
  refine ⟨w, env, rfl, sr, er, (Post.bind p).mono (fun x H1 m => ?_) fun _ _ _ h => h⟩
  obtain ⟨w1, d1, rfl, x1, s1, rp1, p1⟩ := m
  unfold range1 at p1
  split at p1
  · rename_i j
    split at p1
    · rename_i hj
      have hj : -(2 ^ 62) ≤ j ∧ j < 2 ^ 62 := by simpa [okRng] using hj
      simp only [RepL, Rep] at rp1
      obtain ⟨v, r, rfl, rfl, rfl⟩ := rp1
      refine ⟨j, rfl, hj.1, hj.2, ?_⟩
      have q := p1 (Itr 0 j.toNat) w1 (.refl _) rfl s1 (by have := it_rng (G := G) (w := w1) (lo := 0) (n := j.toNat); simpa [rangeD] using this)
      exact q
    · exact p1.elim
  · exact p1.elim
theorem q_range2 {tg a b : Expr} {m : AD} {p : Pos} (hg : Gl X "range") (hm : X.mg "range" = none) (ha : PA X [a, b] (tA G m Wx)) (hs : starEach [a, b] X.env = [(false, eval a X.env), (false, eval b X.env)] := by rfl) (hs2 : starEach [b] X.env = [(false, eval b X.env)] := by rfl) :
    PI X tg (.Call (.Name "range" p) [a, b] [] pos) (tI G (iArgs range2 m) Wx) := piI (pi_range2 hg hm ha hs hs2) fun σ H R q => by
  obtain ⟨w, env, rfl, sr, er, p⟩ := q
  refine ⟨w, env, rfl, sr, er, (Post.bind p).mono (fun x H1 m => ?_) fun _ _ _ h => h⟩
  obtain ⟨w1, d1, rfl, x1, s1, rp1, p1⟩ := m
  unfold range2 at p1
  split at p1
  · rename_i i j
    split at p1
    · rename_i hj
      have hj : (-(2 ^ 62) ≤ i ∧ i < 2 ^ 62) ∧ (-(2 ^ 62) ≤ j ∧ j < 2 ^ 62) := by simpa [okRng] using hj
      simp only [RepL, Rep] at rp1
      obtain ⟨v, r, rfl, rfl, v', r', rfl, rfl, rfl⟩ := rp1
      refine ⟨i, j, rfl, ⟨hj.1.1, hj.1.2, hj.2.1, hj.2.2⟩, ?_⟩
      exact p1 (Itr i (j - i).toNat) w1 (.refl _) rfl s1 it_rng
    · exact p1.elim
  · exact p1.elim

/-! ### for -/
def sFor (mi : ID) (g : GD) (body : SD) : SD := fun env S => (mi env S).toS env fun xs S1 => forL g body xs env S1
theorem q_for {tg iter : Expr} {body : List Stmt} {mi : ID} {g : GD} {mb : SD} (hp : PassesOwn (model X.prog X.w) X.A X.env X.xe) (hc : X.calm = true) (hi : PI X tg iter (tI G mi Wx)) (hg : PG X tg (tG G g)) (hb : PSs X body (tS G mb Wx))
    (hs : ∀ x, foldedSetIterable iter X.env x = pure x := by intro _; rfl) : PS X (.For tg iter body [] pos) (tS G (sFor mi g mb) Wx) := psI (ps_for hp hc hi hg hb hs) fun D σ H q => by
  obtain ⟨w, env, rfl, sr, er, p⟩ := q
  refine ⟨w, env, rfl, sr, er, (PostS.ofR (Ra := fun w' xs (J : It) => ItOk G w' J xs) er p).mono (fun J H1 m => ?_) fun _ _ _ h => h⟩
  obtain ⟨w1, xs, rfl, x1, s1, io, p1⟩ := m
  refine ⟨fun i m σ H => ∃ w env, w.H = H ∧ SRep G w ∧ ERep G w env σ ∧ WExt w1 w ∧ i + m = xs.length ∧ PostS G w (forL g mb (xs.drop i) env w.S) D Wx, ⟨xs.length, w1, env, rfl, s1, er.mono x1, .refl _, by omega, by simpa using p1⟩, fun i m σ H hW => ?_⟩
  obtain ⟨w2, env2, rfl, s2, er2, x2, em, p2⟩ := hW
  by_cases hi : i < xs.length
  · have e : xs[i]? = some xs[i] := List.getElem?_eq_getElem hi
    rw [List.drop_eq_getElem_cons hi] at p2
    obtain ⟨go, yl⟩ := io.go [] w2 (fun a h => by simp at h) x2 s2 i xs[i] e
    refine .inr ⟨go, fun σ' H' => ∃ w env, w.H = H' ∧ SRep G w ∧ ERep G w env σ' ∧ WExt w1 w ∧ (i + 1) + (m - 1) = xs.length ∧ PostS G w (forL g mb (xs.drop (i + 1)) env w.S) D Wx, fun σ' H' hN => ⟨m - 1, by omega, hN⟩, fun x H' hy => ?_⟩
    obtain ⟨w3, rfl, x3, eS, s3, rp3⟩ := yl x H' hy
    refine ⟨w3, env2, xs[i], rfl, s3, er2.mono x3, rp3, ?_⟩
    rw [forL] at p2
    rw [eS]
    cases hg2 : g xs[i] env2 w2.S with
    | nx env4 S4 =>
      rw [hg2] at p2
      intro σ4 w4 x4 e4 s4 er4
      subst e4
      refine ⟨w4, env4, rfl, s4, er4, ?_⟩
      have x24 : WExt w1 w4 := WX'.trans (WX'.trans x2 x3) x4
      have p3 := PostS.shift (WX'.trans x3 x4) p2
      cases hb4 : mb env4 w4.S with
      | nx env5 S5 =>
        simp only [hb4] at p3
        intro σ5 w5 x5 e5 s5 er5
        subst e5
        exact ⟨w5, env5, rfl, s5, er5, WX'.trans x24 x5, by omega, PostS.shift x5 p3⟩
      | ct env5 S5 =>
        simp only [hb4] at p3
        intro σ5 w5 x5 e5 s5 er5
        subst e5
        exact ⟨w5, env5, rfl, s5, er5, WX'.trans x24 x5, by omega, PostS.shift x5 p3⟩
      | brk env5 S5 => simp only [hb4] at p3; exact p3
      | ret d S5 => simp only [hb4] at p3; exact p3
      | exc e env5 S5 => simp only [hb4] at p3; exact p3
      | bad => simp only [hb4] at p3; exact p3.elim
    | ret _ _ => rw [hg2] at p2; exact p2.elim
    | brk _ _ => rw [hg2] at p2; exact p2.elim
    | ct _ _ => rw [hg2] at p2; exact p2.elim
    | exc _ _ _ => rw [hg2] at p2; exact p2.elim
    | bad => rw [hg2] at p2; exact p2.elim
  · have ei : i = xs.length := by omega
    subst ei
    refine .inl ⟨io.stop [] w2 (fun a h => by simp at h) x2 s2, ?_⟩
    rw [List.drop_length] at p2
    exact p2 σ w2 (.refl _) rfl s2 er2

/-! ### while -/
theorem q_while {c : Expr} {body : List Stmt} {mc : TD} {mb : SD} (n : Nat) (hp : PassesOwn (model X.prog X.w) X.A X.env X.xe) (hc : PT X c (tT G mc Wx)) (hb : PSs X body (tS G mb Wx)) : PS X (.While c body [] pos) (tS G (sWhile mc mb n) Wx) := psI (ps_while hp hc hb) fun D σ H q => by
  refine ⟨fun m σ H => tS G (sWhile mc mb m) Wx D σ H, ⟨n, q⟩, fun m σ H hW => ?_⟩
  obtain ⟨w, env, rfl, sr, er, p⟩ := hW
  cases m with
  | zero => exact p.elim
  | succ m =>
    refine ⟨w, env, rfl, sr, er, (PostS.ofR (Ra := fun _ (a b : Bool) => a = b) er p).mono (fun x H1 m => ?_) fun _ _ _ h => h⟩
    obtain ⟨w1, d1, rfl, x1, s1, rp1, p1⟩ := m
    subst rp1
    cases d1 with
    | false => exact iteF (p1 σ w1 (.refl _) rfl s1 (er.mono x1))
    | true =>
      refine iteT ⟨fun σ' H' => tS G (sWhile mc mb m) Wx D σ' H', fun σ' H' h => ⟨m, by omega, h⟩, w1, env, rfl, s1, er.mono x1, ?_⟩
      cases hb4 : mb env w1.S with
      | nx env5 S5 =>
        simp only [hb4] at p1
        intro σ5 w5 x5 e5 s5 er5
        subst e5
        exact ⟨w5, env5, rfl, s5, er5, PostS.shift x5 p1⟩
      | ct env5 S5 =>
        simp only [hb4] at p1
        intro σ5 w5 x5 e5 s5 er5
        subst e5
        exact ⟨w5, env5, rfl, s5, er5, PostS.shift x5 p1⟩
      | brk env5 S5 => simp only [hb4] at p1; exact p1
      | ret d S5 => simp only [hb4] at p1; exact p1
      | exc e env5 S5 => simp only [hb4] at p1; exact p1
      | bad => simp only [hb4] at p1; exact p1.elim
end
end L3
set_option Elab.async false
set_option linter.all false
set_option maxRecDepth 100000
/-! L3F: list comprehensions. -/
namespace L3
open PySem PySem.Spec PyProof.Rows L2

def R.nox {α : Type} (r : R α) : R α := match r with
  | .ok a S => .ok a S
  | _ => .bad
def wipeD (env : EnvD) : List Nat → EnvD
  | [] => env
  | v :: vs => (wipeD env vs).set v none
def tYesD : TD := fun _ S => .ok true S
def lcL (g : GD) (tt : TD) (te : ED) (env : EnvD) : List D → Store → R (List D)
  | [], S => .ok [] S
  | x :: xs, S => match g x env S with
    | .nx env1 S1 => (tt env1 S1).nox.bind fun k S2 => match k with
      | true => (te env1 S2).nox.bind fun y S3 => (lcL g tt te env xs S3).bind fun ys S4 => .ok (y :: ys) S4
      | false => lcL g tt te env xs S2
    | _ => .bad
def eLc (mi : ID) (vs : List Nat) (g : GD) (tt : TD) (te : ED) : ED := fun env S => (mi env S).bind fun xs S1 =>
  if xs.length ≤ sizeLine then (lcL g tt te (wipeD env vs) xs S1).bind fun ys S2 => .ok (.lst ys) S2 else .bad

theorem R.bind_assoc {α β γ : Type} (r : R α) (f : α → Store → R β) (g : β → Store → R γ) : (r.bind f).bind g = r.bind fun a S => (f a S).bind g := by
  cases r <;> rfl
theorem R.bind_ok {α : Type} (r : R α) : (r.bind fun a S => .ok a S) = r := by cases r <;> rfl

section
variable {G : GC} {X : Cx} {Wx : WX} {pos : Pos}
theorem ERep.unset {w : Wd} {env : EnvD} {σ : L2.St} (i : Nat) (h : ERep G w env σ) : ERep G w (env.set i none) (σ.set i none) := by
  refine ⟨by simp [h.len], fun j d' e => ?_⟩
  by_cases hj : i = j
  · subst hj
    by_cases hi : i < env.length
    · rw [List.getElem?_set_self hi] at e; cases e
    · rw [List.getElem?_eq_none (by simpa using hi)] at e; cases e
  · rw [List.getElem?_set_ne hj] at e ⊢
    exact h.at' j d' e
theorem ERep.wipe {w : Wd} {env : EnvD} {σ : L2.St} (h : ERep G w env σ) : ∀ vs : List Nat, ERep G w (wipeD env vs) (L2.wipe σ vs)
  | [] => h
  | v :: vs => (ERep.wipe h vs).unset v
theorem wipe_set {σ : L2.St} {i : Nat} {x : Option V} : ∀ {vs : List Nat}, i ∈ vs → L2.wipe (σ.set i x) vs = L2.wipe σ vs
  | [], h => by simp at h
  | v :: vs, h => by
    show (L2.wipe (σ.set i x) vs).set v none = (L2.wipe σ vs).set v none
    by_cases hi : i ∈ vs
    · rw [wipe_set hi]
    · have hv : i = v := by simpa [hi] using h
      subst hv
      have : ∀ {us : List Nat} {τ : L2.St}, i ∉ us → L2.wipe (τ.set i x) us = (L2.wipe τ us).set i x := by
        intro us
        induction us with
        | nil => intro τ _; rfl
        | cons u us ih =>
          intro τ hu
          have h1 : i ≠ u := fun e => hu (by simp [e])
          have h2 : i ∉ us := fun e => hu (by simp [e])
          show (L2.wipe (τ.set i x) us).set u none = ((L2.wipe τ us).set u none).set i x
          rw [ih h2, List.set_comm _ _ h1]
      rw [this hi, List.set_set]

theorem wipe_sub {σ : L2.St} {vs : List Nat} : ∀ {us : List Nat}, (∀ i ∈ us, i ∈ vs) → L2.wipe (L2.wipe σ us) vs = L2.wipe σ vs
  | [], _ => rfl
  | u :: us, h => by
    show L2.wipe ((L2.wipe σ us).set u none) vs = _
    rw [wipe_set (h u (by simp)), wipe_sub fun i hi => h i (by simp [hi])]
mutual
theorem Rep.untmp {w : Wd} {t : List Addr} (ht : ∀ a ∈ t, a ∈ w.tmp) : ∀ (d : D) (v : V), Rep G w d v → Rep G { w with tmp := t } d v
  | .non, v, h => by simpa only [Rep] using h
  | .bl b, v, h => by simpa only [Rep] using h
  | .int i, v, h => by simpa only [Rep] using h
  | .str s, v, h => by simpa only [Rep] using h
  | .tup l, v, h => by
    simp only [Rep] at h ⊢
    obtain ⟨a, vs, e, h1, h2⟩ := h
    exact ⟨a, vs, e, h1.imp (fun z => ⟨z.1, fun m => z.2 (m.imp id (ht a))⟩) id, RepL.untmp ht l vs h2⟩
  | .lst l, v, h => by
    simp only [Rep] at h ⊢
    obtain ⟨a, vs, e, h1, nm, h2⟩ := h
    exact ⟨a, vs, e, h1, fun m => nm (m.imp id (ht a)), RepL.untmp ht l vs h2⟩
  | .dic ks l, v, h => by
    simp only [Rep] at h ⊢
    obtain ⟨a, vs, e, h1, nm, hl, h2⟩ := h
    exact ⟨a, vs, e, h1, fun m => nm (m.imp id (ht a)), hl, RepL.untmp ht l vs h2⟩
  | .obj n, v, h => by simpa only [Rep] using h
  | .glb y, v, h => by simpa only [Rep] using h
  | .ty n, v, h => by simpa only [Rep] using h
  | .scr ns, v, h => by
    simp only [Rep] at h ⊢
    obtain ⟨a, e, h1⟩ := h
    exact ⟨a, e, h1.imp (fun z => ⟨z.1, fun m => z.2 (m.imp id (ht a))⟩) id⟩
  | .kd ks l, v, h => by
    simp only [Rep] at h ⊢
    obtain ⟨a, es, n, vs, us, e, h1, h2, h3, h4, h5⟩ := h
    exact ⟨a, es, n, vs, us, e, h1, h2, h3, h4, RepL.untmp ht l vs h5⟩
theorem RepL.untmp {w : Wd} {t : List Addr} (ht : ∀ a ∈ t, a ∈ w.tmp) : ∀ (d : List D) (v : List V), RepL G w d v → RepL G { w with tmp := t } d v
  | [], v, h => by simpa only [RepL] using h
  | d :: ds, v, h => by
    simp only [RepL] at h ⊢
    obtain ⟨y, r, e, h1, h2⟩ := h
    exact ⟨y, r, e, Rep.untmp ht d y h1, RepL.untmp ht ds r h2⟩
end
theorem RepKV.untmp {κ : Type} {w : Wd} {t : List Addr} (ht : ∀ a ∈ t, a ∈ w.tmp) : ∀ (d : List (κ × D)) (v : List (κ × V)), RepKV G w d v → RepKV G { w with tmp := t } d v
  | [], v, h => h
  | d :: ds, v, h => by
    obtain ⟨y, r, e, h1, h2⟩ := h
    exact ⟨y, r, e, Rep.untmp ht _ y h1, RepKV.untmp ht ds r h2⟩
theorem ORep.untmp {w : Wd} {t : List Addr} (ht : ∀ a ∈ t, a ∈ w.tmp) {a : Addr} : ∀ {ob : O}, ORep G w a ob → ORep G { w with tmp := t } a ob
  | .lst _, ⟨vs, h1, h2⟩ => ⟨vs, h1, RepL.untmp ht _ _ h2⟩
  | .dK _, ⟨vs, h1, h2⟩ => ⟨vs, h1, RepKV.untmp ht _ _ h2⟩
  | .dT _, ⟨vs, h1, h2⟩ => ⟨vs, h1, RepKV.untmp ht _ _ h2⟩
  | .ins _ _, ⟨C, dx, vs, h1, h2, h3⟩ => ⟨C, dx, vs, h1, RepKV.untmp ht _ _ h2, h3⟩
  | .dead, _ => trivial
theorem SRep.untmp {w : Wd} {t : List Addr} (ht : ∀ a ∈ t, a ∈ w.tmp) (s : SRep G w) : SRep G { w with tmp := t } :=
  ⟨s.len, s.inj, fun n ob a h1 h2 => ORep.untmp ht (s.obj n ob a h1 h2), fun a ha => s.tm a (ht a ha)⟩

/-- a target of a comprehension, that stores at vs alone -/
def tGW (G : GC) (g : GD) (vs : List Nat) : TG := fun v σ H Q => ∃ w env d, w.H = H ∧ SRep G w ∧ ERep G w env σ ∧ Rep G w d v ∧
  match g d env w.S with
  | .nx env' S' => ∀ σ' w', WExt w w' → w'.S = S' → SRep G w' → ERep G w' env' σ' → L2.wipe σ' vs = L2.wipe σ vs → Q σ' w'.H
  | _ => False
theorem q_gnameW {e : Expr} {i : Nat} {vs : List Nat} (h : PG X e (L2.gName i)) (hv : i ∈ vs) : PG X e (tGW G (gName i) vs) := pgI h fun v σ H Q q => by
  obtain ⟨w, env, d, rfl, sr, er, rp, p⟩ := q
  exact p _ w (.refl w) rfl sr (er.set i rp) (wipe_set hv)
theorem q_gof {e : Expr} {g : GD} {vs : List Nat} (h : PG X e (tGW G g vs)) : PG X e (tG G g) := pgI h fun v σ H Q q => by
  obtain ⟨w, env, d, rfl, sr, er, rp, p⟩ := q
  refine ⟨w, env, d, rfl, sr, er, rp, ?_⟩
  cases h : g d env w.S with
  | nx env' S' => rw [h] at p; exact fun σ' w' x e s er _ => p σ' w' x e s er
  | ret _ _ => rw [h] at p; exact p.elim
  | brk _ _ => rw [h] at p; exact p.elim
  | ct _ _ => rw [h] at p; exact p.elim
  | exc _ _ _ => rw [h] at p; exact p.elim
  | bad => rw [h] at p; exact p.elim

def tTs (G : GC) (m : TD) : TT := tT G m WF
theorem imp_lc {mi : ID} {vs : List Nat} {g : GD} {tt : TD} {te : ED} : ∀ σ H Q, tE G (eLc mi vs g tt te) Wx σ H Q → tLc (tI G mi Wx) (tGW G g vs) (tT G tt WF) (tE G te WF) vs σ H Q := by
  intro σ H Q q
  obtain ⟨w, env, rfl, sr, er, p⟩ := q
  refine ⟨w, env, rfl, sr, er, (Post.bind (Ra := fun w' xs (J : It) => ItOk G w' J xs) p).mono (fun J H1 m => ?_) fun _ _ _ h => h⟩
  obtain ⟨w1, xs, rfl, x1, s1, io, p1⟩ := m
  intro L hL
  have hfr : ∀ a ∈ [L], w1.H a = none := fun a h => by have : a = L := by simpa using h
                                                       rw [this]; exact hL
  by_cases hz : xs.length ≤ sizeLine
  · rw [if_pos hz] at p1
    have er1 := (er.mono x1).wipe vs
    have h0 : WX' [L] w1 ⟨w1.mu, w1.S, upd w1.H L (.lst []), L :: w1.tmp⟩ :=
      ⟨fun _ _ h => h, fun a o h nm ha => ⟨(upd_ne (by simpa using ha)).trans h, nm⟩, fun a h => by
        rcases List.mem_cons.mp h with e | h
        · exact .inr (by simp [e])
        · exact .inl h, fun a h => List.mem_cons_of_mem _ h⟩
    have nL : ¬ MutS w1 L := fun m => by obtain ⟨u, e⟩ := MutS.there s1 m; rw [hL] at e; cases e
    have sW : SRep G ⟨w1.mu, w1.S, upd w1.H L (.lst []), L :: w1.tmp⟩ := by
      refine ⟨s1.len, s1.inj, fun n ob a h1 h2 => ?_, fun a ha => ?_⟩
      · have h := s1.obj n ob a h1 h2
        refine h.keep h0 (fr_tok hfr) fun lv => ?_
        obtain ⟨u, e⟩ := h.there lv
        exact upd_ne (ne_of_none e hL)
      · rcases List.mem_cons.mp ha with e | ha
        · subst e; exact ⟨⟨_, upd_same⟩, nL⟩
        · obtain ⟨⟨u, e⟩, nm⟩ := s1.tm a ha
          exact ⟨⟨u, (upd_ne (ne_of_none e hL)).trans e⟩, nm⟩
    refine ⟨fun i m H => ∃ w3 acc us, w3.H = H ∧ SRep G w3 ∧ WX' [L] w1 w3 ∧ L ∈ w3.tmp ∧ w3.H L = some (.lst us) ∧ RepL G w3 acc us ∧ acc.length ≤ i ∧ i + m = xs.length ∧
        (lcL g tt te (wipeD env vs) xs w1.S) = (lcL g tt te (wipeD env vs) (xs.drop i) w3.S).bind fun ys S2 => .ok (acc ++ ys) S2,
      ⟨xs.length, _, [], [], rfl, sW, h0, by simp, upd_same, by simp [RepL], Nat.le_refl _, by omega, ?_⟩, fun i m H hW => ?_⟩
    · simp only [List.drop_zero, List.nil_append, R.bind_ok]
    obtain ⟨w3, acc, us, rfl, s3, x3, tm3, hL3, ra3, hlen, em, eq⟩ := hW
    rw [eq] at p1
    by_cases hi : i < xs.length
    · have e : xs[i]? = some xs[i] := List.getElem?_eq_getElem hi
      obtain ⟨go, yl⟩ := io.go [L] w3 hfr x3 s3 i xs[i] e
      refine .inr ⟨go, fun H' => ∃ w5 acc us, w5.H = H' ∧ SRep G w5 ∧ WX' [L] w1 w5 ∧ L ∈ w5.tmp ∧ w5.H L = some (.lst us) ∧ RepL G w5 acc us ∧ acc.length ≤ i + 1 ∧ (i + 1) + (m - 1) = xs.length ∧
        (lcL g tt te (wipeD env vs) xs w1.S) = (lcL g tt te (wipeD env vs) (xs.drop (i + 1)) w5.S).bind fun ys S2 => .ok (acc ++ ys) S2, fun H' hN => ⟨m - 1, by omega, hN⟩, fun x H' hy => ?_⟩
      obtain ⟨w4, rfl, x4, eS4, s4, rp4⟩ := yl x H' hy
      have x14 : WX' [L] w1 w4 := WX'.trans x3 (WX'.wide x4)
      refine ⟨w4, wipeD env vs, xs[i], rfl, s4, er1.monoT x14 (fr_tok hfr), rp4, ?_⟩
      rw [List.drop_eq_getElem_cons hi, lcL] at eq p1
      rw [eS4]
      cases hg : g xs[i] (wipeD env vs) w3.S with
      | nx env5 S5 =>
        rw [hg] at eq p1
        simp only at eq p1
        intro σ5 w5 x5 e5 s5 er5 hw
        subst e5
        refine ⟨hw.trans (wipe_sub fun _ h => h), w5, env5, rfl, s5, er5, ?_⟩
        cases ht : tt env5 w5.S with
        | ok k S6 =>
          rw [ht] at eq p1
          simp only [R.nox, R.bind] at eq p1
          intro b w6 x6 e6 s6 hb
          subst hb e6
          have x46 : WExt w4 w6 := WX'.trans x5 x6
          have x16 : WX' [L] w1 w6 := WX'.trans x14 (WX'.wide x46)
          have hL6 : w6.H L = some (.lst us) := (x46.keep L _ ((x4.keep L _ hL3 ((s3.tm L tm3).2) (by simp)).1) ((s4.tm L (x4.tmp' L tm3)).2) (by simp)).1
          have tm6 : L ∈ w6.tmp := x46.tmp' L (x4.tmp' L tm3)
          have ra6 : RepL G w6 acc us := RepL.mono (WX'.trans x4 x46) _ _ ra3
          cases k with
          | false =>
            refine iteF ⟨w6, acc, us, rfl, s6, x16, tm6, hL6, ra6, by omega, by omega, ?_⟩
            simpa using eq
          | true =>
            refine iteT ⟨w6, env5, rfl, s6, er5.mono x6, ?_⟩
            simp only at eq p1
            cases hte : te env5 w6.S with
            | ok y S7 =>
              rw [hte] at eq p1
              simp only [R.nox, R.bind] at eq p1
              intro v w7 x7 e7 s7 r7
              subst e7
              have hL7 : w7.H L = some (.lst us) := (x7.keep L _ hL6 ((s6.tm L tm6).2) (by simp)).1
              have tm7 : L ∈ w7.tmp := x7.tmp' L tm6
              have nm7 : ¬ MutS w7 L := (s7.tm L tm7).2
              have lu : us.length = acc.length := ra3.length
              refine ⟨us, hL7, by omega, ?_⟩
              have x8 : WX' [L] w7 (w7.put L (.lst (us ++ [v]))) := ⟨fun _ _ h => h, fun a o h nm ha => ⟨(upd_ne (by simpa using ha)).trans h, nm⟩, fun a h => .inl h, fun a h => h⟩
              have t8 : Tok [L] w7 := fun a h => .inl (by have : a = L := by simpa using h
                                                          rw [this]; exact tm7)
              have s8 : SRep G (w7.put L (.lst (us ++ [v]))) := by
                refine ⟨s7.len, s7.inj, fun n ob a h1 h2 => ?_, fun a ha => ?_⟩
                · have h := s7.obj n ob a h1 h2
                  exact h.keep x8 t8 fun lv => upd_ne fun e => nm7 (by subst e; exact ⟨n, ob, h1, lv, h2⟩)
                · obtain ⟨⟨u, e⟩, nm⟩ := s7.tm a ha
                  by_cases ea : a = L
                  · subst ea; exact ⟨⟨_, upd_same⟩, nm⟩
                  · exact ⟨⟨u, (upd_ne ea).trans e⟩, nm⟩
              refine ⟨_, acc ++ [y], us ++ [v], rfl, s8, WX'.trans (WX'.trans x16 (WX'.wide x7)) x8, tm7, upd_same, ?_, by simp; omega, by omega, ?_⟩
              · exact (RepL.monoT x8 t8 _ _ (RepL.mono x7 _ _ ra6)).append (RepL.one (Rep.monoT x8 t8 _ _ r7))
              · rw [eq]
                show _ = (lcL g tt te (wipeD env vs) (List.drop (i + 1) xs) w7.S).bind _
                cases lcL g tt te (wipeD env vs) (List.drop (i + 1) xs) w7.S <;> simp [R.bind]
            | exc ee S7 => rw [hte] at p1; exact p1.elim
            | bad => rw [hte] at p1; exact p1.elim
        | exc ee S6 => rw [ht] at p1; exact p1.elim
        | bad => rw [ht] at p1; exact p1.elim
      | ret _ _ => rw [hg] at p1; exact p1.elim
      | brk _ _ => rw [hg] at p1; exact p1.elim
      | ct _ _ => rw [hg] at p1; exact p1.elim
      | exc _ _ _ => rw [hg] at p1; exact p1.elim
      | bad => rw [hg] at p1; exact p1.elim
    · have ei : i = xs.length := by omega
      subst ei
      refine .inl ⟨io.stop [L] w3 hfr x3 s3, ?_⟩
      rw [List.drop_length] at p1
      have we : WExt w1 { w3 with tmp := w1.tmp } := ⟨x3.mu, fun a o h nm _ => x3.keep a o h nm (by
        intro ha
        have : a = L := by simpa using ha
        rw [this, hL] at h; cases h), fun a h => .inl h, fun a h => h⟩
      have tinc : ∀ a, a ∈ w1.tmp → a ∈ w3.tmp := x3.tmp'
      have se : SRep G { w3 with tmp := w1.tmp } := s3.untmp tinc
      have nmL : ¬ Mut { w3 with tmp := w1.tmp } L := fun m => m.elim (s3.tm L tm3).2 fun z => by
        obtain ⟨⟨u, e⟩, _⟩ := s1.tm L z
        rw [hL] at e; cases e
      have hr : Rep G { w3 with tmp := w1.tmp } (.lst (acc ++ [])) (.ref L) := by
        simp only [Rep, List.append_nil]
        exact ⟨L, us, rfl, hL3, nmL, RepL.untmp tinc _ _ ra3⟩
      exact p1 (.ref L) { w3 with tmp := w1.tmp } we rfl se hr
  · rw [if_neg hz] at p1; exact p1.elim
/-- [elt for target in iter if ..] -/
theorem q_lc {elt tg iter : Expr} {ifs : List Expr} {scope : Scope} {own : List (Str × Nat)} {mi : ID} {g : GD} {mt : TD} {me : ED} (hc : X.calm = true) (hN : X.N.Nodup) (hi : PI X tg iter (tI G mi Wx)) (ok : BlkOk X.N X.env.scope scope own)
    (hg : ∀ (s : Shared) (H : Hp) (C : Addr) (cl : List (Str × Addr)) (fp : List Addr), PG (X.blk s H scope (compEnvC scope cl C X.env) fp) tg (tGW G g (own.map (·.2))))
    (ht : ∀ (s : Shared) (H : Hp) (C : Addr) (cl : List (Str × Addr)) (fp : List Addr), PTs (X.blk s H scope (compEnvC scope cl C X.env) fp) ifs (tT G mt WF))
    (he : ∀ (s : Shared) (H : Hp) (C : Addr) (cl : List (Str × Addr)) (fp : List Addr), PE (X.blk s H scope (compEnvC scope cl C X.env) fp) elt (tE G me WF)) (hs : ∀ x, foldedSetIterable iter X.env x = pure x := by intro _; rfl) :
    PE X (.ListComp elt [⟨tg, iter, ifs, 0⟩] scope pos) (tE G (eLc mi (own.map (·.2)) g mt me) Wx) := peI (pe_lc hc hN hi ok hg ht he hs) imp_lc
theorem q_setLc {i : Nat} {y : Str} {py : Pos} {elt tg iter : Expr} {ifs : List Expr} {scope : Scope} {own : List (Str × Nat)} {spos : Pos} {mi : ID} {g : GD} {mt : TD} {me : ED} (hc : X.calm = true) (hN : X.N.Nodup) (hy : X.N[i]? = some y) (hyl : X.env.scope.names.lookup y = some .local)
    (hsw : swapsWith (.ListComp elt [⟨tg, iter, ifs, 0⟩] scope pos) (some (.Name y py)) spos.line X.env = pure true) (hi : PI X tg iter (tI G mi Wx)) (ok : BlkOk X.N X.env.scope scope own)
    (hg : ∀ (s : Shared) (H : Hp) (C : Addr) (cl : List (Str × Addr)) (fp : List Addr), PG (X.blk s H scope (compEnvC scope cl C X.env) fp) tg (tGW G g (own.map (·.2))))
    (ht : ∀ (s : Shared) (H : Hp) (C : Addr) (cl : List (Str × Addr)) (fp : List Addr), PTs (X.blk s H scope (compEnvC scope cl C X.env) fp) ifs (tT G mt WF))
    (he : ∀ (s : Shared) (H : Hp) (C : Addr) (cl : List (Str × Addr)) (fp : List Addr), PE (X.blk s H scope (compEnvC scope cl C X.env) fp) elt (tE G me WF)) (hs : ∀ x, foldedSetIterable iter X.env x = pure x := by intro _; rfl) :
    PS X (.Assign [.Name y py] (.ListComp elt [⟨tg, iter, ifs, 0⟩] scope pos) spos) (tS G (sAsg (eLc mi (own.map (·.2)) g mt me) (gName i)) Wx) := psI (ps_setLc hc hN hy hyl hsw hi ok hg ht he hs) fun D σ H q => by
  obtain ⟨w, env, rfl, sr, er, p⟩ := q
  refine imp_lc (Wx := Wx) σ w.H _ ⟨w, env, rfl, sr, er, (PostS.ofR (Ra := Rep G) er p).mono (fun x H1 m => ?_) fun _ _ _ h => h⟩
  obtain ⟨w1, d1, rfl, x1, s1, rp1, p1⟩ := m
  exact p1 _ w1 (.refl w1) rfl s1 ((er.mono x1).set i rp1)
theorem q_tnil : PTs X [] (tT G tYesD WF) := ⟨fun pins s σ H Q I q => by
  obtain ⟨w, env, rfl, sr, er, p⟩ := q
  exact pts_nil.run pins s σ w.H Q I (Post.ret (Ra := fun _ (a b : Bool) => a = b) sr rfl p)⟩
theorem q_tone {c : Expr} {m : TD} (h : PT X c (tT G m WF)) : PTs X [c] (tT G m WF) := pts_one h
end
end L3
set_option Elab.async false
set_option linter.all false
set_option maxRecDepth 100000
/-! L3G: calls of own defs; a def by its body. -/
namespace L3
open PySem PySem.Spec PyProof.Rows L2

/-- a def's promise -/
def spOf (G : GC) (F : FN) : Sp := fun vs H Q E => ∃ w ds, w.H = H ∧ SRep G w ∧ RepL G w ds vs ∧ Post G w (F ds w.S) (Rep G) Q E
abbrev WE0 (E : XK) : WX := fun C d _ H => E C d H
/-- the arguments, then defaults -/
def callK (F : FN) (dds : List D) : FN := fun xs S => F (xs ++ dds) S

section
variable {G : GC} {X : Cx} {Wx : WX} {pos p : Pos} {k : Nat} {f : Addr} {fd : FuncData} {ps : List Str} {F : FN} {x : Str} {e : Expr} {es : List Expr} {dvs : List V} {ds : List Value} {dds : List D} {m : AD}
theorem imp_call (hdd : ∀ w, RepL G w dds dvs) : ∀ σ H Q, tE G (eN (callK F dds) m) Wx σ H Q → tCallSD (spOf G F) dvs (WE Wx) (tA G m Wx) σ H Q := by
  intro σ H Q q
  obtain ⟨w, env, rfl, sr, er, p⟩ := q
  refine ⟨w, env, rfl, sr, er, (Post.bind p).mono (fun x H1 m => ?_) fun _ _ _ h => h⟩
  obtain ⟨w1, d1, rfl, x1, s1, rp1, p1⟩ := m
  exact ⟨w1, d1 ++ dds, rfl, s1, rp1.append (hdd w1), p1⟩
theorem q_call (hF : FnOk X.prog X.w X.K X.mg X.base (L2.CX X.prog X.w) k f fd ps (spOf G F)) (hr : Room k X.A) (hg : Gl X x) (hm : X.mg x = some (.ref f)) (hk : PySem.W.keepIn X.K (.ref f) = true) (hb : Binds X.K fd ps ds) (hd : Vals dvs ds) (hdd : ∀ w, RepL G w dds dvs) (tk : Takes X Wx)
    (ha : PA X (e :: es) (tA G m Wx)) (hdb : (x == ("__debug__" : Str)) = false := by decide) (he : starEach (e :: es) X.env = (false, eval e X.env) :: starEach es X.env := by rfl) (hpl : (backTo pos (starEach es X.env)).any (·.1) = false := by rfl) :
    PE X (.Call (.Name x p) (e :: es) [] pos) (tE G (eN (callK F dds) m) Wx) :=
  peI (pe_callSD (E := WE Wx) hF hr hg hm hk hb hd (fun σ => passAt tk σ) ha hdb he hpl) (imp_call hdd)
theorem RepL.nil {w : Wd} : RepL G w [] [] := by simp [RepL]
/-- f() -/
theorem q_call0 (hF : FnOk X.prog X.w X.K X.mg X.base (L2.CX X.prog X.w) k f fd ps (spOf G F)) (hr : Room k X.A) (hg : Gl X x) (hm : X.mg x = some (.ref f)) (hk : PySem.W.keepIn X.K (.ref f) = true) (hb : Binds X.K fd ps ds) (hd : Vals dvs ds) (hdd : ∀ w, RepL G w dds dvs) (tk : Takes X Wx)
    (hdb : (x == ("__debug__" : Str)) = false := by decide) : PE X (.Call (.Name x p) [] [] pos) (tE G (eN (callK F dds) aNil) Wx) := by
  refine ⟨fun pins s σ H Q I h => ?_⟩
  obtain ⟨w, env, rfl, sr, er, pp⟩ := h
  refine wpAny_Call_Name_kw (ld_glob I hg hm ?_ hdb)
  exact PySem.W.callWith_K0 I.kIn hk (run_fnSD (us := []) (vs := []) hF hr hb hd (passAt tk σ) I .nil ⟨w, dds, rfl, sr, by simpa using hdd w, pp⟩)
end

section
variable {P : Program} {w : World} {G : GC} {base : Heap} {x qual : Str} {params : Arguments} {body : List Stmt} {scope : Scope} {dvs : List V} {kws : List (Str × V)} {f : Addr} {fd : FuncData} {k n : Nat} {N ps : List Str} {m : SD}
theorem len_spOf {vs : List V} {H : Hp} {Q : VK} {E : XK} {F : FN} {n : Nat} (ar : ∀ ds S, ds.length ≠ n → F ds S = .bad) (h : spOf G F vs H Q E) : vs.length = n := by
  obtain ⟨w, ds, rfl, sr, rp, p⟩ := h
  rw [rp.length]
  by_cases e : ds.length = n
  · exact e
  · rw [ar ds w.S e] at p; exact p.elim
theorem run_ar : ∀ (ds : List D) (S : Store), ds.length ≠ n → run n k m ds S = .bad := fun ds S h => by unfold run; rw [if_neg h]
theorem ERep.start {wd : Wd} {ds : List D} {vs : List V} (h : RepL G wd ds vs) : ERep G wd (ds.map some ++ List.replicate (n - ds.length) none) (vs.map some ++ List.replicate (n - vs.length) none) := by
  have hl := h.length
  refine ⟨by simp [hl], fun i d e => ?_⟩
  by_cases hi : i < ds.length
  · rw [List.getElem?_append_left (by simpa using hi), List.getElem?_map] at e
    cases q : ds[i]? with
    | none => rw [q] at e; cases e
    | some d' =>
      rw [q] at e
      cases e
      obtain ⟨v, h1, h2⟩ := h.get q
      refine ⟨v, ?_, h2⟩
      rw [List.getElem?_append_left (by simp [hl]; exact hi), List.getElem?_map, h1]
      rfl
  · rw [List.getElem?_append_right (by simpa using hi)] at e
    have := (List.getElem?_eq_some_iff.mp e).2
    simp at this
/-- THE RULE for a def: its body's reading in every entry -/
theorem fn_ok (F : FunD G.K x qual params body scope dvs kws f fd) (S : FnScope N ps scope)
    (hb : ∀ (cdv : Value) (A : Around) (outer : List Env) (s : Shared) (H : Hp) (E : XK), Room k (A.deeper (envOfC qual scope s.heap.objs.size f cdv)) →
      PSs (cxOf (L2.CX P w) P w G.K G.mg base N qual scope f cdv A outer s H E) body (tS G m (WE0 E))) :
    FnOk P w G.K G.mg base (L2.CX P w) (k + 1) f fd ps (spOf G (run ps.length N.length m)) := by
  refine F.ok S (fun vs H Q E h => len_spOf run_ar h) fun cdv A outer s H vs Q E hr h => ⟨_, hb cdv A outer s H E hr, ?_⟩
  obtain ⟨wd, ds, rfl, sr, rp, p⟩ := h
  by_cases hl : ds.length = ps.length
  · unfold run at p
    rw [if_pos hl] at p
    refine ⟨wd, _, rfl, sr, ERep.start rp, ?_⟩
    cases hm : m (ds.map some ++ List.replicate (N.length - ds.length) none) wd.S with
    | nx env S => rw [hm] at p; exact fun σ' w' x hs s er => p .non w' x hs s (by simp [Rep])
    | ret d S => rw [hm] at p; exact p
    | brk _ _ => rw [hm] at p; exact p.elim
    | ct _ _ => rw [hm] at p; exact p.elim
    | exc e env S => rw [hm] at p; exact fun C dx σ' w' x hs s er xr => p C dx w' x hs s xr
    | bad => rw [hm] at p; exact p.elim
  · rw [run_ar ds wd.S hl] at p; exact p.elim
theorem fn_none {nn : Nat} : FnOk P w G.K G.mg base (L2.CX P w) nn f fd ps (spOf G fun _ _ => .bad) :=
  ⟨fun vs H Q E ⟨w, ds, _, _, _, p⟩ => p.elim, fun A outer s H args us vs Q E _ _ _ _ ⟨w, ds, _, _, _, p⟩ => p.elim⟩
/-- in a def's own body -/
theorem tk_body {K : PySem.W.Frag} {mg : Str → Option Value} {qual : Str} {scope : Scope} {cdv : Value} {A : Around} {outer : List Env} {s : Shared} {H : Hp} {E : XK} : Takes (cxOf (L2.CX P w) P w K mg base N qual scope f cdv A outer s H E) (WE0 E) := takes_of rfl rfl rfl rfl
theorem po_body {K : PySem.W.Frag} {mg : Str → Option Value} {qual : Str} {scope : Scope} {cdv : Value} {A : Around} {outer : List Env} {s : Shared} {H : Hp} {E : XK} : PassesOwn (model P w) (cxOf (L2.CX P w) P w K mg base N qual scope f cdv A outer s H E).A (cxOf (L2.CX P w) P w K mg base N qual scope f cdv A outer s H E).env (cxOf (L2.CX P w) P w K mg base N qual scope f cdv A outer s H E).xe := passes_of (X := cxOf (L2.CX P w) P w K mg base N qual scope f cdv A outer s H E) rfl
/-- in a comprehension's block nothing is let out -/
theorem tk_blk {X : Cx} {s : Shared} {H : Hp} {sc : Scope} {ce : Env} {fp : List Addr} : Takes (X.blk s H sc ce fp) WF := fun u s' h => by
  obtain ⟨_, _, _, _, _, _, _, _, _, _, _, _, _, _, _, _, z⟩ := h
  exact z.elim
end
end L3
set_option Elab.async false
set_option linter.all false
set_option maxRecDepth 100000
/-! L3H: operations by values. -/
namespace L3
open PySem PySem.Spec PyProof.Rows L2

theorem opI2 {X : Cx} {f : Value → Value → Sem Value} {r r' : R2} (h : OpR X f r) (i : ∀ x y H Q, r' x y H Q → r x y H Q) : OpR X f r' := fun pins s σ H x y v u Q I rx ry q => h pins s σ H x y v u Q I rx ry (i _ _ _ _ q)
theorem unI2 {X : Cx} {f : Value → Sem Value} {r r' : V → Hp → VK → Prop} (h : UnR X f r) (i : ∀ x H Q, r' x H Q → r x H Q) : UnR X f r' := fun pins s σ H x v Q I rx q => h pins s σ H x v Q I rx (i _ _ _ q)
theorem ixI2 {X : Cx} {r r' : R2} (h : IxR X r) (i : ∀ x y H Q, r' x y H Q → r x y H Q) : IxR X r' := fun a b pins s σ H x y v u Q I rx ry q => h a b pins s σ H x y v u Q I rx ry (i _ _ _ _ q)
theorem caI2 {X : Cx} {f : Value} {r r' : List V → Hp → VK → Prop} (h : CallR X f r) (i : ∀ xs H Q, r' xs H Q → r xs H Q) : CallR X f r' := fun pins s σ H xs us Q I rs q => h pins s σ H xs us Q I rs (i _ _ _ q)
theorem mtI2 {X : Cx} {id : String} {r r' : V → List V → Hp → VK → Prop} (h : MtR X id r) (i : ∀ x xs H Q, r' x xs H Q → r x xs H Q) : MtR X id r' := fun pins s σ H x xs v us Q I rx rs q => h pins s σ H x xs v us Q I rx rs (i _ _ _ _ q)

section
variable {G : GC} {w : Wd}
/-- a list, however it is kept -/
def asL (x : D) (S : Store) : Option (List D) := match x with
  | .lst l => some l
  | .obj n => match S[n]? with
    | some (.lst l) => some l
    | _ => none
  | _ => none
theorem asL_rep {x : D} {v : V} {l : List D} (sr : SRep G w) (h : Rep G w x v) (e : asL x w.S = some l) : ∃ a vs, v = .ref a ∧ w.H a = some (.lst vs) ∧ RepL G w l vs := by
  cases x with
  | lst l' =>
    cases e
    simp only [Rep] at h
    obtain ⟨a, vs, rfl, h1, _, h2⟩ := h
    exact ⟨a, vs, rfl, h1, h2⟩
  | obj n =>
    simp only [Rep] at h
    obtain ⟨a, h1, rfl⟩ := h
    unfold asL at e
    dsimp only at e
    cases hn : w.S[n]? with
    | none => rw [hn] at e; cases e
    | some o =>
      rw [hn] at e
      cases o with
      | lst l' =>
        cases e
        obtain ⟨vs, q1, q2⟩ := sr.obj n _ a hn h1
        exact ⟨a, vs, rfl, q1, q2⟩
      | _ => cases e
  | _ => cases e
/-- a new list, a new tuple -/
theorem new_lst {l : List D} {vs : List V} {S : Store} {Q : VK} {E : Value → Option Addr → Hp → Prop} (sr : SRep G w) (rl : RepL G w l vs) (p : Post G w (.ok (.lst l) w.S) (Rep G) Q E) (a : Addr) (ha : w.H a = none) : Q (.ref a) (upd w.H a (.lst vs)) := by
  obtain ⟨x, s, nm⟩ := new_ext (o := .lst vs) sr ha
  exact p (.ref a) _ x rfl s (by simp only [Rep]; exact ⟨a, vs, rfl, upd_same, nm, RepL.mono x _ _ rl⟩)
theorem new_tup {l : List D} {vs : List V} {Q : VK} {E : Value → Option Addr → Hp → Prop} (sr : SRep G w) (rl : RepL G w l vs) (p : Post G w (.ok (.tup l) w.S) (Rep G) Q E) (a : Addr) (ha : w.H a = none) : Q (.ref a) (upd w.H a (.tup vs)) := by
  obtain ⟨x, s, nm⟩ := new_ext (o := .tup vs) sr ha
  exact p (.ref a) _ x rfl s (by simp only [Rep]; exact ⟨a, vs, rfl, .inl ⟨.inl upd_same, nm⟩, RepL.mono x _ _ rl⟩)
theorem new_lobj {l : List D} {vs : List V} {Q : VK} {E : Value → Option Addr → Hp → Prop} (sr : SRep G w) (rl : RepL G w l vs) (p : Post G w (.ok (.obj w.S.length) (w.S ++ [.lst l])) (Rep G) Q E) (a : Addr) (ha : w.H a = none) : Q (.ref a) (upd w.H a (.lst vs)) := by
  obtain ⟨x, s⟩ := new_obj (ob := .lst l) (o := .lst vs) sr ha fun w' x e => ⟨vs, e, RepL.mono x _ _ rl⟩
  exact p (.ref a) _ x rfl s (by simp only [Rep]; exact ⟨a, by rw [← sr.len]; simp, rfl⟩)
theorem SqT_of {a : Addr} {vs : List V} (h : Fz w a (.tup vs) ∨ KT G.K a vs) : SqT G.K w.H a vs := h.imp (fun z => z.1) id
end

/-! ### a text times an int -/
def repS (z : Str) (k : Int) : Str := ⟨(List.replicate k.toNat z.cps.toList).flatten.toArray⟩
theorem fold_app : ∀ (l : List (Array Nat)) (a : Array Nat), (l.foldl (· ++ ·) a).toList = a.toList ++ (l.map Array.toList).flatten
  | [], a => by simp
  | x :: l, a => by simp [fold_app l]
theorem repS_fold (z : Str) (k : Int) : (⟨(List.replicate k.toNat z.cps).foldl (· ++ ·) #[]⟩ : Str) = repS z k := by
  unfold repS
  congr 1
  apply Array.ext'
  rw [fold_app]; simp
theorem repS_one (z : Str) : repS z 1 = z := by
  unfold repS; simp
theorem repS_nil {z : Str} (k : Int) (h : z.length = 0) : repS z k = z := by
  have e : z.cps = #[] := Array.eq_empty_of_size_eq_zero h
  obtain ⟨c⟩ := z
  simp only at e; subst e
  unfold repS; simp
theorem repS_lt {z : Str} {k : Int} (h : k < 1) : repS z k = Str.empty := by
  unfold repS
  rw [show k.toNat = 0 by omega]; rfl
theorem repS_len (z : Str) (k : Int) : (repS z k).length = k.toNat * z.length := by
  show (repS z k).cps.size = k.toNat * z.cps.size
  unfold repS; simp
theorem op_repS {X : Cx} : OpR X (binaryOp .Mult) (fun x y H Q => ∃ z k, x = .str z ∧ y = .int k ∧ -(2 ^ 63) ≤ k ∧ k < 2 ^ 63 ∧ z.length * k.toNat ≤ sizeLine ∧ Q (.str (repS z k)) H) := by
  intro pins s σ H x y v u Q I rx ry h
  obtain ⟨z, k, rfl, rfl, h1, h2, h3, q⟩ := h
  obtain ⟨t, rfl⟩ := rx
  obtain ⟨t', rfl⟩ := ry
  refine P.mul_str (by simp; omega) (fun h _ => ?_) (fun _ _ => ?_) ?_
  · intro c
    have : (z.length : Int) * k ≤ 2 ^ 24 := by
      have h4 : ((z.length * k.toNat : Nat) : Int) ≤ ((2 ^ 24 : Nat) : Int) := Int.ofNat_le.mpr h3
      rw [Int.natCast_mul, Int.toNat_of_nonneg (by omega)] at h4
      exact h4
    have c2 := (Int.ediv_lt_iff_lt_mul (by omega : 0 < k)).mp c
    omega
  · exact decide_eq_false (Nat.not_lt.mpr h3)
  · split
    · rename_i hk
      rw [repS_lt hk] at q
      exact ⟨by decide, .str Str.empty, H, I.tok _, ⟨_, rfl⟩, q⟩
    · split
      · rename_i hk
        have e : repS z k = z := by
          rw [Bool.or_eq_true] at hk
          rcases hk with hk | hk
          · have := beq_iff_eq.mp hk; subst this; exact repS_one z
          · exact repS_nil k (beq_iff_eq.mp hk)
        rw [e] at q
        exact ⟨.str z, H, I, ⟨_, rfl⟩, q⟩
      · rw [repS_fold]
        refine ⟨?_, .str (repS z k), H, I.tok _, ⟨_, rfl⟩, q⟩
        rw [repS_len]; rw [Nat.mul_comm]; exact h3
/-! ### arithmetic -/
def mulOk (i j : Int) : Bool := decide (((-(2 ^ 64) < i ∧ i < 2 ^ 64) ∨ (-(2 ^ 64) < j ∧ j < 2 ^ 64)) ∨ i.natAbs.log2 + j.natAbs.log2 < 1000000)
def addD : F2 := fun x y S => match x, y with
  | .int i, .int j => .ok (.int (i + j)) S
  | .str a, .str b => if a.length + b.length ≤ sizeLine then .ok (.str (a ++ b)) S else .bad
  | .tup a, .tup b => if a.length + b.length ≤ sizeLine then .ok (.tup (a ++ b)) S else .bad
  | x, y => match asL x S, asL y S with
    | some a, some b => if a.length + b.length ≤ sizeLine then .ok (.lst (a ++ b)) S else .bad
    | _, _ => .bad
def subD : F2 := fun x y S => match x, y with
  | .int i, .int j => .ok (.int (i - j)) S
  | _, _ => .bad
def mulD : F2 := fun x y S => match x, y with
  | .int i, .int j => if mulOk i j then .ok (.int (i * j)) S else .bad
  | .str z, .int k => if -(2 ^ 63) ≤ k ∧ k < 2 ^ 63 ∧ z.length * k.toNat ≤ sizeLine then .ok (.str (repS z k)) S else .bad
  | x, .int k => match asL x S with
    | some a => if -(2 ^ 63) ≤ k ∧ k < 2 ^ 63 ∧ a.length * k.toNat ≤ sizeLine then .ok (.lst (List.replicate k.toNat a).flatten) S else .bad
    | _ => .bad
  | _, _ => .bad
def fdivD : F2 := fun x y S => match x, y with
  | .int i, .int j => if 0 < j ∧ j.natAbs.log2 < 9000 then .ok (.int (i / j)) S else .bad
  | _, _ => .bad
def modD : F2 := fun x y S => match x, y with
  | .int i, .int j => if 0 < j then .ok (.int (i % j)) S else .bad
  | _, _ => .bad
def powD : F2 := fun x y S => match x, y with
  | .int i, .int j => if 0 ≤ j ∧ (Builtin.Int.intBits i : Int) * j ≤ 2 ^ 27 then .ok (.int (i ^ j.toNat)) S else .bad
  | _, _ => .bad
def negD : F1 := fun x S => match x with
  | .int i => .ok (.int (-i)) S
  | _ => .bad
section
variable {G : GC} {X : Cx}
theorem c_add : Calm2 addD := fun x y S => by unfold addD; repeat' split
                                              all_goals trivial
theorem c_sub : Calm2 subD := fun x y S => by unfold subD; repeat' split
                                              all_goals trivial
theorem c_mul : Calm2 mulD := fun x y S => by unfold mulD; repeat' split
                                              all_goals trivial
theorem c_fdiv : Calm2 fdivD := fun x y S => by unfold fdivD; repeat' split
                                                all_goals trivial
theorem c_mod : Calm2 modD := fun x y S => by unfold modD; repeat' split
                                              all_goals trivial
theorem c_pow : Calm2 powD := fun x y S => by unfold powD; repeat' split
                                              all_goals trivial
theorem c_neg : Calm1 negD := fun x S => by unfold negD; repeat' split
                                            all_goals trivial
theorem o_add (hK : X.K = G.K) : OpR X (binaryOp .Add) (r2 G addD) := by
  refine opI2 (op_add.or (op_add_str.or (op_catA.or op_cat))) fun x y H Q q => ?_
  obtain ⟨w, d1, d2, rfl, sr, r1, r2, p⟩ := q
  unfold addD at p
  split at p
  · simp only [Rep] at r1 r2
    exact .inl ⟨_, _, r1, r2, Post.ret (Ra := Rep G) sr (by simp [Rep]) p⟩
  · split at p
    · rename_i hz
      simp only [Rep] at r1 r2
      exact .inr (.inl ⟨_, _, r1, r2, hz, Post.ret (Ra := Rep G) sr (by simp [Rep]) p⟩)
    · exact p.elim
  · split at p
    · rename_i hz
      have r1' := r1
      have r2' := r2
      simp only [Rep] at r1 r2
      obtain ⟨a, vs, rfl, h1, l1⟩ := r1
      obtain ⟨b, us, rfl, h2, l2⟩ := r2
      have e1 := l1.length
      have e2 := l2.length
      refine .inr (.inr (.inl ⟨a, b, vs, us, rfl, rfl, by rw [hK]; exact SqT_of h1, by rw [hK]; exact SqT_of h2, by omega, fun e => ?_, fun _ e => ?_, fun _ _ p' hp' => ?_⟩))
      · have e' := List.eq_nil_of_length_eq_zero (by rw [← e1, e]; rfl)
        rw [e', List.nil_append] at p
        exact Post.ret (Ra := Rep G) sr r2' p
      · have e' := List.eq_nil_of_length_eq_zero (by rw [← e2, e]; rfl)
        rw [e', List.append_nil] at p
        exact Post.ret (Ra := Rep G) sr r1' p
      · exact new_tup sr (l1.append l2) p p' hp'
    · exact p.elim
  · split at p
    · rename_i l1 l2 h1 h2
      split at p
      · rename_i hz
        obtain ⟨a, vs, rfl, e1, q1⟩ := asL_rep sr r1 h1
        obtain ⟨b, us, rfl, e2, q2⟩ := asL_rep sr r2 h2
        refine .inr (.inr (.inr ⟨a, b, vs, us, rfl, rfl, e1, e2, by rw [q1.length, q2.length]; exact hz, fun p' hp' => new_lst (S := w.S) sr (q1.append q2) p p' hp'⟩))
      · exact p.elim
    · exact p.elim
theorem o_sub : OpR X (binaryOp .Sub) (r2 G subD) := by
  refine opI2 op_sub fun x y H Q q => ?_
  obtain ⟨w, d1, d2, rfl, sr, r1, r2, p⟩ := q
  unfold subD at p
  split at p
  · simp only [Rep] at r1 r2
    exact ⟨_, _, r1, r2, Post.ret (Ra := Rep G) sr (by simp [Rep]) p⟩
  · exact p.elim
theorem RepL.rep {w : Wd} {ds : List D} {vs : List V} (h : RepL G w ds vs) : ∀ k : Nat, RepL G w (List.replicate k ds).flatten (List.replicate k vs).flatten
  | 0 => by simp [RepL]
  | k + 1 => by
    simp only [List.replicate_succ, List.flatten_cons]
    exact h.append (RepL.rep h k)
theorem o_mul : OpR X (binaryOp .Mult) (r2 G mulD) := by
  refine opI2 ((op_mul.or op_mulW).or (op_rep.or op_repS)) fun x y H Q q => ?_
  obtain ⟨w, d1, d2, rfl, sr, r1, r2, p⟩ := q
  unfold mulD at p
  split at p
  · simp only [Rep] at r1 r2
    split at p
    · rename_i hz
      rcases of_decide_eq_true hz with hz | hz
      · exact .inl (.inl ⟨_, _, r1, r2, (by unfold CMul; exact hz), Post.ret (Ra := Rep G) sr (by simp [Rep]) p⟩)
      · exact .inl (.inr ⟨_, _, r1, r2, hz, Post.ret (Ra := Rep G) sr (by simp [Rep]) p⟩)
    · exact p.elim
  · simp only [Rep] at r1 r2
    split at p
    · rename_i hz
      exact .inr (.inr ⟨_, _, r1, r2, hz.1, hz.2.1, hz.2.2, Post.ret (Ra := Rep G) sr (by simp [Rep]) p⟩)
    · exact p.elim
  · split at p
    · rename_i l hl
      split at p
      · rename_i hz
        obtain ⟨a, vs, rfl, e1, q1⟩ := asL_rep sr r1 hl
        simp only [Rep] at r2
        refine .inr (.inl ⟨a, _, vs, rfl, r2, e1, hz.1, hz.2.1, by rw [q1.length]; exact hz.2.2, fun p' hp' => new_lst (S := w.S) sr (q1.rep _) p p' hp'⟩)
      · exact p.elim
    · exact p.elim
  · exact p.elim
theorem o_fdiv : OpR X (binaryOp .FloorDiv) (r2 G fdivD) := by
  refine opI2 op_fdivW fun x y H Q q => ?_
  obtain ⟨w, d1, d2, rfl, sr, r1, r2, p⟩ := q
  unfold fdivD at p
  split at p
  · simp only [Rep] at r1 r2
    split at p
    · rename_i hz
      exact ⟨_, _, r1, r2, hz, Post.ret (Ra := Rep G) sr (by simp [Rep]) p⟩
    · exact p.elim
  · exact p.elim
theorem o_mod : OpR X (binaryOp .Mod) (r2 G modD) := by
  refine opI2 op_mod fun x y H Q q => ?_
  obtain ⟨w, d1, d2, rfl, sr, r1, r2, p⟩ := q
  unfold modD at p
  split at p
  · simp only [Rep] at r1 r2
    split at p
    · rename_i hz
      exact ⟨_, _, r1, r2, hz, Post.ret (Ra := Rep G) sr (by simp [Rep]) p⟩
    · exact p.elim
  · exact p.elim
theorem o_pow : OpR X (binaryOp .Pow) (r2 G powD) := by
  refine opI2 (opI (C := fun i j => 0 ≤ j ∧ (Builtin.Int.intBits i : Int) * j ≤ 2 ^ 27) (g := fun i j => i ^ j.toNat) fun _ _ _ _ _ _ _ hc q => pow_int hc.1 hc.2 q) fun x y H Q q => ?_
  obtain ⟨w, d1, d2, rfl, sr, r1, r2, p⟩ := q
  unfold powD at p
  split at p
  · simp only [Rep] at r1 r2
    split at p
    · rename_i hz
      exact ⟨_, _, r1, r2, hz, Post.ret (Ra := Rep G) sr (by simp [Rep]) p⟩
    · exact p.elim
  · exact p.elim
theorem o_neg : UnR X (unaryOp .USub) (r1 G negD) := by
  refine unI2 un_neg fun x H Q q => ?_
  obtain ⟨w, d1, rfl, sr, r1, p⟩ := q
  unfold negD at p
  split at p
  · simp only [Rep] at r1
    exact ⟨_, r1, Post.ret (Ra := Rep G) sr (by simp [Rep]) p⟩
  · exact p.elim
end

/-! ### comparisons of numbers -/
def ltD : F2 := fun x y S => match x, y with
  | .int i, .int j => .ok (.bl (decide (i < j))) S
  | _, _ => .bad
def leD : F2 := fun x y S => match x, y with
  | .int i, .int j => .ok (.bl (decide (i ≤ j))) S
  | _, _ => .bad
def gtD : F2 := fun x y S => match x, y with
  | .int i, .int j => .ok (.bl (decide (j < i))) S
  | _, _ => .bad
def geD : F2 := fun x y S => match x, y with
  | .int i, .int j => .ok (.bl (decide (j ≤ i))) S
  | _, _ => .bad
section
variable {G : GC} {X : Cx}
theorem c_lt : Calm2 ltD := fun x y S => by unfold ltD; repeat' split
                                            all_goals trivial
theorem c_le : Calm2 leD := fun x y S => by unfold leD; repeat' split
                                            all_goals trivial
theorem c_gt : Calm2 gtD := fun x y S => by unfold gtD; repeat' split
                                            all_goals trivial
theorem c_ge : Calm2 geD := fun x y S => by unfold geD; repeat' split
                                            all_goals trivial
theorem o_lt : OpR X (compareOp .Lt) (r2 G ltD) := by
  refine opI2 op_lt fun x y H Q q => ?_
  obtain ⟨w, d1, d2, rfl, sr, r1, r2, p⟩ := q
  unfold ltD at p
  split at p
  · simp only [Rep] at r1 r2
    exact ⟨_, _, r1, r2, Post.ret (Ra := Rep G) sr (by simp [Rep]) p⟩
  · exact p.elim
theorem o_le : OpR X (compareOp .LtE) (r2 G leD) := by
  refine opI2 op_le fun x y H Q q => ?_
  obtain ⟨w, d1, d2, rfl, sr, r1, r2, p⟩ := q
  unfold leD at p
  split at p
  · simp only [Rep] at r1 r2
    exact ⟨_, _, r1, r2, Post.ret (Ra := Rep G) sr (by simp [Rep]) p⟩
  · exact p.elim
theorem o_gt : OpR X (compareOp .Gt) (r2 G gtD) := by
  refine opI2 op_gt fun x y H Q q => ?_
  obtain ⟨w, d1, d2, rfl, sr, r1, r2, p⟩ := q
  unfold gtD at p
  split at p
  · simp only [Rep] at r1 r2
    exact ⟨_, _, r1, r2, Post.ret (Ra := Rep G) sr (by simp [Rep]) p⟩
  · exact p.elim
theorem o_ge : OpR X (compareOp .GtE) (r2 G geD) := by
  refine opI2 op_ge fun x y H Q q => ?_
  obtain ⟨w, d1, d2, rfl, sr, r1, r2, p⟩ := q
  unfold geD at p
  split at p
  · simp only [Rep] at r1 r2
    exact ⟨_, _, r1, r2, Post.ret (Ra := Rep G) sr (by simp [Rep]) p⟩
  · exact p.elim
end

/-! ### data: ==, in -/
mutual
def toPy : D → Option PyData
  | .non => some .none
  | .bl b => some (.bool b)
  | .int i => some (.int i)
  | .str s => if PyData.strOk s = true then some (.str s) else none
  | .tup l => (toPyL l).map .tuple
  | .lst l => (toPyL l).map .list
  | .dic _ _ => none
  | .obj _ => none
  | .glb _ => none
  | .ty _ => none
  | .scr ns => some (.list (ns.map .int))
  | .kd _ _ => none
def toPyL : List D → Option (List PyData)
  | [] => some []
  | d :: ds => match toPy d, toPyL ds with
    | some x, some xs => some (x :: xs)
    | _, _ => none
end
/-- an object of the store as it stands -/
def deref (x : D) (S : Store) : D := match x with
  | .obj n => match S[n]? with
    | some (.lst l) => .lst l
    | _ => x
  | _ => x
def eqD : F2 := fun x y S => match toPy (deref x S), toPy (deref y S) with
  | some a, some b => if min a.depth b.depth ≤ 64 then .ok (.bl (PyData.eqv a b)) S else .bad
  | _, _ => .bad
def neD : F2 := fun x y S => match toPy (deref x S), toPy (deref y S) with
  | some a, some b => if min a.depth b.depth ≤ 64 then .ok (.bl (!PyData.eqv a b)) S else .bad
  | _, _ => .bad
section
variable {G : GC} {X : Cx} {w : Wd}
theorem c_eq : Calm2 eqD := fun x y S => by unfold eqD; repeat' split
                                            all_goals trivial
theorem c_ne : Calm2 neD := fun x y S => by unfold neD; repeat' split
                                            all_goals trivial
theorem dpI : ∀ (ns : List Int), DpAll G.K w.H (ns.map V.int) (ns.map PyData.int)
  | [] => .nil
  | n :: ns => .cons (.int n) (dpI ns)
mutual
theorem dp_of : ∀ (d : D) (v : V) (x : PyData), Rep G w d v → toPy d = some x → Dp G.K w.H v x ∧ x.canLay0 = true
  | .non, v, x, r, e => by simp only [Rep] at r; cases e; subst r; exact ⟨.non, rfl⟩
  | .bl b, v, x, r, e => by simp only [Rep] at r; cases e; subst r; exact ⟨.bl b, rfl⟩
  | .int i, v, x, r, e => by simp only [Rep] at r; cases e; subst r; exact ⟨.int i, rfl⟩
  | .str s, v, x, r, e => by
    simp only [Rep] at r
    simp only [toPy] at e
    split at e
    · rename_i h
      cases e; subst r; exact ⟨.str s, h⟩
    · cases e
  | .tup l, v, x, r, e => by
    simp only [Rep] at r
    obtain ⟨a, vs, rfl, h1, h2⟩ := r
    simp only [toPy, Option.map_eq_some_iff] at e
    obtain ⟨xs, e1, rfl⟩ := e
    obtain ⟨q1, q2⟩ := dpL_of l vs xs h2 e1
    exact ⟨.tup (SqT_of h1) q1, by simpa [PyData.canLay0] using q2⟩
  | .lst l, v, x, r, e => by
    simp only [Rep] at r
    obtain ⟨a, vs, rfl, h1, _, h2⟩ := r
    simp only [toPy, Option.map_eq_some_iff] at e
    obtain ⟨xs, e1, rfl⟩ := e
    obtain ⟨q1, q2⟩ := dpL_of l vs xs h2 e1
    exact ⟨.lst (SqL.of h1) q1, by simpa [PyData.canLay0] using q2⟩
  | .dic _ _, _, _, _, e => by simp [toPy] at e
  | .obj _, _, _, _, e => by simp [toPy] at e
  | .glb _, _, _, _, e => by simp [toPy] at e
  | .ty _, _, _, _, e => by simp [toPy] at e
  | .kd _ _, _, _, _, e => by simp [toPy] at e
  | .scr ns, v, x, r, e => by
    simp only [Rep] at r
    obtain ⟨a, rfl, h1⟩ := r
    simp only [toPy, Option.some.injEq] at e
    subst e
    refine ⟨.lst (h1.imp (fun z => z.1) id) (dpI ns), ?_⟩
    simp only [PyData.canLay0]
    exact PyProof.Rows.canLayAll_ints ns
theorem dpL_of : ∀ (ds : List D) (vs : List V) (xs : List PyData), RepL G w ds vs → toPyL ds = some xs → DpAll G.K w.H vs xs ∧ PyData.canLayAll0 xs = true
  | [], vs, xs, r, e => by simp only [RepL] at r; simp only [toPyL, Option.some.injEq] at e; subst r e; exact ⟨.nil, rfl⟩
  | d :: ds, vs, xs, r, e => by
    simp only [RepL] at r
    obtain ⟨v, r', rfl, h1, h2⟩ := r
    simp only [toPyL] at e
    split at e
    · rename_i x xs' e1 e2
      cases e
      obtain ⟨q1, q2⟩ := dp_of d v x h1 e1
      obtain ⟨q3, q4⟩ := dpL_of ds r' xs' h2 e2
      exact ⟨.cons q1 q3, by simp [PyData.canLayAll0, q2, q4]⟩
    · cases e
end
theorem deref_rep {x : D} {v : V} (sr : SRep G w) (r : Rep G w x v) {y : PyData} (e : toPy (deref x w.S) = some y) : Dp G.K w.H v y ∧ y.canLay0 = true := by
  cases x with
  | obj n =>
    unfold deref at e
    cases hn : w.S[n]? with
    | none => simp [hn, toPy] at e
    | some o =>
      cases o with
      | lst l =>
        simp only [hn] at e
        obtain ⟨a, vs, rfl, h1, h2⟩ := asL_rep (l := l) sr r (by simp [asL, hn])
        simp only [toPy, Option.map_eq_some_iff] at e
        obtain ⟨xs, e1, rfl⟩ := e
        obtain ⟨q1, q2⟩ := dpL_of l vs xs h2 e1
        exact ⟨.lst (SqL.of h1) q1, by simpa [PyData.canLay0] using q2⟩
      | _ => simp [hn, toPy] at e
  | _ => exact dp_of _ v y r e
end
end L3
set_option Elab.async false
set_option linter.all false
set_option maxRecDepth 100000
/-! L3I: ==, in, is, subscripts, isinstance, built-ins. -/
namespace L3
open PySem PySem.Spec PyProof.Rows L2

section
variable {G : GC} {X : Cx}
theorem o_eq (hK : X.K = G.K) (hu : X.A.units + 64 < cLine) : OpR X (compareOp .Eq) (r2 G eqD) := by
  intro pins s σ H x y v u Q I rx ry q
  obtain ⟨w, d1, d2, rfl, sr, r1, r2, p⟩ := q
  unfold eqD at p
  split at p
  · rename_i a b h1 h2
    split at p
    · rename_i hm
      obtain ⟨p1, c1⟩ := deref_rep sr r1 h1
      obtain ⟨p2, c2⟩ := deref_rep sr r2 h2
      rw [← hK] at p1 p2
      obtain ⟨as, q1⟩ := Dp.reads I a x v p1 rx
      obtain ⟨bs, q2⟩ := Dp.reads I b y u p2 ry
      exact SeqAt.compareEq_reads q1 q2 c1 c2 (by omega) ⟨.bl _, w.H, I, rfl, Post.ret (Ra := Rep G) sr (by simp [Rep]) p⟩
    · exact p.elim
  · exact p.elim
theorem o_ne (hK : X.K = G.K) (hu : X.A.units + 64 < cLine) : OpR X (compareOp .NotEq) (r2 G neD) := by
  intro pins s σ H x y v u Q I rx ry q
  obtain ⟨w, d1, d2, rfl, sr, r1, r2, p⟩ := q
  unfold neD at p
  split at p
  · rename_i a b h1 h2
    split at p
    · rename_i hm
      obtain ⟨p1, c1⟩ := deref_rep sr r1 h1
      obtain ⟨p2, c2⟩ := deref_rep sr r2 h2
      rw [← hK] at p1 p2
      obtain ⟨as, q1⟩ := Dp.reads I a x v p1 rx
      obtain ⟨bs, q2⟩ := Dp.reads I b y u p2 ry
      exact SeqAt.compareNe_reads q1 q2 c1 c2 (by omega) ⟨.bl _, w.H, I, rfl, Post.ret (Ra := Rep G) sr (by simp [Rep]) p⟩
    · exact p.elim
  · exact p.elim
/-! is -/
def isD : F2 := fun x y S => match y with
  | .non => match x with
    | .non => .ok (.bl true) S
    | _ => .ok (.bl false) S
  | .bl b => match x with
    | .bl a => .ok (.bl (decide (a = b))) S
    | _ => .bad
  | _ => .bad
def isNotD : F2 := fun x y S => match y with
  | .non => match x with
    | .non => .ok (.bl false) S
    | _ => .ok (.bl true) S
  | .bl b => match x with
    | .bl a => .ok (.bl (!decide (a = b))) S
    | _ => .bad
  | _ => .bad
theorem c_is : Calm2 isD := fun x y S => by unfold isD; repeat' split
                                            all_goals trivial
theorem c_isNot : Calm2 isNotD := fun x y S => by unfold isNotD; repeat' split
                                                  all_goals trivial
/-- only None stands for None -/
theorem Rep.non_iff {w : Wd} {d : D} {v : V} (r : Rep G w d v) (hg : ∀ x u, G.mg x = some u → u ≠ Value.none) : v = .non ↔ d = .non := by
  constructor
  · intro e
    subst e
    cases d with
    | non => rfl
    | glb x =>
      simp only [Rep] at r
      obtain ⟨u, h1, h2⟩ := r
      exact absurd h2 (hg x u h1)
    | bl _ => simp [Rep] at r
    | int _ => simp [Rep] at r
    | str _ => simp [Rep] at r
    | tup _ => simp [Rep] at r
    | lst _ => simp [Rep] at r
    | dic _ _ => simp [Rep] at r
    | obj _ => simp [Rep] at r
    | ty _ => simp [Rep] at r
    | scr _ => simp [Rep] at r
    | kd _ _ => simp [Rep] at r
  · rintro rfl; simpa [Rep] using r

/-! in -/
/-- a written dict's item -/
def kdAt : List Str → List D → Str → Option D
  | k :: ks, d :: ds, z => if z = k then some d else kdAt ks ds z
  | _, _, _ => none
/-- the entry of a dict of keys -/
def keyOf : D → Option Key
  | .int i => some (.inl i)
  | .str s => some (.inr s)
  | _ => none
def dGet {κ : Type} [DecidableEq κ] (kvs : List (κ × D)) (k : κ) : Option D := (kvs.find? fun kv => decide (kv.1 = k)).map (·.2)
def memData (x : Option PyData) (y : Option PyData) : Option Bool := match x, y with
  | some a, some (.list xs) => if a.depth ≤ 64 then some (xs.any fun z => PyData.eqv z a) else none
  | some a, some (.tuple xs) => if a.depth ≤ 64 then some (xs.any fun z => PyData.eqv z a) else none
  | _, _ => none
def memKey (x : D) (kvs : List (Key × D)) : Option Bool := match keyOf x with
  | some k => some (dGet kvs k).isSome
  | none => none
def memStr (x : D) (z : Str) : Option Bool := match x with
  | .str c => if c.cps.size = 1 then some (decide (c.cps.getD 0 0 ∈ z.cps.toList)) else none
  | _ => none
def memKd (x : D) (ks : List Str) (l : List D) : Option Bool := match x with
  | .str z => some (kdAt ks l z).isSome
  | _ => none
def memD (x y : D) (S : Store) : Option Bool := match y with
  | .str z => memStr x z
  | .kd ks l => memKd x ks l
  | .dic ks l => memKey x (ks.zip l)
  | .tup l => memData (toPy x) (toPy (.tup l))
  | .lst l => memData (toPy x) (toPy (.lst l))
  | .obj n => match S[n]? with
    | some (.lst l) => memData (toPy x) (toPy (.lst l))
    | some (.dK kvs) => memKey x kvs
    | _ => none
  | _ => none
def inD : F2 := fun x y S => match memD x y S with
  | some b => .ok (.bl b) S
  | none => .bad
def notInD : F2 := fun x y S => match memD x y S with
  | some b => .ok (.bl (!b)) S
  | none => .bad
theorem c_in : Calm2 inD := fun x y S => by unfold inD; split <;> trivial
theorem c_notIn : Calm2 notInD := fun x y S => by unfold notInD; split <;> trivial
theorem str1 {c : Str} (h : c.cps.size = 1) : c = ⟨#[c.cps.getD 0 0]⟩ := by
  obtain ⟨⟨l⟩⟩ := c
  match l, h with
  | [a], _ => rfl
theorem kdAt_look {w : Wd} : ∀ {ks : List Str} {l : List D} {vs : List V} {us : List Value} (z : Str), ks.length = l.length → Vals vs us → RepL G w l vs →
    (match kdAt ks l z with
      | some d => ∃ v u, (ks.zip us).lookup z = some u ∧ RelV v u ∧ Rep G w d v
      | none => (ks.zip us).lookup z = none)
  | [], [], vs, us, z, _, r, h => by simp [kdAt]
  | k :: ks, d :: ds, vs, us, z, hl, r, h => by
    simp only [RepL] at h
    obtain ⟨v, r', rfl, h1, h2⟩ := h
    cases r with
    | cons ru rr =>
      rename_i u us'
      unfold kdAt
      by_cases e : z = k
      · subst e
        rw [if_pos rfl]
        exact ⟨v, u, by simp [List.lookup], ru, h1⟩
      · rw [if_neg e]
        have := kdAt_look z (by simpa using hl) rr h2
        have e2 : ((k :: ks).zip (u :: us')).lookup z = (ks.zip us').lookup z := by
          simp only [List.zip_cons_cons, List.lookup]
          have : (z == k) = false := by simpa using e
          rw [this]
        rw [e2]
        exact this
theorem dGet_rep {κ : Type} [DecidableEq κ] {w : Wd} : ∀ {kvs : List (κ × D)} {vs : List (κ × V)} (k : κ), RepKV G w kvs vs →
    (match dGet kvs k with
      | some d => ∃ v, valV vs k = some v ∧ Rep G w d v
      | none => valV vs k = none)
  | [], vs, k, h => by
    have : vs = [] := h
    subst this; rfl
  | p :: r, vs, k, h => by
    obtain ⟨v, y, rfl, h1, h2⟩ := h
    have ih := dGet_rep k h2
    by_cases e : p.1 = k
    · have e1 : dGet (p :: r) k = some p.2 := by simp [dGet, List.find?_cons, e]
      rw [e1, L2.valV_pos (p := (p.1, v)) e]
      exact ⟨v, rfl, h1⟩
    · have e1 : dGet (p :: r) k = dGet r k := by simp [dGet, List.find?_cons, e]
      rw [e1, L2.valV_neg (p := (p.1, v)) e]
      exact ih
theorem zip_kv {κ : Type} {w : Wd} : ∀ {ks : List κ} {l : List D} {vs : List V}, ks.length = l.length → RepL G w l vs → RepKV G w (ks.zip l) (ks.zip vs)
  | [], [], vs, _, h => by simp only [RepL] at h; subst h; rfl
  | k :: ks, d :: ds, vs, hl, h => by
    simp only [RepL] at h
    obtain ⟨v, r, rfl, h1, h2⟩ := h
    exact ⟨v, _, rfl, h1, zip_kv (by simpa using hl) h2⟩
theorem keyOf_rep {w : Wd} {d : D} {v : V} {k : Key} (r : Rep G w d v) (e : keyOf d = some k) : v = kV k := by
  cases d with
  | int i => cases e; simp only [Rep] at r; exact r
  | str s => cases e; simp only [Rep] at r; exact r
  | _ => cases e
/-- what a membership's answer rests on -/
theorem mem_ok (hK : X.K = G.K) (hw : X.w = G.w) (hu : X.A.units + 65 < cLine) {neg : Bool} {op : CmpOp} (ho : op = if neg then .NotIn else .In) {pins : List (Addr × Obj)} {s : Shared} {σ : L2.St} {w : Wd} {x y : V} {v u : Value} {Q : VK} {d1 d2 : D} {b : Bool}
    (I : Inv X pins σ w.H s) (rx : RelV x v) (ry : RelV y u) (sr : SRep G w) (r1 : Rep G w d1 x) (r2 : Rep G w d2 y) (e : memD d1 d2 w.S = some b) (q : Q (.bl (if neg then !b else b)) w.H) :
    wpAny (model X.prog X.w) X.A (compareOp op v u) (EP X pins σ Q) X.xe s := by
  have data : ∀ {a : PyData} {xs : List PyData} {isL : Bool}, toPy d1 = some a → toPy (deref d2 w.S) = some (if isL then .list xs else .tuple xs) → a.depth ≤ 64 → b = (xs.any fun z => PyData.eqv z a) →
      wpAny (model X.prog X.w) X.A (compareOp op v u) (EP X pins σ Q) X.xe s := fun {a xs isL} h1 h2 hd hb => by
    obtain ⟨p1, c1⟩ := dp_of d1 x a r1 h1
    obtain ⟨p2, c2⟩ := deref_rep sr r2 h2
    rw [← hK] at p1 p2
    obtain ⟨as, q1⟩ := Dp.reads I a x v p1 rx
    obtain ⟨bs, q2⟩ := Dp.reads I _ y u p2 ry
    have room : X.A.units + 1 + min (PyData.depthAll xs) a.depth < cLine := by omega
    subst hb
    cases isL <;> cases neg <;> simp only [if_true, Bool.false_eq_true, if_false, PyData.canLay0] at q2 c2 ho q <;> subst ho
    · exact SeqAt.in_tuple_reads q2 q1 c2 c1 room ⟨.bl _, w.H, I, rfl, q⟩
    · exact SeqAt.notIn_tuple_reads q2 q1 c2 c1 room ⟨.bl _, w.H, I, rfl, q⟩
    · exact SeqAt.in_list_reads q2 q1 c2 c1 room ⟨.bl _, w.H, I, rfl, q⟩
    · exact SeqAt.notIn_list_reads q2 q1 c2 c1 room ⟨.bl _, w.H, I, rfl, q⟩
  have dK : ∀ {a : Addr} {kvs : List (Key × D)} {vs : List (Key × V)} {k : Key}, y = .ref a → w.H a = some (.dK vs) → RepKV G w kvs vs → keyOf d1 = some k → b = (dGet kvs k).isSome → wpAny (model X.prog X.w) X.A (compareOp op v u) (EP X pins σ Q) X.xe s := fun {a kvs vs k} ey h1 h2 hk hb => by
    subst ey
    cases ry
    have ex := keyOf_rep r1 hk
    subst ex
    have g : DGet w.H a (kV k) (valV vs k) := DGet.k h1
    have eb : (valV vs k).isSome = b := by
      have := dGet_rep k h2
      rw [hb]
      cases hg : dGet kvs k with
      | none => rw [hg] at this; simp only at this; rw [this]; rfl
      | some d => rw [hg] at this; simp only at this; obtain ⟨z, e1, _⟩ := this; rw [e1]; rfl
    cases neg <;> simp only [if_true, Bool.false_eq_true, if_false] at ho q <;> subst ho
    · exact L2.d_in (by omega) I g rx fun s' I' => ⟨.bl _, w.H, I', rfl, by rw [eb]; exact q⟩
    · exact L2.d_notIn (by omega) I g rx fun s' I' => ⟨.bl _, w.H, I', rfl, by rw [eb]; exact q⟩
  have data' : ∀ {l : List D} {isL : Bool}, (if isL then (toPy (.lst l)) else toPy (.tup l)) = toPy (deref d2 w.S) → memData (toPy d1) (if isL then (toPy (.lst l)) else toPy (.tup l)) = some b → wpAny (model X.prog X.w) X.A (compareOp op v u) (EP X pins σ Q) X.xe s := fun {l isL} h e => by
    rw [h] at e
    unfold memData at e
    split at e
    · rename_i a xs h1 h2
      split at e
      · cases e; exact data (isL := true) h1 h2 (by assumption) rfl
      · cases e
    · rename_i a xs h1 h2
      split at e
      · cases e; exact data (isL := false) h1 h2 (by assumption) rfl
      · cases e
    · cases e
  cases d2 with
  | str z =>
    simp only [memD, memStr] at e
    split at e
    · split at e
      · rename_i c hc
        simp only [Rep] at r1 r2
        subst r1 r2
        cases e
        cases neg <;> simp only [if_true, Bool.false_eq_true, if_false] at ho q <;> subst ho
        · exact L2.op_in_sign pins s σ w.H _ _ v u Q I rx ry ⟨_, z, by rw [← str1 hc], rfl, q⟩
        · exact L2.op_notIn_sign pins s σ w.H _ _ v u Q I rx ry ⟨_, z, by rw [← str1 hc], rfl, q⟩
      · cases e
    · cases e
  | kd ks l =>
    simp only [memD, memKd] at e
    split at e
    · rename_i z
      simp only [Rep] at r1 r2
      subst r1
      obtain ⟨a, es, n, vs, us, rfl, kd, hn, hl, rv, rl⟩ := r2
      cases e
      have look := kdAt_look z hl rv rl
      have hb : ((ks.zip us).lookup z).isSome = (kdAt ks l z).isSome := by
        cases hk : kdAt ks l z with
        | none => rw [hk] at look; simp only at look; rw [look]; rfl
        | some d => rw [hk] at look; simp only at look; obtain ⟨_, u', e1, _⟩ := look; rw [e1]; rfl
      rw [← hb] at q
      have kd' : KDict X.K X.w a es n := by rw [hK, hw]; exact kd
      cases neg <;> simp only [if_true, Bool.false_eq_true, if_false] at ho q <;> subst ho
      · exact L2.op_in_kd kd' pins s σ w.H _ _ v u Q I rx ry ⟨z, _, rfl, rfl, by rw [hK]; exact hn z, q⟩
      · exact L2.op_notIn_kd kd' pins s σ w.H _ _ v u Q I rx ry ⟨z, _, rfl, rfl, by rw [hK]; exact hn z, q⟩
    · cases e
  | dic ks l =>
    simp only [memD, memKey] at e
    split at e
    · rename_i k hk
      simp only [Rep] at r2
      obtain ⟨a, vs, rfl, h1, nm, hl, h2⟩ := r2
      cases e
      exact dK rfl h1 (zip_kv hl h2) hk rfl
    · cases e
  | tup l => exact data' (l := l) (isL := false) rfl e
  | lst l => exact data' (l := l) (isL := true) rfl e
  | obj n =>
    simp only [memD] at e
    split at e
    · rename_i l hn
      exact data' (l := l) (isL := true) (by simp [deref, hn]) e
    · rename_i kvs hn
      unfold memKey at e
      split at e
      · rename_i k hk
        cases e
        simp only [Rep] at r2
        obtain ⟨a, hm, rfl⟩ := r2
        obtain ⟨vs, h1, h2⟩ := sr.obj n _ a hn hm
        exact dK rfl h1 h2 hk rfl
      · cases e
    · cases e
  | _ => simp [memD] at e
theorem o_in (hK : X.K = G.K) (hw : X.w = G.w) (hu : X.A.units + 65 < cLine) : OpR X (compareOp .In) (r2 G inD) := by
  intro pins s σ H x y v u Q I rx ry q
  obtain ⟨w, d1, d2, rfl, sr, r1, r2, p⟩ := q
  unfold inD at p
  split at p
  · rename_i b e
    exact mem_ok (neg := false) hK hw hu rfl I rx ry sr r1 r2 e (Post.ret (Ra := Rep G) sr (by simp [Rep]) p)
  · exact p.elim
theorem o_notIn (hK : X.K = G.K) (hw : X.w = G.w) (hu : X.A.units + 65 < cLine) : OpR X (compareOp .NotIn) (r2 G notInD) := by
  intro pins s σ H x y v u Q I rx ry q
  obtain ⟨w, d1, d2, rfl, sr, r1, r2, p⟩ := q
  unfold notInD at p
  split at p
  · rename_i b e
    exact mem_ok (neg := true) hK hw hu rfl I rx ry sr r1 r2 e (Post.ret (Ra := Rep G) sr (by simp [Rep]) p)
  · exact p.elim
end
end L3
set_option Elab.async false
set_option linter.all false
set_option maxRecDepth 100000
/-! L3J: subscripts, isinstance, built-ins, stores. -/
namespace L3
open PySem PySem.Spec PyProof.Rows L2

/-! ### subscripts -/
def ixD : F2 := fun x y S => match x with
  | .tup l => match y with
    | .int i => match atI l i with
      | some d => .ok d S
      | none => .bad
    | _ => .bad
  | .str z => match y with
    | .int i => if z.length ≤ sizeLine then match atI z.cps.toList i with
        | some c => .ok (sgn c) S
        | none => .bad
      else .bad
    | _ => .bad
  | .scr ns => match y with
    | .int i => match atI ns i with
      | some n => .ok (.int n) S
      | none => .bad
    | _ => .bad
  | .kd ks l => match y with
    | .str z => match kdAt ks l z with
      | some d => .ok d S
      | none => .bad
    | _ => .bad
  | .dic ks l => match keyOf y with
    | some k => match dGet (ks.zip l) k with
      | some d => .ok d S
      | none => .bad
    | none => .bad
  | .lst l => match y with
    | .int i => match atI l i with
      | some d => .ok d S
      | none => .bad
    | _ => .bad
  | .obj n => match S[n]? with
    | some (.lst l) => match y with
      | .int i => match atI l i with
        | some d => .ok d S
        | none => .bad
      | _ => .bad
    | some (.dK kvs) => match keyOf y with
      | some k => match dGet kvs k with
        | some d => .ok d S
        | none => .bad
      | none => .bad
    | _ => .bad
  | _ => .bad
section
variable {G : GC} {X : Cx} {w : Wd}
theorem c_ix : Calm2 ixD := fun x y S => by unfold ixD; repeat' split
                                            all_goals trivial
theorem RepL.at {l : List D} {vs : List V} {i : Int} {d : D} (r : RepL G w l vs) (e : atI l i = some d) : ∃ v, atI vs i = some v ∧ Rep G w d v := by
  unfold atI at e ⊢
  rw [r.length]
  cases h : ixN l.length i with
  | none => rw [h] at e; cases e
  | some j =>
    rw [h] at e
    exact r.get e
/-- a list's, a tuple's, a text's, a dict's -/
theorem ix_dk (hu : X.A.units + 1 < cLine) : IxR X (fun x y H Q => ∃ a v, x = .ref a ∧ DGet H a y (some v) ∧ Q v H) := by
  intro value slice pins s σ H x y v u Q I rx ry h hs
  obtain ⟨a, z, rfl, g, q⟩ := h
  cases rx
  exact tail_any (dict_typeIs I g) PySem.F.slot_dict_getitem.lookup (d_getItem hu I g ry fun w' s' I' r' => ⟨z, H, I', r', q⟩) hs
theorem o_ix (hK : X.K = G.K) (hw : X.w = G.w) (hu : X.A.units + 1 < cLine) : IxR X (r2 G ixD) := by
  refine ixI2 ((ix_seq (X := X)).or (ix_kdict.or (ix_dk hu))) fun x y H Q q => ?_
  obtain ⟨w, d1, d2, rfl, sr, r1, r2, p⟩ := q
  have dk : ∀ {a : Addr} {kvs : List (Key × D)} {vs : List (Key × V)} {k : Key} {d : D}, x = .ref a → w.H a = some (.dK vs) → RepKV G w kvs vs → keyOf d2 = some k → dGet kvs k = some d → Post G w (.ok d w.S) (Rep G) Q (fun _ _ _ => False) →
      ∃ a v, x = V.ref a ∧ DGet w.H a y (some v) ∧ Q v w.H := fun {a kvs vs k d} ex h1 h2 hk hd p => by
    have ey := keyOf_rep r2 hk
    have := dGet_rep k h2
    rw [hd] at this
    obtain ⟨v, e1, e2⟩ := this
    exact ⟨a, v, ex, by rw [ey, ← e1]; exact DGet.k h1, Post.ret sr e2 p⟩
  have lst : ∀ {l : List D} {i : Int} {d : D}, asL d1 w.S = some l → atI l i = some d → d2 = .int i → Post G w (.ok d w.S) (Rep G) Q (fun _ _ _ => False) → rIx X.K x y w.H Q := fun {l i d} h1 h2 h3 p' => by
    subst h3
    simp only [Rep] at r2
    obtain ⟨a, vs, rfl, e1, rl⟩ := asL_rep sr r1 h1
    obtain ⟨v, e2, rv⟩ := rl.at h2
    exact .inl ⟨a, vs, i, v, rfl, r2, SqL.of e1, e2, Post.ret sr rv p'⟩
  cases d1 with
  | tup l =>
    simp only [ixD] at p
    split at p
    · rename_i i
      split at p
      · rename_i d hd
        simp only [Rep] at r1 r2
        obtain ⟨a, vs, rfl, h1, rl⟩ := r1
        obtain ⟨v, e2, rv⟩ := rl.at hd
        exact .inl (.inr (.inl ⟨a, vs, i, v, rfl, r2, by rw [hK]; exact SqT_of h1, e2, Post.ret sr rv p⟩))
      · exact p.elim
    · exact p.elim
  | str z =>
    simp only [ixD] at p
    split at p
    · rename_i i
      split at p
      · rename_i hz
        split at p
        · rename_i c hc
          simp only [Rep] at r1 r2
          exact .inl (.inr (.inr ⟨z, i, c, r1, r2, hz, hc, Post.ret (Ra := Rep G) sr (by simp [Rep, sgn]) p⟩))
        · exact p.elim
      · exact p.elim
    · exact p.elim
  | scr ns =>
    simp only [ixD] at p
    split at p
    · rename_i i
      split at p
      · rename_i n hn
        simp only [Rep] at r1 r2
        obtain ⟨a, rfl, h1⟩ := r1
        refine .inl (.inl ⟨a, ns.map V.int, i, .int n, rfl, r2, by rw [hK]; exact h1.imp (fun z => z.1) id, ?_, Post.ret (Ra := Rep G) sr (by simp [Rep]) p⟩)
        unfold atI at hn ⊢
        rw [List.length_map]
        cases h : ixN ns.length i with
        | none => rw [h] at hn; cases hn
        | some j => rw [h] at hn; simp only [Option.bind] at hn ⊢; rw [List.getElem?_map, hn]; rfl
      · exact p.elim
    · exact p.elim
  | kd ks l =>
    simp only [ixD] at p
    split at p
    · rename_i z
      split at p
      · rename_i d hd
        simp only [Rep] at r1 r2
        obtain ⟨a, es, n, vs, us, rfl, kd, hn, hl, rv, rl⟩ := r1
        have look := kdAt_look z hl rv rl
        rw [hd] at look
        obtain ⟨v, u, e1, e2, e3⟩ := look
        refine .inr (.inl ⟨a, z, v, rfl, r2, ⟨es, n, u, by rw [hK]; exact kd.at_, by rw [hw]; exact kd.lit, by rw [hK, hn z, e1], e2⟩, Post.ret sr e3 p⟩)
      · exact p.elim
    · exact p.elim
  | dic ks l =>
    simp only [ixD] at p
    split at p
    · rename_i k hk
      split at p
      · rename_i d hd
        simp only [Rep] at r1
        obtain ⟨a, vs, rfl, h1, nm, hl, h2⟩ := r1
        exact .inr (.inr (dk rfl h1 (zip_kv hl h2) hk hd p))
      · exact p.elim
    · exact p.elim
  | lst l =>
    simp only [ixD] at p
    split at p
    · split at p
      · rename_i d hd
        exact .inl (lst rfl hd rfl p)
      · exact p.elim
    · exact p.elim
  | obj n =>
    simp only [ixD] at p
    split at p
    · rename_i l hn
      split at p
      · split at p
        · rename_i d hd
          exact .inl (lst (by simp [asL, hn]) hd rfl p)
        · exact p.elim
      · exact p.elim
    · rename_i kvs hn
      split at p
      · rename_i k hk
        split at p
        · rename_i d hd
          simp only [Rep] at r1
          obtain ⟨a, hm, rfl⟩ := r1
          obtain ⟨vs, h1, h2⟩ := sr.obj n _ a hn hm
          exact .inr (.inr (dk rfl h1 h2 hk hd p))
        · exact p.elim
      · exact p.elim
    · exact p.elim
  | _ => exact p.elim

/-! ### isinstance -/
def tyD (x : D) (S : Store) : Option String := match x with
  | .non => some "NoneType"
  | .bl _ => some "bool"
  | .int _ => some "int"
  | .str _ => some "str"
  | .tup _ => some "tuple"
  | .lst _ => some "list"
  | .dic _ _ => some "dict"
  | .kd _ _ => some "dict"
  | .obj n => match S[n]? with
    | some (.lst _) => some "list"
    | some (.dK _) => some "dict"
    | some (.dT _) => some "dict"
    | _ => none
  | _ => none
def isiD : FN := fun xs S => match xs with
  | [x, .ty T] => match tyD x S with
    | some t => match kitB t T with
      | some b => .ok (.bl b) S
      | none => .bad
    | none => .bad
  | _ => .bad
theorem c_isi : CalmN isiD := fun xs S => by unfold isiD; repeat' split
                                             all_goals trivial
theorem tyx {x : D} {v : V} {t : String} (sr : SRep G w) (r : Rep G w x v) (e : tyD x w.S = some t) : TyX G.K w.H v (.type t) := by
  cases x with
  | non => simp only [Rep] at r; cases e; subst r; exact .base .non
  | bl b => simp only [Rep] at r; cases e; subst r; exact .base (.bl b)
  | int i => simp only [Rep] at r; cases e; subst r; exact .base (.int i)
  | str s => simp only [Rep] at r; cases e; subst r; exact .base (.str s)
  | tup l =>
    simp only [Rep] at r
    cases e
    obtain ⟨a, vs, rfl, h1, _⟩ := r
    rcases h1 with ⟨h | ⟨o, h⟩, _⟩ | ⟨o, its, n, h, hc, _⟩
    · exact .base (.tup h)
    · exact .fTuple h
    · exact .kTuple h hc
  | lst l =>
    simp only [Rep] at r
    cases e
    obtain ⟨a, vs, rfl, h1, _⟩ := r
    exact .base (.lst h1)
  | dic ks l =>
    simp only [Rep] at r
    cases e
    obtain ⟨a, vs, rfl, h1, _⟩ := r
    exact .base (.dK h1)
  | kd ks l =>
    simp only [Rep] at r
    cases e
    obtain ⟨a, es, n, vs, us, rfl, kd, _⟩ := r
    exact .kDict kd.at_ rfl
  | obj n =>
    simp only [Rep] at r
    obtain ⟨a, hm, rfl⟩ := r
    simp only [tyD] at e
    split at e
    · rename_i l hn
      cases e
      obtain ⟨vs, h1, _⟩ := sr.obj n _ a hn hm
      exact .base (.lst h1)
    · rename_i l hn
      cases e
      obtain ⟨vs, h1, _⟩ := sr.obj n _ a hn hm
      exact .base (.dK h1)
    · rename_i l hn
      cases e
      obtain ⟨vs, h1, _⟩ := sr.obj n _ a hn hm
      exact .base (.dT h1)
    · cases e
  | _ => cases e
theorem o_isi (hK : X.K = G.K) : CallR X (.builtin "isinstance") (rN G isiD) := by
  refine caI2 call_isi fun xs H Q q => ?_
  obtain ⟨w, ds, rfl, sr, rl, p⟩ := q
  unfold isiD at p
  split at p
  · rename_i x T
    split at p
    · rename_i t ht
      split at p
      · rename_i b hb
        simp only [RepL, Rep] at rl
        obtain ⟨v, r', rfl, r1, v2, r'', rfl, rfl, rfl⟩ := rl
        exact ⟨v, .ty T, .type t, .type T, b, rfl, .ty T, by rw [hK]; exact tyx sr r1 ht, kit_ty hb, Post.ret (Ra := Rep G) sr (by simp [Rep]) p⟩
      · exact p.elim
    · exact p.elim
  · exact p.elim

/-! ### len -/
def lenD : FN := fun xs S => match xs with
  | [.tup l] => .ok (.int l.length) S
  | [.str s] => if s.length ≤ sizeLine then .ok (.int s.length) S else .bad
  | [.scr ns] => .ok (.int ns.length) S
  | [x] => match asL x S with
    | some l => .ok (.int l.length) S
    | none => .bad
  | _ => .bad
theorem c_len : CalmN lenD := fun xs S => by unfold lenD; repeat' split
                                             all_goals trivial
theorem o_len (hK : X.K = G.K) : CallR X (.builtin "len") (rN G lenD) := by
  refine caI2 call_len fun xs H Q q => ?_
  obtain ⟨w, ds, rfl, sr, rl, p⟩ := q
  unfold lenD at p
  split at p
  · rename_i l
    simp only [RepL, Rep] at rl
    obtain ⟨v, r', rfl, ⟨a, vs, rfl, h1, r1⟩, rfl⟩ := rl
    exact ⟨.ref a, l.length, rfl, .inr ⟨vs, by rw [hK]; exact SqT_of h1, r1.length.symm⟩, Post.ret (Ra := Rep G) sr (by simp [Rep]) p⟩
  · split at p
    · rename_i s hs
      simp only [RepL, Rep] at rl
      obtain ⟨v, r', rfl, rfl, rfl⟩ := rl
      exact ⟨.str s, s.length, rfl, ⟨hs, rfl⟩, Post.ret (Ra := Rep G) sr (by simp [Rep]) p⟩
    · exact p.elim
  · rename_i ns
    simp only [RepL, Rep] at rl
    obtain ⟨v, r', rfl, ⟨a, rfl, h1⟩, rfl⟩ := rl
    exact ⟨.ref a, ns.length, rfl, .inl ⟨ns.map V.int, by rw [hK]; exact h1.imp (fun z => z.1) id, by simp⟩, Post.ret (Ra := Rep G) sr (by simp [Rep]) p⟩
  · split at p
    · rename_i l hl
      simp only [RepL] at rl
      obtain ⟨v, r', rfl, r1, rfl⟩ := rl
      obtain ⟨a, vs, rfl, h1, r2⟩ := asL_rep sr r1 hl
      exact ⟨.ref a, l.length, rfl, .inl ⟨vs, SqL.of h1, r2.length.symm⟩, Post.ret (Ra := Rep G) sr (by simp [Rep]) p⟩
    · exact p.elim
  · exact p.elim

/-! ### all, any, sum, min, max, abs, int, tuple, list -/
def allBls : List D → Option (List Bool)
  | [] => some []
  | .bl b :: r => (allBls r).map (b :: ·)
  | _ => none
def allInts : List D → Option (List Int)
  | [] => some []
  | .int b :: r => (allInts r).map (b :: ·)
  | _ => none
theorem allBls_rep : ∀ {l : List D} {vs : List V} {bs : List Bool}, RepL G w l vs → allBls l = some bs → vs = bs.map V.bl
  | [], vs, bs, r, e => by simp only [RepL] at r; cases e; exact r
  | d :: ds, vs, bs, r, e => by
    simp only [RepL] at r
    obtain ⟨v, r', rfl, h1, h2⟩ := r
    cases d with
    | bl b =>
      simp only [allBls, Option.map_eq_some_iff] at e
      obtain ⟨bs', e1, rfl⟩ := e
      simp only [Rep] at h1
      rw [h1, allBls_rep h2 e1]
      rfl
    | _ => simp [allBls] at e
theorem allInts_rep : ∀ {l : List D} {vs : List V} {bs : List Int}, RepL G w l vs → allInts l = some bs → vs = bs.map V.int
  | [], vs, bs, r, e => by simp only [RepL] at r; cases e; exact r
  | d :: ds, vs, bs, r, e => by
    simp only [RepL] at r
    obtain ⟨v, r', rfl, h1, h2⟩ := r
    cases d with
    | int b =>
      simp only [allInts, Option.map_eq_some_iff] at e
      obtain ⟨bs', e1, rfl⟩ := e
      simp only [Rep] at h1
      rw [h1, allInts_rep h2 e1]
      rfl
    | _ => simp [allInts] at e
def allD : FN := fun xs S => match xs with
  | [x] => match (asL x S).bind allBls with
    | some bs => .ok (.bl (bs.all id)) S
    | none => .bad
  | _ => .bad
def anyD : FN := fun xs S => match xs with
  | [x] => match (asL x S).bind allBls with
    | some bs => .ok (.bl (bs.any id)) S
    | none => .bad
  | _ => .bad
def sumD : FN := fun xs S => match xs with
  | [x] => match (asL x S).bind allInts with
    | some bs => .ok (.int bs.sum) S
    | none => .bad
  | _ => .bad
theorem c_all : CalmN allD := fun xs S => by unfold allD; repeat' split
                                             all_goals trivial
theorem c_any : CalmN anyD := fun xs S => by unfold anyD; repeat' split
                                             all_goals trivial
theorem c_sum : CalmN sumD := fun xs S => by unfold sumD; repeat' split
                                             all_goals trivial
theorem asL_allBls {x : D} {v : V} {bs : List Bool} (sr : SRep G w) (r : Rep G w x v) (e : (asL x w.S).bind allBls = some bs) : ∃ a, v = .ref a ∧ w.H a = some (.lst (bs.map V.bl)) := by
  cases h : asL x w.S with
  | none => rw [h] at e; cases e
  | some l =>
    rw [h] at e
    obtain ⟨a, vs, rfl, h1, h2⟩ := asL_rep sr r h
    exact ⟨a, rfl, by rw [h1, allBls_rep h2 e]⟩
theorem asL_allInts {x : D} {v : V} {bs : List Int} (sr : SRep G w) (r : Rep G w x v) (e : (asL x w.S).bind allInts = some bs) : ∃ a, v = .ref a ∧ w.H a = some (.lst (bs.map V.int)) := by
  cases h : asL x w.S with
  | none => rw [h] at e; cases e
  | some l =>
    rw [h] at e
    obtain ⟨a, vs, rfl, h1, h2⟩ := asL_rep sr r h
    exact ⟨a, rfl, by rw [h1, allInts_rep h2 e]⟩
theorem o_all (hc : X.calm = true) : CallR X (.builtin "all") (rN G allD) := by
  refine caI2 (cr_all hc) fun xs H Q q => ?_
  obtain ⟨w, ds, rfl, sr, rl, p⟩ := q
  unfold allD at p
  split at p
  · split at p
    · rename_i bs hb
      simp only [RepL] at rl
      obtain ⟨v, r', rfl, r1, rfl⟩ := rl
      obtain ⟨a, rfl, h⟩ := asL_allBls sr r1 hb
      exact ⟨a, bs, rfl, SqL.of h, Post.ret (Ra := Rep G) sr (by simp [Rep]) p⟩
    · exact p.elim
  · exact p.elim
theorem o_any (hc : X.calm = true) : CallR X (.builtin "any") (rN G anyD) := by
  refine caI2 (cr_any hc) fun xs H Q q => ?_
  obtain ⟨w, ds, rfl, sr, rl, p⟩ := q
  unfold anyD at p
  split at p
  · split at p
    · rename_i bs hb
      simp only [RepL] at rl
      obtain ⟨v, r', rfl, r1, rfl⟩ := rl
      obtain ⟨a, rfl, h⟩ := asL_allBls sr r1 hb
      exact ⟨a, bs, rfl, SqL.of h, Post.ret (Ra := Rep G) sr (by simp [Rep]) p⟩
    · exact p.elim
  · exact p.elim
theorem o_sum (hc : X.calm = true) : CallR X (.builtin "sum") (rN G sumD) := by
  refine caI2 (cr_sum hc) fun xs H Q q => ?_
  obtain ⟨w, ds, rfl, sr, rl, p⟩ := q
  unfold sumD at p
  split at p
  · split at p
    · rename_i bs hb
      simp only [RepL] at rl
      obtain ⟨v, r', rfl, r1, rfl⟩ := rl
      obtain ⟨a, rfl, h⟩ := asL_allInts sr r1 hb
      exact ⟨a, bs, rfl, SqL.of h, Post.ret (Ra := Rep G) sr (by simp [Rep]) p⟩
    · exact p.elim
  · exact p.elim
def maxI : List Int → Option Int
  | [] => none
  | n :: ns => some (ns.foldl (fun m x => if x > m then x else m) n)
def minI : List Int → Option Int
  | [] => none
  | n :: ns => some (ns.foldl (fun m x => if x < m then x else m) n)
theorem fold_max : ∀ (ns : List Int) (n : Int), (ns.foldl (fun m x => if x > m then x else m) n = n ∨ ns.foldl (fun m x => if x > m then x else m) n ∈ ns) ∧ n ≤ ns.foldl (fun m x => if x > m then x else m) n ∧ ∀ y ∈ ns, y ≤ ns.foldl (fun m x => if x > m then x else m) n
  | [], n => ⟨.inl rfl, Int.le_refl _, fun y h => by simp at h⟩
  | a :: ns, n => by
    obtain ⟨m, hm⟩ : ∃ m, m = if a > n then a else n := ⟨_, rfl⟩
    have hm' : (n ≤ m ∧ a ≤ m) ∧ (m = a ∨ m = n) := by rw [hm]; split <;> omega
    simp only [List.foldl_cons]
    rw [← hm]
    obtain ⟨h1, h2, h3⟩ := fold_max ns m
    refine ⟨?_, by omega, fun y hy => ?_⟩
    · rcases h1 with h1 | h1
      · rw [h1]
        rcases hm'.2 with e | e
        · exact .inr (by simp [e])
        · exact .inl e
      · exact .inr (by simp [h1])
    · rcases List.mem_cons.mp hy with e | hy
      · subst e; omega
      · exact h3 y hy
theorem fold_min : ∀ (ns : List Int) (n : Int), (ns.foldl (fun m x => if x < m then x else m) n = n ∨ ns.foldl (fun m x => if x < m then x else m) n ∈ ns) ∧ ns.foldl (fun m x => if x < m then x else m) n ≤ n ∧ ∀ y ∈ ns, ns.foldl (fun m x => if x < m then x else m) n ≤ y
  | [], n => ⟨.inl rfl, Int.le_refl _, fun y h => by simp at h⟩
  | a :: ns, n => by
    obtain ⟨m, hm⟩ : ∃ m, m = if a < n then a else n := ⟨_, rfl⟩
    have hm' : (m ≤ n ∧ m ≤ a) ∧ (m = a ∨ m = n) := by rw [hm]; split <;> omega
    simp only [List.foldl_cons]
    rw [← hm]
    obtain ⟨h1, h2, h3⟩ := fold_min ns m
    refine ⟨?_, by omega, fun y hy => ?_⟩
    · rcases h1 with h1 | h1
      · rw [h1]
        rcases hm'.2 with e | e
        · exact .inr (by simp [e])
        · exact .inl e
      · exact .inr (by simp [h1])
    · rcases List.mem_cons.mp hy with e | hy
      · subst e; omega
      · exact h3 y hy
theorem maxI_eq {ns : List Int} {m k : Int} (h : maxI ns = some k) (h1 : m ∈ ns) (h2 : ∀ y ∈ ns, y ≤ m) : m = k := by
  cases ns with
  | nil => cases h
  | cons n ns =>
    cases h
    obtain ⟨a1, a2, a3⟩ := fold_max ns n
    have le1 : ns.foldl (fun m x => if x > m then x else m) n ≤ m := by
      rcases a1 with e | e
      · rw [e]; exact h2 n (by simp)
      · exact h2 _ (by simp [e])
    have le2 : m ≤ ns.foldl (fun m x => if x > m then x else m) n := by
      rcases List.mem_cons.mp h1 with e | e
      · rw [e]; exact a2
      · exact a3 m e
    omega
theorem minI_eq {ns : List Int} {m k : Int} (h : minI ns = some k) (h1 : m ∈ ns) (h2 : ∀ y ∈ ns, m ≤ y) : m = k := by
  cases ns with
  | nil => cases h
  | cons n ns =>
    cases h
    obtain ⟨a1, a2, a3⟩ := fold_min ns n
    have le1 : m ≤ ns.foldl (fun m x => if x < m then x else m) n := by
      rcases a1 with e | e
      · rw [e]; exact h2 n (by simp)
      · exact h2 _ (by simp [e])
    have le2 : ns.foldl (fun m x => if x < m then x else m) n ≤ m := by
      rcases List.mem_cons.mp h1 with e | e
      · rw [e]; exact a2
      · exact a3 m e
    omega
def maxD : FN := fun xs S => match xs with
  | [.int i, .int j] => .ok (.int (if j > i then j else i)) S
  | [x] => match ((asL x S).bind allInts).bind maxI with
    | some m => .ok (.int m) S
    | none => .bad
  | _ => .bad
def minD : FN := fun xs S => match xs with
  | [.int i, .int j] => .ok (.int (if j < i then j else i)) S
  | [x] => match ((asL x S).bind allInts).bind minI with
    | some m => .ok (.int m) S
    | none => .bad
  | _ => .bad
theorem c_max : CalmN maxD := fun xs S => by unfold maxD; repeat' split
                                             all_goals trivial
theorem c_min : CalmN minD := fun xs S => by unfold minD; repeat' split
                                             all_goals trivial
theorem o_max (hc : X.calm = true) : CallR X (.builtin "max") (rN G maxD) := by
  refine caI2 ((call_max2 hc).or (cr_max hc)) fun xs H Q q => ?_
  obtain ⟨w, ds, rfl, sr, rl, p⟩ := q
  unfold maxD at p
  split at p
  · simp only [RepL, Rep] at rl
    obtain ⟨v, r', rfl, rfl, v2, r'', rfl, rfl, rfl⟩ := rl
    exact .inl ⟨_, _, rfl, Post.ret (Ra := Rep G) sr (by simp [Rep]) p⟩
  · split at p
    · rename_i m hm
      simp only [RepL] at rl
      obtain ⟨v, r', rfl, r1, rfl⟩ := rl
      cases h : (asL _ w.S).bind allInts with
      | none => rw [h] at hm; cases hm
      | some ns =>
        rw [h] at hm
        obtain ⟨a, rfl, ha⟩ := asL_allInts sr r1 h
        refine .inr ⟨a, ns, rfl, SqL.of ha, ?_, fun k hk hle => ?_⟩
        · cases ns with
          | nil => cases hm
          | cons _ _ => simp
        · rw [maxI_eq hm hk hle]
          exact Post.ret (Ra := Rep G) sr (by simp [Rep]) p
    · exact p.elim
  · exact p.elim
theorem o_min (hc : X.calm = true) : CallR X (.builtin "min") (rN G minD) := by
  refine caI2 ((call_min2 hc).or (cr_min hc)) fun xs H Q q => ?_
  obtain ⟨w, ds, rfl, sr, rl, p⟩ := q
  unfold minD at p
  split at p
  · simp only [RepL, Rep] at rl
    obtain ⟨v, r', rfl, rfl, v2, r'', rfl, rfl, rfl⟩ := rl
    exact .inl ⟨_, _, rfl, Post.ret (Ra := Rep G) sr (by simp [Rep]) p⟩
  · split at p
    · rename_i m hm
      simp only [RepL] at rl
      obtain ⟨v, r', rfl, r1, rfl⟩ := rl
      cases h : (asL _ w.S).bind allInts with
      | none => rw [h] at hm; cases hm
      | some ns =>
        rw [h] at hm
        obtain ⟨a, rfl, ha⟩ := asL_allInts sr r1 h
        refine .inr ⟨a, ns, rfl, SqL.of ha, ?_, fun k hk hle => ?_⟩
        · cases ns with
          | nil => cases hm
          | cons _ _ => simp
        · rw [minI_eq hm hk hle]
          exact Post.ret (Ra := Rep G) sr (by simp [Rep]) p
    · exact p.elim
  · exact p.elim
def absD : FN := fun xs S => match xs with
  | [.int i] => .ok (.int (if i < 0 then -i else i)) S
  | _ => .bad
def intD : FN := fun xs S => match xs with
  | [.int i] => .ok (.int i) S
  | [.bl k] => .ok (.int (if k then 1 else 0)) S
  | _ => .bad
theorem c_abs : CalmN absD := fun xs S => by unfold absD; repeat' split
                                             all_goals trivial
theorem c_int : CalmN intD := fun xs S => by unfold intD; repeat' split
                                             all_goals trivial
theorem o_abs : CallR X (.builtin "abs") (rN G absD) := by
  refine caI2 call_abs fun xs H Q q => ?_
  obtain ⟨w, ds, rfl, sr, rl, p⟩ := q
  unfold absD at p
  split at p
  · simp only [RepL, Rep] at rl
    obtain ⟨v, r', rfl, rfl, rfl⟩ := rl
    exact ⟨_, rfl, Post.ret (Ra := Rep G) sr (by simp [Rep]) p⟩
  · exact p.elim
theorem o_int : CallR X (.type "int") (rN G intD) := by
  refine caI2 call_int1 fun xs H Q q => ?_
  obtain ⟨w, ds, rfl, sr, rl, p⟩ := q
  unfold intD at p
  split at p
  · simp only [RepL, Rep] at rl
    obtain ⟨v, r', rfl, rfl, rfl⟩ := rl
    exact .inl ⟨_, rfl, Post.ret (Ra := Rep G) sr (by simp [Rep]) p⟩
  · simp only [RepL, Rep] at rl
    obtain ⟨v, r', rfl, rfl, rfl⟩ := rl
    exact .inr ⟨_, rfl, Post.ret (Ra := Rep G) sr (by simp [Rep]) p⟩
  · exact p.elim
def tupleD : FN := fun xs S => match xs with
  | [.tup l] => .ok (.tup l) S
  | [x] => match asL x S with
    | some l => .ok (.tup l) S
    | none => .bad
  | _ => .bad
def listD : FN := fun xs S => match xs with
  | [.tup l] => .ok (.lst l) S
  | [.scr ns] => .ok (.lst (ns.map .int)) S
  | [x] => match asL x S with
    | some l => .ok (.lst l) S
    | none => .bad
  | _ => .bad
theorem c_tuple : CalmN tupleD := fun xs S => by unfold tupleD; repeat' split
                                                 all_goals trivial
theorem c_list : CalmN listD := fun xs S => by unfold listD; repeat' split
                                               all_goals trivial
theorem o_tuple (hK : X.K = G.K) : CallR X (.type "tuple") (rN G tupleD) := by
  refine caI2 call_tuple_of fun xs H Q q => ?_
  obtain ⟨w, ds, rfl, sr, rl, p⟩ := q
  unfold tupleD at p
  split at p
  · simp only [RepL] at rl
    obtain ⟨v, r', rfl, r1, rfl⟩ := rl
    have r1' := r1
    simp only [Rep] at r1
    obtain ⟨a, vs, rfl, h1, r2⟩ := r1
    exact ⟨a, vs, rfl, .inr ⟨by rw [hK]; exact SqT_of h1, Post.ret (Ra := Rep G) sr r1' p⟩⟩
  · split at p
    · rename_i l hl
      simp only [RepL] at rl
      obtain ⟨v, r', rfl, r1, rfl⟩ := rl
      obtain ⟨a, vs, rfl, h1, r2⟩ := asL_rep sr r1 hl
      exact ⟨a, vs, rfl, .inl ⟨SqL.of h1, fun p' hp' => new_tup sr r2 p p' hp'⟩⟩
    · exact p.elim
  · exact p.elim
theorem o_list (hK : X.K = G.K) : CallR X (.type "list") (rN G listD) := by
  refine caI2 call_list_of fun xs H Q q => ?_
  obtain ⟨w, ds, rfl, sr, rl, p⟩ := q
  unfold listD at p
  split at p
  · simp only [RepL, Rep] at rl
    obtain ⟨v, r', rfl, ⟨a, vs, rfl, h1, r2⟩, rfl⟩ := rl
    exact ⟨a, vs, rfl, .inr (by rw [hK]; exact SqT_of h1), fun p' hp' => new_lst (S := w.S) sr r2 p p' hp'⟩
  · simp only [RepL, Rep] at rl
    obtain ⟨v, r', rfl, ⟨a, rfl, h1⟩, rfl⟩ := rl
    exact ⟨a, _, rfl, .inl (by rw [hK]; exact h1.imp (fun z => z.1) id), fun p' hp' => new_lst (S := w.S) sr (RepL_ints.mpr rfl) p p' hp'⟩
  · split at p
    · rename_i l hl
      simp only [RepL] at rl
      obtain ⟨v, r', rfl, r1, rfl⟩ := rl
      obtain ⟨a, vs, rfl, h1, r2⟩ := asL_rep sr r1 hl
      exact ⟨a, vs, rfl, .inl (SqL.of h1), fun p' hp' => new_lst (S := w.S) sr r2 p p' hp'⟩
    · exact p.elim
  · exact p.elim
end
end L3
set_option Elab.async false
set_option linter.all false
set_option maxRecDepth 100000
/-! L3K: displays, and | or | not as values, chains, methods, stores, targets. -/
namespace L3
open PySem PySem.Spec PyProof.Rows L2

section
variable {G : GC} {X : Cx} {Wx : WX} {pos : Pos} {w : Wd}
theorem c_mkTup : CalmN mkTup := fun xs S => by unfold mkTup; split <;> trivial
theorem c_mkLst : CalmN mkLst := fun xs S => by unfold mkLst; split <;> trivial
theorem q_tup {es : List Expr} {x1} {m : AD} (h : PA X es (tA G m Wx)) : PE X (.Tuple es x1 pos) (tE G (eN mkTup m) Wx) := peI (pe_tup h) fun σ H Q q => by
  obtain ⟨w, env, rfl, sr, er, p⟩ := q
  refine ⟨w, env, rfl, sr, er, (Post.bind (Ra := RepL G) p).mono (fun x H1 m => ?_) fun _ _ _ h => h⟩
  obtain ⟨w1, d1, rfl, x1, s1, rp1, p1⟩ := m
  unfold mkTup at p1
  split at p1
  · exact ⟨by rw [rp1.length]; assumption, fun p' hp' => new_tup s1 rp1 p1 p' hp'⟩
  · exact p1.elim
theorem q_lst {es : List Expr} {m : AD} (h : PA X es (tA G m Wx)) : PE X (.List es pos) (tE G (eN mkLst m) Wx) := peI (pe_lst h) fun σ H Q q => by
  obtain ⟨w, env, rfl, sr, er, p⟩ := q
  refine ⟨w, env, rfl, sr, er, (Post.bind (Ra := RepL G) p).mono (fun x H1 m => ?_) fun _ _ _ h => h⟩
  obtain ⟨w1, d1, rfl, x1, s1, rp1, p1⟩ := m
  unfold mkLst at p1
  split at p1
  · exact ⟨by rw [rp1.length]; assumption, fun p' hp' => new_lst (S := w1.S) s1 rp1 p1 p' hp'⟩
  · exact p1.elim
theorem q_obj {es : List Expr} {m : AD} (h : PA X es (tA G m Wx)) : PE X (.List es pos) (tE G (eN mkObj m) Wx) := peI (pe_lst h) fun σ H Q q => by
  obtain ⟨w, env, rfl, sr, er, p⟩ := q
  refine ⟨w, env, rfl, sr, er, (Post.bind (Ra := RepL G) p).mono (fun x H1 m => ?_) fun _ _ _ h => h⟩
  obtain ⟨w1, d1, rfl, x1, s1, rp1, p1⟩ := m
  unfold mkObj at p1
  split at p1
  · exact ⟨by rw [rp1.length]; assumption, fun p' hp' => new_lobj s1 rp1 p1 p' hp'⟩
  · exact p1.elim
theorem q_ifExp {c a b : Expr} {mc : TD} {ma mb : ED} (hc : PT X c (tT G mc Wx)) (ha : PE X a (tE G ma Wx)) (hb : PE X b (tE G mb Wx)) : PE X (.IfExp c a b pos) (tE G (eIf mc ma mb) Wx) := peI (pe_ifExp hc ha hb) fun σ H Q q => by
  obtain ⟨w, env, rfl, sr, er, p⟩ := q
  refine ⟨w, env, rfl, sr, er, (Post.bind (Ra := fun _ (a b : Bool) => a = b) p).mono (fun x H1 m => ?_) fun _ _ _ h => h⟩
  obtain ⟨w1, d1, rfl, x1, s1, rp1, p1⟩ := m
  subst rp1
  cases d1 with
  | true => exact iteT ⟨w1, env, rfl, s1, er.mono x1, p1⟩
  | false => exact iteF ⟨w1, env, rfl, s1, er.mono x1, p1⟩
/-- the same truth by its value -/
theorem tOfE_post {a : ED} {β : Type} {env : EnvD} {f : Bool → Store → R D} {Q : VK} {E : Value → Option Addr → Hp → Prop} (p : Post G w ((tOfE a env w.S).bind f) (Rep G) Q E) :
    Post G w (a env w.S) (Rep G) (Mid G w (Rep G) fun w1 d => ∃ k, d = .bl k ∧ Post G w1 (f k w1.S) (Rep G) Q E) E := by
  unfold tOfE at p
  rw [R.bind_assoc] at p
  refine (Post.bind (Ra := Rep G) p).mono (fun x H1 m => ?_) fun _ _ _ h => h
  obtain ⟨w1, d1, rfl, x1, s1, rp1, p1⟩ := m
  refine ⟨w1, d1, rfl, x1, s1, rp1, ?_⟩
  cases d1 with
  | bl k => exact ⟨k, rfl, p1⟩
  | _ => exact p1.elim
theorem q_eone {op} {a : Expr} {m : ED} (h : PE X a (tE G m Wx)) : PE X (.BoolOp op [a] pos) (tE G m Wx) := pe_one h
theorem q_eand {a b : Expr} {rest : List Expr} {ma mb : ED} (ha : PE X a (tE G ma Wx)) (hb : PE X (.BoolOp .And (b :: rest) pos) (tE G mb Wx)) : PE X (.BoolOp .And (a :: b :: rest) pos) (tE G (eAnd ma mb) Wx) := peI (pe_and ha hb) fun σ H Q q => by
  obtain ⟨w, env, rfl, sr, er, p⟩ := q
  refine ⟨w, env, rfl, sr, er, (tOfE_post (β := D) p).mono (fun x H1 m => ?_) fun _ _ _ h => h⟩
  obtain ⟨w1, d1, rfl, x1, s1, rp1, k, rfl, p1⟩ := m
  simp only [Rep] at rp1
  refine ⟨k, rp1, ?_⟩
  cases k with
  | true => exact iteT ⟨w1, env, rfl, s1, er.mono x1, p1⟩
  | false => exact iteF (Post.ret (Ra := Rep G) s1 (by simp [Rep]) p1)
theorem q_eor {a b : Expr} {rest : List Expr} {ma mb : ED} (ha : PE X a (tE G ma Wx)) (hb : PE X (.BoolOp .Or (b :: rest) pos) (tE G mb Wx)) : PE X (.BoolOp .Or (a :: b :: rest) pos) (tE G (eOr ma mb) Wx) := peI (pe_or ha hb) fun σ H Q q => by
  obtain ⟨w, env, rfl, sr, er, p⟩ := q
  refine ⟨w, env, rfl, sr, er, (tOfE_post (β := D) p).mono (fun x H1 m => ?_) fun _ _ _ h => h⟩
  obtain ⟨w1, d1, rfl, x1, s1, rp1, k, rfl, p1⟩ := m
  simp only [Rep] at rp1
  refine ⟨k, rp1, ?_⟩
  cases k with
  | true => exact iteT (Post.ret (Ra := Rep G) s1 (by simp [Rep]) p1)
  | false => exact iteF ⟨w1, env, rfl, s1, er.mono x1, p1⟩
theorem q_enot {a : Expr} {ma : ED} (ha : PE X a (tE G ma Wx)) : PE X (.UnaryOp .Not a pos) (tE G (eNot ma) Wx) := peI (pe_not ha) fun σ H Q q => by
  obtain ⟨w, env, rfl, sr, er, p⟩ := q
  refine ⟨w, env, rfl, sr, er, (tOfE_post (β := D) p).mono (fun x H1 m => ?_) fun _ _ _ h => h⟩
  obtain ⟨w1, d1, rfl, x1, s1, rp1, k, rfl, p1⟩ := m
  simp only [Rep] at rp1
  exact ⟨k, rp1, Post.ret (Ra := Rep G) s1 (by simp [Rep]) p1⟩
theorem imp_chain {f g : F2} {a b c : ED} (cf : Calm2 f) (cg : Calm2 g) : ∀ σ H Q, tE G (eChain f g a b c) Wx σ H Q → tChain (r2 G f) (r2 G g) (tE G a Wx) (tE G b Wx) (tE G c Wx) σ H Q := by
  intro σ H Q q
  obtain ⟨w, env, rfl, sr, er, p⟩ := q
  refine ⟨w, env, rfl, sr, er, (Post.bind (Ra := Rep G) p).mono (fun x H1 m => ?_) fun _ _ _ h => h⟩
  obtain ⟨w1, d1, rfl, x1, s1, rp1, p1⟩ := m
  refine ⟨w1, env, rfl, s1, er.mono x1, (Post.bind (Ra := Rep G) p1).mono (fun y H2 m => ?_) fun _ _ _ h => h⟩
  obtain ⟨w2, d2, rfl, x2, s2, rp2, p2⟩ := m
  refine ⟨w2, d1, d2, rfl, s2, Rep.mono x2 _ _ rp1, rp2, ((Post.bind (Ra := Rep G) p2).mono (fun z H3 m => ?_) fun _ _ _ h => h).calm (cf _ _ _)⟩
  obtain ⟨w3, d3, rfl, x3, s3, rp3, p3⟩ := m
  cases d3 with
  | bl k =>
    simp only [Rep] at rp3
    refine ⟨k, rp3, ?_⟩
    cases k with
    | false => exact iteF (Post.ret (Ra := Rep G) s3 (by simp [Rep]) p3)
    | true =>
      refine iteT ⟨w3, env, rfl, s3, ((er.mono x1).mono x2).mono x3, (Post.bind (Ra := Rep G) p3).mono (fun z H4 m => ?_) fun _ _ _ h => h⟩
      obtain ⟨w4, d4, rfl, x4, s4, rp4, p4⟩ := m
      exact ⟨w4, d2, d4, rfl, s4, Rep.mono (WX'.trans x3 x4) _ _ rp2, rp4, p4.calm (cg _ _ _)⟩
  | _ => exact p3.elim
theorem q_chain {op op' : CmpOp} {f g : F2} {a b c : Expr} {ma mb mc : ED} (ho : OpR X (compareOp op) (r2 G f)) (cf : Calm2 f) (ho' : OpR X (compareOp op') (r2 G g)) (cg : Calm2 g) (ha : PE X a (tE G ma Wx)) (hb : PE X b (tE G mb Wx)) (hc : PE X c (tE G mc Wx))
    (hm : lastMarks [op, op'] [b, c] = false := by with_unfolding_all rfl) : PE X (.Compare a [op, op'] [b, c] pos) (tE G (eChain f g ma mb mc) Wx) := peI (pe_chain ho ho' ha hb hc hm) (imp_chain cf cg)
theorem q_tchain {op op' : CmpOp} {f g : F2} {a b c : Expr} {ma mb mc : ED} (ho : OpR X (compareOp op) (r2 G f)) (cf : Calm2 f) (ho' : OpR X (compareOp op') (r2 G g)) (cg : Calm2 g) (ha : PE X a (tE G ma Wx)) (hb : PE X b (tE G mb Wx)) (hc : PE X c (tE G mc Wx))
    (hm : lastMarks [op, op'] [b, c] = false := by with_unfolding_all rfl) : PT X (.Compare a [op, op'] [b, c] pos) (tT G (tOfE (eChain f g ma mb mc)) Wx) := ptI (pt_chain ho ho' ha hb hc hm) fun σ H Q q => by
  obtain ⟨w, env, rfl, sr, er, p⟩ := q
  refine imp_chain cf cg σ w.H _ ⟨w, env, rfl, sr, er, (Post.bind (Ra := Rep G) p).mono (fun x H1 m => ?_) fun _ _ _ h => h⟩
  obtain ⟨w1, d1, rfl, x1, s1, rp1, p1⟩ := m
  cases d1 with
  | bl k =>
    simp only [Rep] at rp1
    exact ⟨k, rp1, Post.ret (Ra := fun _ (a b : Bool) => a = b) s1 rfl p1⟩
  | _ => exact p1.elim
/-- a comparison as a test -/
theorem q_tcmp {op : CmpOp} {f : F2} {a b : Expr} {ma mb : ED} (ho : OpR X (compareOp op) (r2 G f)) (c : Calm2 f) (ha : PE X a (tE G ma Wx)) (hb : PE X b (tE G mb Wx)) (hm : behindInMarks op b = false) : PT X (.Compare a [op] [b] pos) (tT G (tOfE (e2 f ma mb)) Wx) :=
  ptI (pt_cmpR ho ha hb hm) fun σ H Q q => by
    obtain ⟨w, env, rfl, sr, er, p⟩ := q
    refine imp_e2 c σ w.H _ ⟨w, env, rfl, sr, er, (Post.bind (Ra := Rep G) p).mono (fun x H1 m => ?_) fun _ _ _ h => h⟩
    obtain ⟨w1, d1, rfl, x1, s1, rp1, p1⟩ := m
    cases d1 with
    | bl k =>
      simp only [Rep] at rp1
      exact ⟨k, rp1, Post.ret (Ra := fun _ (a b : Bool) => a = b) s1 rfl p1⟩
    | _ => exact p1.elim
theorem q_truth {e : Expr} {m : ED} (hK : X.K = G.K) (h : PE X e (tE G m Wx)) (he : ∀ whole, isTrue e X.env whole = (do let v ← whole; standAt e.pos; holding [v] (truthy v)) := by intro _; rfl) : PT X e (tT G (tTruth m) Wx) := ptI (pt_truth h he) fun σ H Q q => by
  obtain ⟨w, env, rfl, sr, er, p⟩ := q
  refine ⟨w, env, rfl, sr, er, (Post.bind (Ra := Rep G) p).mono (fun x H1 m => ?_) fun _ _ _ h => h⟩
  obtain ⟨w1, d1, rfl, x1, s1, rp1, p1⟩ := m
  have fin : ∀ {k : Bool}, Post G w1 (.ok k w1.S) (fun _ (a b : Bool) => a = b) Q (fun C dx H' => Wx C dx σ H') → Q k w1.H := fun {k} p => Post.ret (Ra := fun _ (a b : Bool) => a = b) s1 rfl p
  have emp : ∀ {l : List D} {vs : List V}, RepL G w1 l vs → (!l.isEmpty) = !vs.isEmpty := fun {l vs} r => by
    have := r.length
    cases l <;> cases vs <;> simp_all
  cases d1 with
  | non => simp only [Rep] at rp1; subst rp1; exact ⟨false, rfl, fin p1⟩
  | bl b => simp only [Rep] at rp1; subst rp1; exact ⟨b, rfl, fin p1⟩
  | int i => simp only [Rep] at rp1; subst rp1; exact ⟨_, rfl, fin p1⟩
  | str s =>
    simp only [Rep] at rp1; subst rp1
    simp only [truthD] at p1
    split at p1
    · rename_i hz
      refine ⟨s.length != 0, ⟨hz, ?_⟩, fin p1⟩
      cases s.length <;> rfl
    · exact p1.elim
  | tup l =>
    simp only [Rep] at rp1
    obtain ⟨a, vs, rfl, h1, r1⟩ := rp1
    exact ⟨_, .inr (.inl ⟨vs, by rw [hK]; exact SqT_of h1, emp r1⟩), fin p1⟩
  | lst l =>
    simp only [Rep] at rp1
    obtain ⟨a, vs, rfl, h1, _, r1⟩ := rp1
    exact ⟨_, .inl ⟨vs, SqL.of h1, emp r1⟩, fin p1⟩
  | obj n =>
    simp only [truthD] at p1
    split at p1
    · rename_i l hn
      obtain ⟨a, vs, rfl, h1, r1⟩ := asL_rep (l := l) s1 rp1 (by simp [asL, hn])
      exact ⟨_, .inl ⟨vs, SqL.of h1, emp r1⟩, fin p1⟩
    · exact p1.elim
  | _ => exact p1.elim

/-! ### methods of built-in types -/
/-- a receiver's type -/
def mtD (x : D) (S : Store) : Option String := match x with
  | .str _ => some "str"
  | .lst _ => some "list"
  | .dic _ _ => some "dict"
  | .obj n => match S[n]? with
    | some (.lst _) => some "list"
    | some (.dK _) => some "dict"
    | some (.dT _) => some "dict"
    | _ => none
  | _ => none
def eBM (T : String) (f : D → FN) (o : ED) (a : AD) : ED := fun env S => (o env S).bind fun x S1 => if mtD x S1 = some T then (a env S1).bind fun xs S2 => f x xs S2 else .bad
theorem tyv {x : D} {v : V} {T : String} (sr : SRep G w) (r : Rep G w x v) (e : mtD x w.S = some T) : tyV G.K T v w.H := by
  cases x with
  | str s => simp only [Rep] at r; cases e; subst r; exact rfl
  | lst l =>
    simp only [Rep] at r
    cases e
    obtain ⟨a, vs, rfl, h1, _⟩ := r
    exact .inl ⟨rfl, vs, SqL.of h1⟩
  | dic ks l =>
    simp only [Rep] at r
    cases e
    obtain ⟨a, vs, rfl, h1, _⟩ := r
    exact .inr (.inr (.inl ⟨rfl, .inl ⟨_, h1⟩⟩))
  | obj n =>
    simp only [Rep] at r
    obtain ⟨a, hm, rfl⟩ := r
    simp only [mtD] at e
    split at e
    · rename_i l hn
      cases e
      obtain ⟨vs, h1, _⟩ := sr.obj n _ a hn hm
      exact .inl ⟨rfl, vs, SqL.of h1⟩
    · rename_i l hn
      cases e
      obtain ⟨vs, h1, _⟩ := sr.obj n _ a hn hm
      exact .inr (.inr (.inl ⟨rfl, .inl ⟨_, h1⟩⟩))
    · rename_i l hn
      cases e
      obtain ⟨vs, h1, _⟩ := sr.obj n _ a hn hm
      exact .inr (.inr (.inl ⟨rfl, .inr ⟨_, h1⟩⟩))
    · cases e
  | _ => cases e
theorem q_bm {o e : Expr} {es : List Expr} {name : Str} {apos cpos : Pos} {T id : String} {f : D → FN} {mo : ED} {ma : AD} (hK : X.K = G.K) (pa : PlainAttrs T) (slot : Slot T name id) (hty : typeOf (.builtin id) = pure (.type "method_descriptor")) (hm : MtR X id (rM G f)) (c : CalmM f) (ho : PE X o (tE G mo Wx)) (ha : PA X (e :: es) (tA G ma Wx))
    (hbase : attributeBase o name X.env (eval o X.env) = eval o X.env := by rfl)
    (hfew : ((backTo cpos (starEach (e :: es) X.env)).all (fun x => !x.1) && (backToKw cpos (keywordEach [] X.env)).all (fun x => x.1.isSome)
      && decide ((e :: es).length + ([] : List Keyword).length + (if ([] : List Keyword).isEmpty then 0 else 1) < 30)) = true := by rfl)
    (hline : (apos.endLine == cpos.line) = true := by rfl) (hs : starEach (e :: es) X.env = (false, eval e X.env) :: starEach es X.env := by rfl) (hplain : (backTo cpos (starEach es X.env)).any (·.1) = false := by rfl) :
    PE X (.Call (.Attribute o name apos) (e :: es) [] cpos) (tE G (eBM T f mo ma) Wx) := peI (pe_bm pa slot hty hm ho ha hbase hfew hline hs hplain) fun σ H Q q => by
  obtain ⟨w, env, rfl, sr, er, p⟩ := q
  refine ⟨w, env, rfl, sr, er, (Post.bind (Ra := Rep G) p).mono (fun x H1 m => ?_) fun _ _ _ h => h⟩
  obtain ⟨w1, d1, rfl, x1, s1, rp1, p1⟩ := m
  split at p1
  · rename_i ht
    refine ⟨by rw [hK]; exact tyv s1 rp1 ht, w1, env, rfl, s1, er.mono x1, (Post.bind (Ra := RepL G) p1).mono (fun x H1 m => ?_) fun _ _ _ h => h⟩
    obtain ⟨w2, d2, rfl, x2, s2, rp2, p2⟩ := m
    exact ⟨w2, d1, d2, rfl, s2, Rep.mono x2 _ _ rp1, rp2, p2.calm (c _ _ _)⟩
  · exact p1.elim
theorem q_bm0 {o : Expr} {name : Str} {apos cpos : Pos} {T id : String} {f : D → FN} {mo : ED} (hK : X.K = G.K) (pa : PlainAttrs T) (slot : Slot T name id) (hty : typeOf (.builtin id) = pure (.type "method_descriptor")) (hm : MtR X id (rM G f)) (c : CalmM f) (ho : PE X o (tE G mo Wx))
    (hbase : attributeBase o name X.env (eval o X.env) = eval o X.env := by rfl) (hline : (apos.endLine == cpos.line) = true := by rfl) : PE X (.Call (.Attribute o name apos) [] [] cpos) (tE G (eBM T f mo aNil) Wx) := peI (pe_bm0 pa slot hty hm ho hbase hline) fun σ H Q q => by
  obtain ⟨w, env, rfl, sr, er, p⟩ := q
  refine ⟨w, env, rfl, sr, er, (Post.bind (Ra := Rep G) p).mono (fun x H1 m => ?_) fun _ _ _ h => h⟩
  obtain ⟨w1, d1, rfl, x1, s1, rp1, p1⟩ := m
  split at p1
  · rename_i ht
    exact ⟨by rw [hK]; exact tyv s1 rp1 ht, w1, d1, [], rfl, s1, rp1, by simp [RepL], p1.calm (c _ _ _)⟩
  · exact p1.elim
/-- what stands in the store at n -/
def lstAt (x : D) (S : Store) : Option (Nat × List D) := match x with
  | .obj n => match S[n]? with
    | some (.lst l) => some (n, l)
    | _ => none
  | _ => none
theorem lstAt_rep {x : D} {v : V} {n : Nat} {l : List D} (sr : SRep G w) (r : Rep G w x v) (e : lstAt x w.S = some (n, l)) : ∃ a vs, v = .ref a ∧ w.S[n]? = some (.lst l) ∧ w.mu[n]? = some a ∧ w.H a = some (.lst vs) ∧ RepL G w l vs := by
  cases x with
  | obj m =>
    simp only [Rep] at r
    obtain ⟨a, hm, rfl⟩ := r
    simp only [lstAt] at e
    split at e
    · rename_i l' hn
      cases e
      obtain ⟨vs, h1, h2⟩ := sr.obj _ _ a hn hm
      exact ⟨a, vs, rfl, hn, hm, h1, h2⟩
    · cases e
  | _ => cases e
/-- a list of the store changes -/
theorem set_lst {n : Nat} {a : Addr} {l l' : List D} {vs' : List V} {d : D} {y : V} {Q : VK} {E : Value → Option Addr → Hp → Prop} (sr : SRep G w) (hn : w.S[n]? = some (.lst l)) (ha : w.mu[n]? = some a) (rl : RepL G w l' vs') (rd : Rep G w d y)
    (p : Post G w (.ok d (w.S.set n (.lst l'))) (Rep G) Q E) : Q y (upd w.H a (.lst vs')) := by
  obtain ⟨x, s⟩ := set_obj (ob' := .lst l') (o := .lst vs') sr hn trivial ha fun w' x e => ⟨vs', e, RepL.mono x _ _ rl⟩
  exact p y _ x rfl s (Rep.mono x _ _ rd)
def appendD : D → FN := fun x xs S => match lstAt x S, xs with
  | some (n, l), [y] => if l.length < sizeLine then .ok .non (S.set n (.lst (l ++ [y]))) else .bad
  | _, _ => .bad
theorem c_append : CalmM appendD := fun x xs S => by unfold appendD; repeat' split
                                                     all_goals trivial
theorem o_append : MtR X "list.append" (rM G appendD) := mtI2 mt_append fun x xs H Q q => by
  obtain ⟨w, d, ds, rfl, sr, r1, rl, p⟩ := q
  unfold appendD at p
  split at p
  · rename_i n l y he
    split at p
    · rename_i hz
      obtain ⟨a, vs, rfl, hn, hm, h1, h2⟩ := lstAt_rep sr r1 he
      simp only [RepL] at rl
      obtain ⟨v, r', rfl, ry, rfl⟩ := rl
      exact ⟨a, vs, v, rfl, rfl, h1, by rw [h2.length]; exact hz, set_lst sr hn hm (h2.append (RepL.one ry)) (by simp [Rep]) p⟩
    · exact p.elim
  · exact p.elim

/-! ### o[i] = v -/
def setD (o i v : D) (S : Store) : Option Store := match lstAt o S, i with
  | some (n, l), .int k => match ixN l.length k with
    | some j => some (S.set n (.lst (l.set j v)))
    | none => none
  | _, _ => none
def gSub (mo mi : ED) : GD := fun v env S => match mo env S with
  | .ok o S1 => match mi env S1 with
    | .ok i S2 => match setD o i v S2 with
      | some S3 => .nx env S3
      | none => .bad
    | _ => .bad
  | _ => .bad
/-- by values -/
def tSetD (G : GC) : TSet := fun o i v H k => ∃ w d1 d2 d3 S', w.H = H ∧ SRep G w ∧ Rep G w d1 o ∧ Rep G w d2 i ∧ Rep G w d3 v ∧ setD d1 d2 d3 w.S = some S' ∧ ∀ w', WExt w w' → w'.S = S' → SRep G w' → k w'.H
theorem o_set : PSet X (tSetD G) := by
  intro pins s σ H o i v ov iv u Q I ro ri ru q
  obtain ⟨w, d1, d2, d3, S', rfl, sr, r1, r2, r3, e, k⟩ := q
  unfold setD at e
  split at e
  · rename_i n l j he
    split at e
    · rename_i jj hj
      cases e
      simp only [Rep] at r2
      obtain ⟨a, vs, rfl, hn, hm, h1, h2⟩ := lstAt_rep sr r1 he
      refine set_list pins s σ w.H (.ref a) i v ov iv u Q I ro ri ru ⟨a, vs, j, jj, rfl, r2, h1, by rw [h2.length]; exact hj, ?_⟩
      obtain ⟨x, s'⟩ := set_obj (ob' := .lst (l.set jj d3)) (o := .lst (vs.set jj v)) sr hn trivial hm fun w' x e => ⟨_, e, RepL.mono x _ _ (h2.set jj r3)⟩
      exact k _ x rfl s'
    · cases e
  · cases e
theorem q_gsub {o i : Expr} {mo mi : ED} (ho : PE X o (tE G mo Wx)) (hi : PE X i (tE G mi Wx))
    (ha : ∀ v, assign (.Subscript o i pos) X.env v = (do
      let ov ← holding [v] (eval o X.env)
      let iv ← holding [v, ov] (eval i X.env)
      standAt pos
      holding [v, ov, iv] (setItem ov iv v)
      release [v, ov, iv] []) := by intro _; rfl) : PG X (.Subscript o i pos) (tG G (gSub mo mi)) := pgI (pg_sub ho hi o_set ha) fun v σ H Q q => by
  obtain ⟨w, env, d, rfl, sr, er, rp, p⟩ := q
  unfold gSub at p
  cases h1 : mo env w.S with
  | ok o S1 =>
    rw [h1] at p
    refine ⟨w, env, rfl, sr, er, ?_⟩
    rw [h1]
    intro vo w1 x1 e1 s1 ro
    subst e1
    simp only at p
    cases h2 : mi env w1.S with
    | ok i S2 =>
      rw [h2] at p
      refine ⟨w1, env, rfl, s1, er.mono x1, ?_⟩
      rw [h2]
      intro vi w2 x2 e2 s2 ri
      subst e2
      simp only at p
      cases h3 : setD o i d w2.S with
      | some S3 =>
        rw [h3] at p
        refine ⟨w2, o, i, d, S3, rfl, s2, Rep.mono x2 _ _ ro, ri, Rep.mono (WX'.trans x1 x2) _ _ rp, h3, fun w3 x3 e3 s3 => ?_⟩
        exact p σ w3 (WX'.trans (WX'.trans x1 x2) x3) e3 s3 (((er.mono x1).mono x2).mono x3)
      | none => rw [h3] at p; exact p.elim
    | exc _ _ => rw [h2] at p; exact p.elim
    | bad => rw [h2] at p; exact p.elim
  | exc _ _ => rw [h1] at p; exact p.elim
  | bad => rw [h1] at p; exact p.elim
theorem gn_sub {mo mi : ED} : GOk (gSub mo mi) := fun d env S => by
  unfold gSub
  cases mo env S with
  | ok o S1 =>
    simp only
    cases mi env S1 with
    | ok i S2 =>
      simp only
      cases setD o i d S2 with
      | some S3 => exact .inl ⟨_, _, rfl⟩
      | none => exact .inr rfl
    | exc _ _ => exact .inr rfl
    | bad => exact .inr rfl
  | exc _ _ => exact .inr rfl
  | bad => exact .inr rfl

/-! ### a, b = .. -/
theorem gNames_nx : ∀ {is : List Nat} {ds : List D} {env : EnvD} {S : Store}, (∃ env', gNames is ds env S = .nx env' S) ∨ gNames is ds env S = .bad
  | [], [], _, _ => .inl ⟨_, rfl⟩
  | [], _ :: _, _, _ => .inr rfl
  | _ :: _, [], _, _ => .inr rfl
  | i :: is, d :: ds, env, S => gNames_nx (is := is) (ds := ds) (env := env.set i (some d)) (S := S)
def tGs (G : GC) (is : List Nat) : TGs := fun vs σ H Q => ∃ w env ds env', w.H = H ∧ SRep G w ∧ ERep G w env σ ∧ RepL G w ds vs ∧ gNames is ds env w.S = .nx env' w.S ∧ ∀ σ', ERep G w env' σ' → Q σ' H
theorem pgsI {e : List Expr} {t t' : TGs} (h : PGs X e t) (i : ∀ v σ H Q, t' v σ H Q → t v σ H Q) : PGs X e t' := ⟨fun pins s σ H v u Q I r q => h.run pins s σ H v u Q I r (i _ _ _ _ q)⟩
theorem q_gsnil : PGs X [] (tGs G []) := pgsI pgs_nil fun v σ H Q q => by
  obtain ⟨w, env, ds, env', rfl, sr, er, rl, e, k⟩ := q
  cases ds with
  | nil =>
    simp only [RepL] at rl
    cases e
    exact ⟨rl, k σ er⟩
  | cons _ _ => cases e
theorem q_gscons {e : Expr} {es : List Expr} {i : Nat} {is : List Nat} (h1 : PG X e (L2.gName i)) (h2 : PGs X es (tGs G is))
    (hs : (assignEach (e :: es) X.env).map (·.2) = assign e X.env :: (assignEach es X.env).map (·.2) := by rfl) : PGs X (e :: es) (tGs G (i :: is)) := pgsI (pgs_cons h1 h2 hs) fun v σ H Q q => by
  obtain ⟨w, env, ds, env', rfl, sr, er, rl, e, k⟩ := q
  cases ds with
  | nil => cases e
  | cons d ds =>
    simp only [RepL] at rl
    obtain ⟨v, r, rfl, r1, r2⟩ := rl
    exact ⟨v, r, rfl, w, _, ds, env', rfl, sr, er.set i r1, r2, e, k⟩
theorem q_gtup {es : List Expr} {k : Nat} {is : List Nat} (hK : X.K = G.K) (hc : X.calm = true) (h : PGs X es (tGs G is)) (hn : (assignEach es X.env).length = is.length := by rfl) (hst : (assignEach es X.env).findIdx? (·.1) = none := by rfl) :
    PG X (.Tuple es k pos) (tG G (gTup is)) := pgI (pg_tup hc h hn hst) fun v σ H Q q => by
  obtain ⟨w, env, d, rfl, sr, er, rp, p⟩ := q
  cases d with
  | tup l =>
    simp only [Rep] at rp
    obtain ⟨a, vs, rfl, h1, rl⟩ := rp
    simp only [gTup] at p
    have ln : ∀ {is : List Nat} {l : List D} {env env' : EnvD} {S S' : Store}, gNames is l env S = .nx env' S' → l.length = is.length := by
      intro is
      induction is with
      | nil => intro l env env' S S' e; cases l with
        | nil => rfl
        | cons _ _ => cases e
      | cons i is ih => intro l env env' S S' e; cases l with
        | nil => cases e
        | cons d l => simp only [List.length_cons]; rw [ih e]
    rcases gNames_nx (is := is) (ds := l) (env := env) (S := w.S) with ⟨env', e⟩ | e
    · rw [e] at p
      refine ⟨a, vs, rfl, by rw [hK]; exact SqT_of h1, by rw [rl.length]; exact ln e, w, env, l, env', rfl, sr, er, rl, e, fun σ' er' => p σ' w (.refl _) rfl sr er'⟩
    · rw [e] at p; exact p.elim
  | _ => exact p.elim
theorem gn_name {i : Nat} : GOk (gName i) := fun d env S => .inl ⟨_, _, rfl⟩
theorem gn_tup {is : List Nat} : GOk (gTup is) := fun d env S => by
  cases d with
  | tup l =>
    rcases gNames_nx (is := is) (ds := l) (env := env) (S := S) with ⟨env', e⟩ | e
    · exact .inl ⟨env', S, e⟩
    · exact .inr e
  | _ => exact .inr rfl
/-- a, b = x, y: local names -/
def sPar (is : List Nat) (a : AD) : SD := fun env S => (a env S).toS env fun xs S1 => gNames is xs env S1
theorem q_par {i j : Nat} {x y : Str} {a b : Expr} {m : AD} {px py pt : Pos} {kt k2 pt2} (hc : X.calm = true) (hN : X.N.Nodup) (hi : X.N[i]? = some x) (hj : X.N[j]? = some y) (hij : i ≠ j)
    (hx : X.env.scope.names.lookup x = some .local) (hy : X.env.scope.names.lookup y = some .local) (ha : PA X [a, b] (tA G m Wx))
    (hw : swappedStores [.Tuple [.Name x px, .Name y py] kt pt] (.Tuple [a, b] k2 pt2) X.env = pure (some [x, y]))
    (hs : swapsWithSole [.Tuple [.Name x px, .Name y py] kt pt] (.Tuple [a, b] k2 pt2) pos.line X.env = pure false := by rfl) :
    PS X (.Assign [.Tuple [.Name x px, .Name y py] kt pt] (.Tuple [a, b] k2 pt2) pos) (tS G (sPar [i, j] m) Wx) := psI (ps_par hc hN hi hj hij hx hy ha hw hs) fun D σ H q => by
  obtain ⟨w, env, rfl, sr, er, p⟩ := q
  refine ⟨w, env, rfl, sr, er, (PostS.ofR (Ra := RepL G) er p).mono (fun x H1 m => ?_) fun _ _ _ h => h⟩
  obtain ⟨w1, ds, rfl, x1, s1, rl, p1⟩ := m
  match ds, rl with
  | [d1, d2], rl =>
    simp only [RepL] at rl
    obtain ⟨v1, r1, rfl, q1, v2, r2, rfl, q2, rfl⟩ := rl
    exact ⟨v1, v2, rfl, p1 _ w1 (.refl _) rfl s1 (((er.mono x1).set i q1).set j q2)⟩
  | [], _ => exact p1.elim
  | [_], _ => exact p1.elim
  | _ :: _ :: _ :: _, _ => exact p1.elim
theorem q_par3 {i j l : Nat} {x y z : Str} {a b c : Expr} {m : AD} {px py pz pt : Pos} {kt k2 pt2} (hc : X.calm = true) (hN : X.N.Nodup) (hi : X.N[i]? = some x) (hj : X.N[j]? = some y) (hl : X.N[l]? = some z) (hij : i ≠ j) (hil : i ≠ l) (hjl : j ≠ l)
    (hx : X.env.scope.names.lookup x = some .local) (hy : X.env.scope.names.lookup y = some .local) (hz : X.env.scope.names.lookup z = some .local) (ha : PA X [a, b, c] (tA G m Wx))
    (hw : swappedStores [.Tuple [.Name x px, .Name y py, .Name z pz] kt pt] (.Tuple [a, b, c] k2 pt2) X.env = pure (some [x, y, z]))
    (hs : swapsWithSole [.Tuple [.Name x px, .Name y py, .Name z pz] kt pt] (.Tuple [a, b, c] k2 pt2) pos.line X.env = pure false := by rfl) :
    PS X (.Assign [.Tuple [.Name x px, .Name y py, .Name z pz] kt pt] (.Tuple [a, b, c] k2 pt2) pos) (tS G (sPar [i, j, l] m) Wx) := psI (ps_par3 hc hN hi hj hl hij hil hjl hx hy hz ha hw hs) fun D σ H q => by
  obtain ⟨w, env, rfl, sr, er, p⟩ := q
  refine ⟨w, env, rfl, sr, er, (PostS.ofR (Ra := RepL G) er p).mono (fun x H1 m => ?_) fun _ _ _ h => h⟩
  obtain ⟨w1, ds, rfl, x1, s1, rl, p1⟩ := m
  match ds, rl with
  | [d1, d2, d3], rl =>
    simp only [RepL] at rl
    obtain ⟨v1, r1, rfl, q1, v2, r2, rfl, q2, v3, r3, rfl, q3, rfl⟩ := rl
    exact ⟨v1, v2, v3, rfl, p1 _ w1 (.refl _) rfl s1 ((((er.mono x1).set i q1).set j q2).set l q3)⟩
  | [], _ => exact p1.elim
  | [_], _ => exact p1.elim
  | [_, _], _ => exact p1.elim
  | _ :: _ :: _ :: _ :: _, _ => exact p1.elim
end
end L3
namespace L3
open PySem PySem.Spec PyProof.Rows L2
/-! ### callees, constants, names of built-ins -/
structure Cal (P : Program) (w : World) (G : GC) (base : Heap) (k : Nat) (x : Str) (f : Addr) (fd : FuncData) (ps : List Str) (F : FN) : Prop where
  ok : FnOk P w G.K G.mg base (L2.CX P w) k f fd ps (spOf G F)
  m : G.mg x = some (.ref f)
  kp : PySem.W.keepIn G.K (.ref f) = true
/-- how the last parameters are filled by defaults -/
def Bnd (G : GC) (fd : FuncData) (ps : List Str) (dds : List D) : Prop := ∃ dvs ds, Vals dvs ds ∧ Binds G.K fd ps ds ∧ ∀ w, RepL G w dds dvs
theorem bnd0 {G : GC} {fd : FuncData} {ps : List Str} (h : Binds G.K fd ps []) : Bnd G fd ps [] := ⟨[], [], .nil, h, fun w => by simp [RepL]⟩
/-- keywords: ds the positional values, es the keywords' values -/
def Kbd (G : GC) (fd : FuncData) (ps : List Str) (n : Nat) (ks : List Str) (gD : List D → List D → List D) : Prop :=
  ∃ g gV, KBn G.K fd ps n ks g gV ∧ ∀ w ds es vs zs, ds.length = n → es.length = ks.length → RepL G w ds vs → RepL G w es zs → RepL G w (gD ds es) (gV vs zs)
def GRep (G : GC) (x : Str) (d : D) : Prop := ∃ u v, G.mg x = some u ∧ RelV v u ∧ ∀ w, Rep G w d v
def kwK (F : FN) (n m : Nat) (gD : List D → List D → List D) : List D → FN := fun xs zs S => if xs.length = n ∧ zs.length = m then F (gD xs zs) S else .bad
/-- f(.., k = v): positional values, then the keywords' -/
def eKw (f : List D → FN) (a b : AD) : ED := fun env S => (a env S).bind fun xs S1 => (b env S1).bind fun zs S2 => f xs zs S2
theorem u65 {k : Nat} {A : Around} (h : Room k A) : A.units + 65 < cLine := by have := h.un; omega
theorem u1 {k : Nat} {A : Around} (h : Room k A) : A.units + 1 < cLine := by have := h.un; omega
section
variable {X : Cx} {G : GC} {Wx : WX} {pos p : Pos} {k : Nat} {f : Addr} {fd : FuncData} {ps : List Str} {F : FN} {x : Str} {e : Expr} {es : List Expr} {dds : List D} {m : AD} {P : Program} {w : World} {base : Heap}
/-- a call by place -/
theorem q_fn (c : Cal X.prog X.w G X.base k x f fd ps F) (b : Bnd G fd ps dds) (hr : Room k X.A) (hK : X.K = G.K) (hm : X.mg = G.mg) (hg : Gl X x) (tk : Takes X Wx)
    (ha : PA X (e :: es) (tA G m Wx)) (hdb : (x == ("__debug__" : Str)) = false := by decide) (he : starEach (e :: es) X.env = (false, eval e X.env) :: starEach es X.env := by rfl) (hpl : (backTo pos (starEach es X.env)).any (·.1) = false := by rfl) :
    PE X (.Call (.Name x p) (e :: es) [] pos) (tE G (eN (callK F dds) m) Wx) := by
  obtain ⟨dvs, ds, h1, h2, h3⟩ := b
  exact q_call (by rw [hK, hm]; exact c.ok) hr hg (by rw [hm]; exact c.m) (by rw [hK]; exact c.kp) (by rw [hK]; exact h2) h1 h3 tk ha hdb he hpl
theorem q_fn0 (c : Cal X.prog X.w G X.base k x f fd ps F) (b : Bnd G fd ps dds) (hr : Room k X.A) (hK : X.K = G.K) (hm : X.mg = G.mg) (hg : Gl X x) (tk : Takes X Wx)
    (hdb : (x == ("__debug__" : Str)) = false := by decide) : PE X (.Call (.Name x p) [] [] pos) (tE G (eN (callK F dds) aNil) Wx) := by
  obtain ⟨dvs, ds, h1, h2, h3⟩ := b
  exact q_call0 (by rw [hK, hm]; exact c.ok) hr hg (by rw [hm]; exact c.m) (by rw [hK]; exact c.kp) (by rw [hK]; exact h2) h1 h3 tk hdb
/-- a call of a name that holds the def x -/
def eFnL (i : Nat) (x : Str) (F : FN) (a : AD) : ED := fun env S => match env[i]? with
  | some (some (.glb y)) => if y = x then (a env S).bind fun xs S1 => F xs S1 else .bad
  | _ => .bad
theorem q_fnL {i : Nat} {y : Str} (c : Cal X.prog X.w G X.base k x f fd ps F) (b : Bnd G fd ps []) (hr : Room k X.A) (hK : X.K = G.K) (hm : X.mg = G.mg) (hN : X.N[i]? = some y) (hv : Vis X.env.scope y) (tk : Takes X Wx)
    (ha : PA X (e :: es) (tA G m Wx)) (hdb : (y == ("__debug__" : Str)) = false := by decide) (hcd : (y == ("__classdict__" : Str)) = false := by decide)
    (he : starEach (e :: es) X.env = (false, eval e X.env) :: starEach es X.env := by rfl) (hpl : (backTo pos (starEach es X.env)).any (·.1) = false := by rfl) : PE X (.Call (.Name y p) (e :: es) [] pos) (tE G (eFnL i x F m) Wx) := by
  obtain ⟨dvs, ds, h1, h2, h3⟩ := b
  have e0 : dvs = [] := by
    have := h3 ⟨[], [], fun _ => none, []⟩
    simpa [RepL] using this
  subst e0
  refine ⟨fun pins s σ H Q I q => ?_⟩
  obtain ⟨wd, env, rfl, sr, er, pp⟩ := q
  unfold eFnL at pp
  split at pp
  · rename_i z hz
    split at pp
    · rename_i ez
      subst ez
      obtain ⟨v, hs, rv⟩ := er.at' i _ hz
      simp only [Rep] at rv
      obtain ⟨u, hu, ru⟩ := rv
      rw [c.m] at hu
      cases hu
      have hv' : v = .ref f := by
        cases v <;> first | (obtain ⟨_, q⟩ := ru; cases q) | (cases ru; rfl) | cases ru
      subst hv'
      refine wpAny_Call_Name_kw (thn ((pe_var (pos := p) hN hv hdb hcd).run pins s σ wd.H (fun v H1 => v = .ref f ∧ H1 = wd.H) I ⟨.ref f, hs, rfl, rfl⟩) fun u s1 ⟨v, H1, I1, r1, q1⟩ => ?_)
      obtain ⟨rfl, rfl⟩ := q1
      cases r1
      have kp : PySem.W.keepIn X.K (.ref f) = true := by rw [hK]; exact c.kp
      refine PySem.W.callWith_K (h₀ := X.base) I.ok.mod.kin kp (thn (ha.run pos pins s1 σ _ _ I1 ⟨wd, env, rfl, sr, er, Post.bind pp⟩) fun us s2 ⟨vs, H2, I2, r, q⟩ => ⟨I2.kIn, ?_⟩) he hpl
      obtain ⟨w1, d1, rfl, x1, s1', rp1, p1⟩ := q
      exact run_fnSD (E := WE Wx) (sp := spOf G F) (dvs := []) (by rw [hK, hm]; exact c.ok) hr (by rw [hK]; exact h2) h1 (passAt tk σ) I2 r ⟨w1, d1, rfl, s1', by simpa using rp1, p1⟩
    · exact pp.elim
  · exact pp.elim
/-- keywords' values -/
structure QK (X : Cx) (G : GC) (Wx : WX) (kws : List Keyword) (m : AD) : Prop where
  pk : PK X kws (tA G m Wx)
theorem q_knil : QK X G Wx [] aNil := ⟨⟨fun po pins s σ H Q I q => by
  obtain ⟨w, env, rfl, sr, er, p⟩ := q
  exact pk_nil.run po pins s σ w.H Q I (Post.ret (Ra := RepL G) sr (by simp [RepL]) p)⟩⟩
theorem q_kcons {kws : List Keyword} {nm : Option Str} {kpos : Pos} {a : ED} {b : AD} (ha : PE X e (tE G a Wx)) (hr : QK X G Wx kws b) : QK X G Wx (⟨nm, e, kpos⟩ :: kws) (aCons a b) := ⟨⟨fun po pins s σ H Q I q => by
  refine (pk_cons (nm := nm) (kpos := kpos) ha hr.pk).run po pins s σ H Q I ?_
  obtain ⟨w, env, rfl, sr, er, p⟩ := q
  refine ⟨w, env, rfl, sr, er, (Post.bind (Ra := Rep G) p).mono (fun x H1 m => ?_) fun _ _ _ h => h⟩
  obtain ⟨w1, d1, rfl, x1, s1, rp1, p1⟩ := m
  refine ⟨w1, env, rfl, s1, er.mono x1, (Post.bind (Ra := RepL G) p1).mono (fun y H2 m => ?_) fun _ _ _ h => h⟩
  obtain ⟨w2, d2, rfl, x2, s2, rp2, p2⟩ := m
  exact Post.ret (Ra := RepL G) (a := d1 :: d2) s2 (by simp only [RepL]; exact ⟨x, y, rfl, Rep.mono x2 _ _ rp1, rp2⟩) p2⟩⟩
/-- a call with keywords -/
theorem q_fnK {kws : List Keyword} {n : Nat} {ks : List Str} {gD : List D → List D → List D} {b : AD} (c : Cal X.prog X.w G X.base k x f fd ps F) (hb : Kbd G fd ps n ks gD) (hr : Room k X.A) (hK : X.K = G.K) (hm : X.mg = G.mg) (hg : Gl X x) (tk : Takes X Wx)
    (ha : PA X (e :: es) (tA G m Wx)) (hkw : QK X G Wx kws b) (hall : (backToKw pos (keywordEach kws X.env)).all (·.1.isSome) = true := by rfl) (hks : (backToKw pos (keywordEach kws X.env)).filterMap (·.1) = ks := by rfl)
    (hdb : (x == ("__debug__" : Str)) = false := by decide) (he : starEach (e :: es) X.env = (false, eval e X.env) :: starEach es X.env := by rfl)
    (hpl : ((backTo pos (starEach (e :: es) X.env)).any (·.1) || (backToKw pos (keywordEach kws X.env)).any (·.1.isNone)) = false := by rfl) :
    PE X (.Call (.Name x p) (e :: es) kws pos) (tE G (eKw (kwK F n ks.length gD) m b) Wx) := by
  obtain ⟨g, gV, hn, hrep⟩ := hb
  have ok := c.ok
  rw [← hK, ← hm] at ok
  have kp : PySem.W.keepIn X.K (.ref f) = true := by rw [hK]; exact c.kp
  rw [← hK] at hn
  refine ⟨fun pins s σ H Q I q => ?_⟩
  obtain ⟨wd, env, rfl, sr, er, pp⟩ := q
  refine wpAny_Call_Name_kw (ld_glob I hg (by rw [hm]; exact c.m) ?_ hdb)
  refine PySem.W.callWith_KW (h₀ := X.base) I.ok.mod.kin kp hall (thn (ha.run pos pins s σ wd.H _ I ⟨wd, env, rfl, sr, er, Post.bind (Ra := RepL G) pp⟩) fun us s1 ⟨vs, H1, I1, r, q⟩ => ?_) hpl he
  obtain ⟨w1, d1, rfl, x1, s1', rp1, p1⟩ := q
  refine thn (hkw.pk.run pos pins s1 σ w1.H _ I1 ⟨w1, env, rfl, s1', er.mono x1, Post.bind (Ra := RepL G) p1⟩) fun ws s2 ⟨zs, H2, I2, rz, q2⟩ => ⟨I2.kIn, ?_⟩
  obtain ⟨w2, d2, rfl, x2, s2', rp2, p2⟩ := q2
  rw [hks]
  unfold kwK at p2
  split at p2
  · rename_i hl
    have r2 := hn.rel r rz
    refine wpAny_call (codeAny_mono (ok.run X.A X.stack s2 w2.H ⟨us, ks.zip ws⟩ (g us ws) (gV vs zs) Q (WE Wx σ) hr I2.env0 (hn.to s2 us ws I2.kIn ?_ ?_) r2 ⟨w2, gD d1 d2, rfl, s2', hrep w2 d1 d2 vs zs hl.1 hl.2 (RepL.mono x2 _ _ rp1) rp2, p2⟩) fun r s' hq => ?_)
    · rw [← r.length, rp1.length]; exact hl.1
    · rw [← rz.length, rp2.length]; exact hl.2
    · cases r with
      | error e => exact passAt tk σ pins w2.H s2 e s' I2 hq
      | ok fl =>
        cases fl with
        | ret u => exact I2.after hq
        | next => exact False.elim hq
        | brk => exact False.elim hq
        | cont => exact False.elim hq
  · exact p2.elim
/-- the same with keywords alone -/
theorem q_cst {d : D} (h : GRep G x d) (hm : X.mg = G.mg) (hg : Gl X x) (hd : (x == ("__debug__" : Str)) = false := by decide) : PE X (.Name x pos) (tE G (eK d) Wx) := by
  obtain ⟨u, v, h1, h2, h3⟩ := h
  exact q_const (pe_glob hg (by rw [hm]; exact h1) h2 hd) h3
theorem q_fnv {u : Value} (h : G.mg x = some u) (r : ∃ v, RelV v u) (hm : X.mg = G.mg) (hg : Gl X x) (hd : (x == ("__debug__" : Str)) = false := by decide) : PE X (.Name x pos) (tE G (eK (.glb x)) Wx) := by
  obtain ⟨v, r⟩ := r
  exact q_const (pe_glob hg (by rw [hm]; exact h) r hd) fun w => by simp only [Rep]; exact ⟨u, h, r⟩
theorem q_ty {T : String} (hm : X.mg x = none) (hv : bootBuiltins x = some (.type T)) (hg : Gl X x) (hn : x ≠ "__name__" := by decide) (hd : (x == ("__debug__" : Str)) = false := by decide) : PE X (.Name x pos) (tE G (eK (.ty T)) Wx) :=
  q_const (pe_bltn (v := .ty T) hg hm hv rfl hn hd) fun w => by simp [Rep]
theorem q_tb {e : Expr} {m : TD} (h : PW X e (tT G m Wx)) : PT X e (tT G m Wx) := h.pt
theorem w_and1 {a : Expr} {ma : TD} (h : PT X a (tT G ma Wx)) : PW X (.BoolOp .And [a] pos) (tT G ma Wx) := pw_and1 h
theorem w_or1 {a : Expr} {ma : TD} (h : PT X a (tT G ma Wx)) : PW X (.BoolOp .Or [a] pos) (tT G ma Wx) := pw_or1 h
theorem w_and {a b : Expr} {rest : List Expr} {ma mb : TD} (ha : PT X a (tT G ma Wx)) (hb : PW X (.BoolOp .And (b :: rest) pos) (tT G mb Wx)) : PW X (.BoolOp .And (a :: b :: rest) pos) (tT G (tAnd ma mb) Wx) := pwI (pw_and ha hb) imp_and
theorem w_or {a b : Expr} {rest : List Expr} {ma mb : TD} (ha : PT X a (tT G ma Wx)) (hb : PW X (.BoolOp .Or (b :: rest) pos) (tT G mb Wx)) : PW X (.BoolOp .Or (a :: b :: rest) pos) (tT G (tOr ma mb) Wx) := pwI (pw_or ha hb) imp_or
end
theorem b_len : bootBuiltins "len" = some (.builtin "len") := by decide +kernel
theorem b_isinstance : bootBuiltins "isinstance" = some (.builtin "isinstance") := by decide +kernel
theorem b_all : bootBuiltins "all" = some (.builtin "all") := by decide +kernel
theorem b_any : bootBuiltins "any" = some (.builtin "any") := by decide +kernel
theorem b_sum : bootBuiltins "sum" = some (.builtin "sum") := by decide +kernel
theorem b_max : bootBuiltins "max" = some (.builtin "max") := by decide +kernel
theorem b_min : bootBuiltins "min" = some (.builtin "min") := by decide +kernel
theorem b_abs : bootBuiltins "abs" = some (.builtin "abs") := by decide +kernel
theorem b_int : bootBuiltins "int" = some (.type "int") := by decide +kernel
theorem b_bool : bootBuiltins "bool" = some (.type "bool") := by decide +kernel
theorem b_str : bootBuiltins "str" = some (.type "str") := by decide +kernel
theorem b_tuple : bootBuiltins "tuple" = some (.type "tuple") := by decide +kernel
theorem b_list : bootBuiltins "list" = some (.type "list") := by decide +kernel
theorem b_dict : bootBuiltins "dict" = some (.type "dict") := by decide +kernel
end L3
set_option Elab.async false
set_option linter.all false
set_option maxRecDepth 100000
/-! L3L: dict displays, methods of texts and dicts. -/
namespace L3
open PySem PySem.Spec PyProof.Rows L2

section
variable {G : GC} {X : Cx} {Wx : WX} {pos : Pos} {w : Wd}
/-- what was in the making at p is done: it becomes whatever stands there now -/
theorem tmp_off {w0 w2 : Wd} {p : Addr} {H' : Hp} (s0 : SRep G w0) (hp : w0.H p = none) (x : WX' [p] w0 w2) (s2 : SRep G w2) (tm : p ∈ w2.tmp) (hH : ∀ b, b ≠ p → H' b = w2.H b) :
    WExt w0 ⟨w2.mu, w2.S, H', w0.tmp⟩ ∧ SRep G ⟨w2.mu, w2.S, H', w0.tmp⟩ ∧ (∀ d v, Rep G w2 d v → Rep G ⟨w2.mu, w2.S, H', w0.tmp⟩ d v) ∧ (∀ d v, RepL G w2 d v → RepL G ⟨w2.mu, w2.S, H', w0.tmp⟩ d v) ∧ ¬ Mut ⟨w2.mu, w2.S, H', w0.tmp⟩ p := by
  have np : p ∉ w0.tmp := fun z => by obtain ⟨⟨u, e⟩, _⟩ := s0.tm p z; rw [hp] at e; cases e
  have nm : ¬ MutS w2 p := (s2.tm p tm).2
  have x1 : WX' [p] w2 ⟨w2.mu, w2.S, H', w2.tmp⟩ := ⟨fun _ _ h => h, fun a o h nm ha => ⟨(hH a (by simpa using ha)).trans h, nm⟩, fun a h => .inl h, fun a h => h⟩
  have tk : Tok [p] w2 := fun a h => .inl (by have : a = p := by simpa using h
                                              rw [this]; exact tm)
  have inc : ∀ a, a ∈ w0.tmp → a ∈ w2.tmp := x.tmp'
  have s1 : SRep G ⟨w2.mu, w2.S, H', w0.tmp⟩ := by
    refine ⟨s2.len, s2.inj, fun n ob a h1 h2 => ?_, fun a ha => ?_⟩
    · have h := s2.obj n ob a h1 h2
      exact ORep.untmp (t := w0.tmp) (w := ⟨w2.mu, w2.S, H', w2.tmp⟩) inc (h.keep x1 tk fun lv => hH a fun e => nm (by subst e; exact ⟨n, ob, h1, lv, h2⟩))
    · obtain ⟨⟨u, e⟩, q⟩ := s2.tm a (inc a ha)
      exact ⟨⟨u, (hH a fun z => np (z ▸ ha)).trans e⟩, q⟩
  refine ⟨⟨x.mu, fun a o h nmS _ => ?_, fun a h => .inl h, fun a h => h⟩, s1, fun d v h => Rep.untmp (t := w0.tmp) (w := ⟨w2.mu, w2.S, H', w2.tmp⟩) inc d v (Rep.monoT x1 tk d v h), fun d v h => RepL.untmp (t := w0.tmp) (w := ⟨w2.mu, w2.S, H', w2.tmp⟩) inc d v (RepL.monoT x1 tk d v h), fun m => m.elim nm np⟩
  have ha : a ≠ p := fun e => by rw [e, hp] at h; cases h
  obtain ⟨h1, h2⟩ := x.keep a o h nmS (by simpa using ha)
  exact ⟨(hH a ha).trans h1, h2⟩
/-- something comes to be made at p -/
theorem tmp_on {p : Addr} {o : HO} (s0 : SRep G w) (hp : w.H p = none) : WX' [p] w ⟨w.mu, w.S, upd w.H p o, p :: w.tmp⟩ ∧ SRep G ⟨w.mu, w.S, upd w.H p o, p :: w.tmp⟩ ∧ (∀ d v, Rep G w d v → Rep G ⟨w.mu, w.S, upd w.H p o, p :: w.tmp⟩ d v) := by
  have h0 : WX' [p] w ⟨w.mu, w.S, upd w.H p o, p :: w.tmp⟩ :=
    ⟨fun _ _ h => h, fun a o h nm ha => ⟨(upd_ne (by simpa using ha)).trans h, nm⟩, fun a h => by
      rcases List.mem_cons.mp h with e | h
      · exact .inr (by simp [e])
      · exact .inl h, fun a h => List.mem_cons_of_mem _ h⟩
  have tk : Tok [p] w := fun a h => .inr (by have : a = p := by simpa using h
                                             rw [this]; exact hp)
  have nL : ¬ MutS w p := fun m => by obtain ⟨u, e⟩ := MutS.there s0 m; rw [hp] at e; cases e
  refine ⟨h0, ⟨s0.len, s0.inj, fun n ob a h1 h2 => ?_, fun a ha => ?_⟩, fun d v h => Rep.monoT h0 tk d v h⟩
  · have h := s0.obj n ob a h1 h2
    refine h.keep h0 tk fun lv => ?_
    obtain ⟨u, e⟩ := h.there lv
    exact upd_ne (ne_of_none e hp)
  · rcases List.mem_cons.mp ha with e | ha
    · subst e; exact ⟨⟨_, upd_same⟩, nL⟩
    · obtain ⟨⟨u, e⟩, nm⟩ := s0.tm a ha
      exact ⟨⟨u, (upd_ne (ne_of_none e hp)).trans e⟩, nm⟩

/-! ### {k: v, ..} -/
def putD {κ : Type} [DecidableEq κ] (kvs : List (κ × D)) (k : κ) (v : D) : List (κ × D) :=
  if (kvs.any fun kv => decide (kv.1 = k)) = true then kvs.map (fun kv => if kv.1 = k then (kv.1, v) else kv) else kvs ++ [(k, v)]
def mergeD (kvs more : List (Key × D)) : List (Key × D) := more.foldl (fun acc kv => putD acc kv.1 kv.2) kvs
def pairsD : List (ED × ED) → EnvD → Store → R (List (D × D))
  | [], _, S => .ok [] S
  | (k, v) :: r, env, S => (k env S).bind fun x S1 => (v env S1).bind fun y S2 => (pairsD r env S2).bind fun ps S3 => .ok ((x, y) :: ps) S3
def keyed : List (D × D) → Option (List (Key × D))
  | [] => some []
  | p :: r => match keyOf p.1, keyed r with
    | some k, some ks => some ((k, p.2) :: ks)
    | _, _ => none
/-- a dict that stays -/
def eDic (ps : List (ED × ED)) : ED := fun env S => (pairsD ps env S).nox.bind fun xs S1 => match keyed xs with
  | some kvs => if kvs.length ≤ 15 then .ok (.dic ((mergeD [] kvs).map (·.1)) ((mergeD [] kvs).map (·.2))) S1 else .bad
  | none => .bad
/-- a dict that will be changed -/
def eDct (ps : List (ED × ED)) : ED := fun env S => (pairsD ps env S).nox.bind fun xs S1 => match keyed xs with
  | some kvs => if kvs.length ≤ 15 then .ok (.obj S1.length) (S1 ++ [.dK (mergeD [] kvs)]) else .bad
  | none => .bad
theorem any_put {κ : Type} [DecidableEq κ] (k : κ) : ∀ {kvs : List (κ × D)} {vs : List (κ × V)}, RepKV G w kvs vs → (kvs.any fun kv => decide (kv.1 = k)) = (vs.any fun kv => decide (kv.1 = k))
  | [], vs, h => by
    have : vs = [] := h
    subst this; rfl
  | p :: r, vs, h => by
    obtain ⟨v, y, rfl, h1, h2⟩ := h
    simp only [List.any_cons, any_put k h2]
theorem map_put {κ : Type} [DecidableEq κ] {d : D} {v : V} (k : κ) (rv : Rep G w d v) : ∀ {kvs : List (κ × D)} {vs : List (κ × V)}, RepKV G w kvs vs →
    RepKV G w (kvs.map (fun kv => if kv.1 = k then (kv.1, d) else kv)) (vs.map (fun kv => if kv.1 = k then (kv.1, v) else kv))
  | [], vs, h => by
    have : vs = [] := h
    subst this; rfl
  | p :: r, vs, h => by
    obtain ⟨u, y, rfl, h1, h2⟩ := h
    simp only [List.map_cons]
    by_cases e : p.1 = k
    · rw [if_pos e, if_pos e]; exact ⟨v, _, rfl, rv, map_put k rv h2⟩
    · rw [if_neg e, if_neg e]; exact ⟨u, _, rfl, h1, map_put k rv h2⟩
theorem RepKV.append {κ : Type} : ∀ {a b : List (κ × D)} {x y : List (κ × V)}, RepKV G w a x → RepKV G w b y → RepKV G w (a ++ b) (x ++ y)
  | [], _, x, _, h, h' => by
    have : x = [] := h
    subst this; exact h'
  | p :: r, b, x, y, h, h' => by
    obtain ⟨u, z, rfl, h1, h2⟩ := h
    exact ⟨u, z ++ y, rfl, h1, RepKV.append h2 h'⟩
theorem RepKV.put {κ : Type} [DecidableEq κ] {kvs : List (κ × D)} {vs : List (κ × V)} {d : D} {v : V} (k : κ) (h : RepKV G w kvs vs) (rv : Rep G w d v) : RepKV G w (putD kvs k d) (putK vs k v) := by
  unfold putD putK
  rw [any_put k h]
  split
  · exact map_put k rv h
  · exact h.append ⟨v, [], rfl, rv, rfl⟩
theorem RepKV.merge : ∀ {more : List (Key × D)} {mv : List (Key × V)} {kvs : List (Key × D)} {vs : List (Key × V)}, RepKV G w more mv → RepKV G w kvs vs → RepKV G w (mergeD kvs more) (mergeK vs mv)
  | [], mv, kvs, vs, h, h' => by
    have : mv = [] := h
    subst this; exact h'
  | p :: r, mv, kvs, vs, h, h' => by
    obtain ⟨u, z, rfl, h1, h2⟩ := h
    show RepKV G w (mergeD (putD kvs p.1 p.2) r) (mergeK (putK vs p.1 u) z)
    exact RepKV.merge h2 (h'.put p.1 h1)
theorem RepKV.parts {κ : Type} : ∀ {kvs : List (κ × D)} {vs : List (κ × V)}, RepKV G w kvs vs → ∃ us, vs = (kvs.map (·.1)).zip us ∧ RepL G w (kvs.map (·.2)) us
  | [], vs, h => by
    have : vs = [] := h
    subst this; exact ⟨[], rfl, by simp [RepL]⟩
  | p :: r, vs, h => by
    obtain ⟨u, z, rfl, h1, h2⟩ := h
    obtain ⟨us, rfl, h3⟩ := RepKV.parts h2
    exact ⟨u :: us, rfl, by simp only [List.map_cons, RepL]; exact ⟨u, us, rfl, h1, h3⟩⟩
/-- pairs of values -/
def RepP (G : GC) (w : Wd) : List (D × D) → List (V × V) → Prop
  | [], x => x = []
  | p :: r, x => ∃ a b y, x = (a, b) :: y ∧ Rep G w p.1 a ∧ Rep G w p.2 b ∧ RepP G w r y
theorem RepP.mono {w' : Wd} (x : WExt w w') : ∀ {d : List (D × D)} {v : List (V × V)}, RepP G w d v → RepP G w' d v
  | [], v, h => h
  | p :: r, v, h => by
    obtain ⟨a, b, y, rfl, h1, h2, h3⟩ := h
    exact ⟨a, b, y, rfl, Rep.mono x _ _ h1, Rep.mono x _ _ h2, RepP.mono x h3⟩
theorem RepP.keyed : ∀ {ps : List (D × D)} {vs : List (V × V)} {kvs : List (Key × D)}, RepP G w ps vs → keyed ps = some kvs → ∃ ks, vs = ks.map (fun kv => (kV kv.1, kv.2)) ∧ RepKV G w kvs ks
  | [], vs, kvs, h, e => by
    have : vs = [] := h
    cases e
    subst this; exact ⟨[], rfl, rfl⟩
  | p :: r, vs, kvs, h, e => by
    obtain ⟨a, b, y, rfl, h1, h2, h3⟩ := h
    simp only [L3.keyed] at e
    split at e
    · rename_i k ks hk hks
      cases e
      obtain ⟨us, rfl, q⟩ := RepP.keyed h3 hks
      exact ⟨(k, b) :: us, by simp [keyOf_rep h1 hk], ⟨b, us, rfl, h2, q⟩⟩
    · cases e
/-- the pairs of a display -/
structure QP (X : Cx) (G : GC) (Wx : WX) (pos : Pos) (ks : List (Option Expr)) (vs : List Expr) (ps : List (ED × ED)) : Prop where
  ex : ∃ trs, PPs X pos ks vs trs ∧ ∀ σ H Q, (∃ w env, w.H = H ∧ SRep G w ∧ ERep G w env σ ∧ Post G w (pairsD ps env w.S) (RepP G) Q (fun C dx H' => Wx C dx σ H')) → tPairs trs σ H Q
theorem q_pnil : QP X G Wx pos [] [] [] := ⟨[], pps_nil, fun σ H Q ⟨w, env, eH, sr, er, p⟩ => by
  subst eH
  exact Post.ret (Ra := RepP G) (a := []) (b := []) sr (show ([] : List (V × V)) = [] from rfl) p⟩
theorem q_pcons {k v : Expr} {ks : List (Option Expr)} {vs : List Expr} {mk mv : ED} {ps : List (ED × ED)} (hk : PE X k (tE G mk Wx)) (hv : PE X v (tE G mv Wx)) (hr : QP X G Wx pos ks vs ps) : QP X G Wx pos (some k :: ks) (v :: vs) ((mk, mv) :: ps) := by
  obtain ⟨trs, h1, h2⟩ := hr.ex
  refine ⟨_, pps_cons hk hv h1, fun σ H Q ⟨w, env, eH, sr, er, p⟩ => ?_⟩
  subst eH
  refine ⟨w, env, rfl, sr, er, (Post.bind (Ra := Rep G) p).mono (fun x H1 m => ?_) fun _ _ _ h => h⟩
  obtain ⟨w1, d1, rfl, x1, s1, r1, p1⟩ := m
  refine ⟨w1, env, rfl, s1, er.mono x1, (Post.bind (Ra := Rep G) p1).mono (fun y H2 m => ?_) fun _ _ _ h => h⟩
  obtain ⟨w2, d2, rfl, x2, s2, r2, p2⟩ := m
  refine h2 σ w2.H _ ⟨w2, env, rfl, s2, (er.mono x1).mono x2, (Post.bind (Ra := RepP G) p2).mono (fun zs H3 m => ?_) fun _ _ _ h => h⟩
  obtain ⟨w3, d3, rfl, x3, s3, r3, p3⟩ := m
  exact Post.ret (Ra := RepP G) (a := (d1, d2) :: d3) s3 ⟨x, y, zs, rfl, Rep.mono (WX'.trans x2 x3) _ _ r1, Rep.mono x3 _ _ r2, r3⟩ p3
theorem disp_mid {ps : List (ED × ED)} {trs : List (TE × TE)} {f : List (D × D) → Store → R D} (ht : ∀ σ H Q, (∃ w env, w.H = H ∧ SRep G w ∧ ERep G w env σ ∧ Post G w (pairsD ps env w.S) (RepP G) Q (fun C dx H' => Wx C dx σ H')) → tPairs trs σ H Q)
    {σ : L2.St} {Q : VK} {env : EnvD} (sr : SRep G w) (er : ERep G w env σ) (p : Post G w ((pairsD ps env w.S).nox.bind f) (Rep G) Q (fun C dx H' => Wx C dx σ H'))
    (fin : ∀ (a : Addr) (w2 : Wd) (xs : List (D × D)) (vs : List (V × V)), w.H a = none → WX' [a] w w2 → SRep G w2 → a ∈ w2.tmp → w2.H a = some (.dK []) → RepP G w2 xs vs → Post G w (f xs w2.S) (Rep G) Q (fun C dx H' => Wx C dx σ H') →
      ∃ kvs : List (Key × V), vs = kvs.map (fun kv => (kV kv.1, kv.2)) ∧ kvs.length ≤ 15 ∧ Q (.ref a) (upd w2.H a (.dK (mergeK [] kvs)))) : tDisp trs σ w.H Q := by
  intro a ha
  obtain ⟨x0, s0, r0⟩ := tmp_on (o := .dK []) sr ha
  refine ht σ _ _ ⟨⟨w.mu, w.S, upd w.H a (.dK []), a :: w.tmp⟩, env, rfl, s0, ⟨er.len, fun i d e => let ⟨v, h1, h2⟩ := er.at' i d e; ⟨v, h1, r0 d v h2⟩⟩, ?_⟩
  show Post G _ (pairsD ps env w.S) (RepP G) _ _
  cases h : pairsD ps env w.S with
  | ok xs S' =>
    rw [h] at p
    intro vs w2 x2 e2 s2 r2
    subst e2
    have tm : a ∈ w2.tmp := x2.tmp' a (by simp)
    have hp : w2.H a = some (.dK []) := (x2.keep a _ upd_same (s0.tm a (by simp)).2 (by simp)).1
    exact ⟨hp, fin a w2 xs vs ha (WX'.trans x0 (WX'.wide x2)) s2 tm hp r2 p⟩
  | exc e S' => rw [h] at p; exact p.elim
  | bad => rw [h] at p; exact p.elim
theorem q_dic {ks : List (Option Expr)} {vs : List Expr} {ps : List (ED × ED)} (h : QP X G Wx pos ks vs ps) (hall : ks.all (·.isSome) = true) (hl : ks.length = vs.length) (h0 : ks ≠ []) (h15 : ks.length ≤ 15) : PE X (.Dict ks vs pos) (tE G (eDic ps) Wx) := by
  obtain ⟨trs, h1, h2⟩ := h.ex
  refine peI (pe_disp h1 hall hl h0 h15) fun σ H Q q => ?_
  obtain ⟨w, env, rfl, sr, er, p⟩ := q
  refine disp_mid h2 sr er p fun a w2 xs us ha x s2 tm hp r2 p => ?_
  split at p
  · rename_i kvs hk
    split at p
    · rename_i hz
      obtain ⟨ks', rfl, rk⟩ := r2.keyed hk
      have len : ∀ {kvs : List (Key × D)} {ks : List (Key × V)} {w : Wd}, RepKV G w kvs ks → ks.length = kvs.length := by
        intro kvs
        induction kvs with
        | nil => intro ks w h; have : ks = [] := h; subst this; rfl
        | cons p r ih => intro ks w h; obtain ⟨u, z, rfl, _, h2⟩ := h; simp [ih h2]
      refine ⟨ks', rfl, by rw [len rk]; exact hz, ?_⟩
      obtain ⟨us, e1, r3⟩ := (RepKV.merge rk (kvs := []) (vs := []) rfl).parts
      obtain ⟨x1, s1, f1, f2, nm⟩ := tmp_off (H' := upd w2.H a (.dK (mergeK [] ks'))) sr ha x s2 tm fun b hb => upd_ne hb
      refine p (.ref a) _ x1 rfl s1 ?_
      simp only [Rep]
      exact ⟨a, us, rfl, by rw [← e1]; exact upd_same, nm, by simp, f2 _ _ r3⟩
    · exact p.elim
  · exact p.elim
theorem q_dct {ks : List (Option Expr)} {vs : List Expr} {ps : List (ED × ED)} (h : QP X G Wx pos ks vs ps) (hall : ks.all (·.isSome) = true) (hl : ks.length = vs.length) (h0 : ks ≠ []) (h15 : ks.length ≤ 15) : PE X (.Dict ks vs pos) (tE G (eDct ps) Wx) := by
  obtain ⟨trs, h1, h2⟩ := h.ex
  refine peI (pe_disp h1 hall hl h0 h15) fun σ H Q q => ?_
  obtain ⟨w, env, rfl, sr, er, p⟩ := q
  refine disp_mid h2 sr er p fun a w2 xs us ha x s2 tm hp r2 p => ?_
  split at p
  · rename_i kvs hk
    split at p
    · rename_i hz
      obtain ⟨ks', rfl, rk⟩ := r2.keyed hk
      have len : ∀ {kvs : List (Key × D)} {ks : List (Key × V)} {w : Wd}, RepKV G w kvs ks → ks.length = kvs.length := by
        intro kvs
        induction kvs with
        | nil => intro ks w h; have : ks = [] := h; subst this; rfl
        | cons p r ih => intro ks w h; obtain ⟨u, z, rfl, _, h2⟩ := h; simp [ih h2]
      refine ⟨ks', rfl, by rw [len rk]; exact hz, ?_⟩
      have rm := RepKV.merge rk (kvs := []) (vs := []) rfl
      obtain ⟨x1, s1, f1, f2, nm⟩ := tmp_off (H' := fun b => if b = a then none else w2.H b) sr ha x s2 tm fun b hb => if_neg hb
      obtain ⟨us, e1, r3⟩ := rm.parts
      have back : ∀ {kvs : List (Key × D)} {us : List V} {w' : Wd}, RepL G w' (kvs.map (·.2)) us → RepKV G w' kvs ((kvs.map (·.1)).zip us) := by
        intro kvs
        induction kvs with
        | nil => intro us w' _; rfl
        | cons p r ih => intro us w' h; simp only [List.map_cons, RepL] at h; obtain ⟨v, r', rfl, h1, h2⟩ := h; exact ⟨v, _, rfl, h1, ih h2⟩
      have r4 := back (f2 _ _ r3)
      rw [← e1] at r4
      obtain ⟨x2, s2'⟩ := new_obj (w := ⟨w2.mu, w2.S, fun b => if b = a then none else w2.H b, w.tmp⟩) (p := a) (ob := .dK (mergeD [] kvs)) (o := .dK (mergeK [] ks')) s1 (if_pos rfl) fun w' x' e => ⟨_, e, RepKV.mono x' _ _ r4⟩
      have eH : upd (fun b => if b = a then none else w2.H b) a (.dK (mergeK [] ks')) = upd w2.H a (.dK (mergeK [] ks')) := by
        funext b
        unfold upd
        by_cases hb : b = a
        · rw [if_pos hb, if_pos hb]
        · rw [if_neg hb, if_neg hb]; exact if_neg hb
      have q := p (.ref a) _ (WX'.trans x1 x2) rfl s2' (by simp only [Rep]; exact ⟨a, by rw [← s1.len]; simp, rfl⟩)
      rw [← eH]
      exact q
    · exact p.elim
  · exact p.elim

/-! ### {} -/
def eDic0 : ED := fun _ S => .ok (.dic [] []) S
def eDct0 : ED := fun _ S => .ok (.obj S.length) (S ++ [.dK []])
theorem q_dic0 : PE X (.Dict [] [] pos) (tE G eDic0 Wx) := peI pe_dnewK fun σ H Q q => by
  obtain ⟨w, env, rfl, sr, er, p⟩ := q
  intro a ha
  obtain ⟨x, s, nm⟩ := new_ext (o := .dK []) sr ha
  exact p (.ref a) _ x rfl s (by simp only [Rep, RepL]; exact ⟨a, [], rfl, upd_same, nm, rfl, rfl⟩)
theorem q_dct0 : PE X (.Dict [] [] pos) (tE G eDct0 Wx) := peI pe_dnewK fun σ H Q q => by
  obtain ⟨w, env, rfl, sr, er, p⟩ := q
  intro a ha
  obtain ⟨x, s⟩ := new_obj (ob := .dK []) (o := .dK []) sr ha fun w' x e => ⟨[], e, rfl⟩
  exact p (.ref a) _ x rfl s (by simp only [Rep]; exact ⟨a, by rw [← sr.len]; simp, rfl⟩)

/-! ### methods of texts -/
def splitD : D → FN := fun x xs S => match x, xs with
  | .str a, [.str b] => if (b.length == 0) = false ∧ a.length + 2 ≤ sizeLine then .ok (.lst ((Txt.split a b).map .str)) S else .bad
  | _, _ => .bad
theorem c_split : CalmM splitD := fun x xs S => by unfold splitD; repeat' split
                                                   all_goals trivial
theorem RepL_strs {w : Wd} : ∀ {ns : List Str} {vs : List V}, RepL G w (ns.map .str) vs ↔ vs = ns.map V.str
  | [], vs => by simp [RepL]
  | n :: ns, vs => by
    simp only [List.map_cons, RepL, Rep]
    constructor
    · rintro ⟨v, r, rfl, rfl, h⟩; rw [RepL_strs.mp h]
    · rintro rfl; exact ⟨_, _, rfl, rfl, RepL_strs.mpr rfl⟩
theorem o_split : MtR X "str.split" (rM G splitD) := mtI2 mt_split fun x xs H Q q => by
  obtain ⟨w, d, ds, rfl, sr, r1, rl, p⟩ := q
  unfold splitD at p
  split at p
  · rename_i a b
    split at p
    · rename_i hz
      simp only [Rep] at r1
      simp only [RepL, Rep] at rl
      obtain ⟨v, r', rfl, rfl, rfl⟩ := rl
      exact ⟨a, b, r1, rfl, hz.1, hz.2, fun p' hp' => new_lst (S := w.S) sr (RepL_strs.mpr rfl) p p' hp'⟩
    · exact p.elim
  · exact p.elim
end
end L3
set_option Elab.async false
set_option linter.all false
set_option maxRecDepth 100000
/-! L3M: constants of the written part; the end of a law. -/
namespace L3
open PySem PySem.Spec PyProof.Rows L2

section
variable {G : GC} {x : Str} {a : Addr}
/-- a written value stands for a plain one -/
def KVal (G : GC) (d : D) (u : Value) : Prop := ∃ v, RelV v u ∧ ∀ w, Rep G w d v
def KVals (G : GC) : List D → List Value → Prop
  | [], us => us = []
  | d :: ds, us => ∃ u r, us = u :: r ∧ KVal G d u ∧ KVals G ds r
theorem grep_of {d : D} {u : Value} (h : G.mg x = some u) (k : KVal G d u) : GRep G x d := by
  obtain ⟨v, r, f⟩ := k
  exact ⟨u, v, h, r, f⟩
theorem kv_int {i : Int} {t : PySem.Tok} : KVal G (.int i) (.int i t) := ⟨.int i, ⟨t, rfl⟩, fun w => by simp [Rep]⟩
theorem kv_str {i : Str} {t : PySem.Tok} : KVal G (.str i) (.str i t) := ⟨.str i, ⟨t, rfl⟩, fun w => by simp [Rep]⟩
theorem kv_bl {b : Bool} : KVal G (.bl b) (.bool b) := ⟨.bl b, rfl, fun w => by simp [Rep]⟩
theorem kv_non : KVal G .non .none := ⟨.non, rfl, fun w => by simp [Rep]⟩
theorem kv_fn {u : Value} (h : G.mg x = some (.ref a)) : KVal G (.glb x) (.ref a) := ⟨.ref a, rfl, fun w => by simp only [Rep]; exact ⟨_, h, rfl⟩⟩
theorem kvs_nil : KVals G [] [] := rfl
theorem kvs_cons {d : D} {ds : List D} {u : Value} {us : List Value} (h : KVal G d u) (r : KVals G ds us) : KVals G (d :: ds) (u :: us) := ⟨u, us, rfl, h, r⟩
theorem KVals.vals : ∀ {ds : List D} {us : List Value}, KVals G ds us → ∃ vs, Vals vs us ∧ ∀ w, RepL G w ds vs
  | [], us, h => by
    have : us = [] := h
    subst this; exact ⟨[], .nil, fun w => by simp [RepL]⟩
  | d :: ds, us, h => by
    obtain ⟨u, r, rfl, ⟨v, h1, h2⟩, h3⟩ := h
    obtain ⟨vs, q1, q2⟩ := KVals.vals h3
    exact ⟨v :: vs, .cons h1 q1, fun w => by simp only [RepL]; exact ⟨v, vs, rfl, h2 w, q2 w⟩⟩
theorem KVals.len : ∀ {ds : List D} {us : List Value}, KVals G ds us → us.length = ds.length
  | [], us, h => by
    have : us = [] := h
    subst this; rfl
  | d :: ds, us, h => by
    obtain ⟨u, r, rfl, _, h3⟩ := h
    simp [KVals.len h3]
theorem kv_tup {ds : List D} {us : List Value} {dd : Option Addr} {n : Nat} {sl : Array (Option Value)} (l : G.K.lookup a = some ⟨.type "tuple", dd, .seq us.toArray n, sl⟩) (h : KVals G ds us) (hz : ds.length ≤ 1000 := by decide) : KVal G (.tup ds) (.ref a) := by
  obtain ⟨vs, h1, h2⟩ := h.vals
  refine ⟨.ref a, rfl, fun w => ?_⟩
  simp only [Rep]
  exact ⟨a, vs, rfl, .inr ⟨_, us.toArray, n, l, rfl, rfl, by simp only [List.size_toArray]; rw [h.len, sizeLine_eq]; omega, by simpa using h1⟩, h2 w⟩
/-- the entries of a written dict with text keys -/
def KEnt (G : GC) : List DictEntry → List Str → List Value → Prop
  | [], ks, us => ks = [] ∧ us = []
  | e :: es, ks, us => ∃ k kr u ur t, ks = k :: kr ∧ us = u :: ur ∧ e.key = .str k t ∧ e.val = u ∧ e.hash = PyData.keyHash G.w.params k ∧ KEnt G es kr ur
theorem ke_nil : KEnt G [] [] [] := ⟨rfl, rfl⟩
theorem ke_cons {es : List DictEntry} {k : Str} {ks : List Str} {u : Value} {us : List Value} {t : PySem.Tok} {h : Int} (hh : h = PyData.keyHash G.w.params k) (r : KEnt G es ks us) : KEnt G (⟨h, .str k t, u⟩ :: es) (k :: ks) (u :: us) :=
  ⟨k, ks, u, us, t, rfl, rfl, rfl, rfl, hh, r⟩
theorem KEnt.lit : ∀ {es : List DictEntry} {ks : List Str} {us : List Value}, KEnt G es ks us → PySem.W.KeysLit G.w.params es
  | [], _, _, _ => trivial
  | e :: es, _, _, ⟨k, kr, u, ur, t, _, _, h1, _, h2, h3⟩ => ⟨⟨k, t, h1, h2⟩, KEnt.lit h3⟩
theorem KEnt.look (z : Str) : ∀ {es : List DictEntry} {ks : List Str} {us : List Value}, KEnt G es ks us →
    (match es.find? (·.key.isStr z) with
      | some e => (ks.zip us).lookup z = some e.val
      | none => (ks.zip us).lookup z = none ∧ es.any (·.refKey) = false)
  | [], _, _, ⟨rfl, rfl⟩ => ⟨rfl, rfl⟩
  | e :: es, _, _, ⟨k, kr, u, ur, t, rfl, rfl, h1, h2, h3, h4⟩ => by
    have ih := KEnt.look z h4
    have ek : e.key.isStr z = (z == k) := by
      rw [h1]
      show (Value.str k t).isStr z = _
      rw [PySem.W.isStr_of]
      by_cases hz : z = k
      · subst hz; simp [Value.isStrOf]
      · have : (z == k) = false := by simpa using hz
        rw [this]
        simp [Value.isStrOf]
        exact fun e => hz e.symm
    have rk : e.refKey = false := by simp [DictEntry.refKey, h1]
    simp only [List.find?_cons, ek, List.zip_cons_cons, List.lookup]
    cases hz : (z == k) with
    | true => simp only; rw [h2]
    | false =>
      simp only
      cases hf : es.find? (·.key.isStr z) with
      | some e' => rw [hf] at ih; exact ih
      | none => rw [hf] at ih; exact ⟨ih.1, by simp [List.any_cons, rk, ih.2]⟩
theorem kv_kd {ks : List Str} {ds : List D} {es : List DictEntry} {us : List Value} {n : Nat} (l : G.K.lookup a = some ⟨.type "dict", none, .dict es.toArray n, #[]⟩) (low : (a == sysModules) = false) (he : KEnt G es ks us) (h : KVals G ds us) (hl : ks.length = ds.length := by rfl) : KVal G (.kd ks ds) (.ref a) := by
  obtain ⟨vs, h1, h2⟩ := h.vals
  refine ⟨.ref a, rfl, fun w => ?_⟩
  simp only [Rep]
  refine ⟨a, es.toArray, n, vs, us, rfl, ⟨l, by simpa using he.lit, low⟩, fun z => ?_, hl, h1, h2 w⟩
  unfold PySem.W.nsIn
  rw [l]
  have := he.look z
  simp only
  cases hf : es.find? (·.key.isStr z) with
  | some e => rw [hf] at this; simp only at this ⊢; rw [this]
  | none => rw [hf] at this; simp only at this ⊢; rw [this.1, this.2]; rfl

/-! ### the law's own call -/
/-- what a law's def is asked -/
def spLaw (K : PySem.W.Frag) : Sp := fun vs H Q _ => ∃ (a : Addr) (ns : List Int), vs = [.ref a] ∧ ns.length ≤ 63 ∧ Only H ∧ SqL K H a (ns.map V.int) ∧ ∀ H', Q (.bl true) H'
theorem law_ok {P : Program} {w : World} {base : Heap} {k : Nat} {f : Addr} {fd : FuncData} {x : Str} {F : FN} (hF : FnOk P w G.K G.mg base (L2.CX P w) k f fd [x] (spOf G F)) (true_ : ∀ ns : List Int, ns.length ≤ 63 → ∃ S, F [.scr ns] [] = .ok (.bl true) S) :
    FnOk P w G.K G.mg base (L2.CX P w) k f fd [x] (spLaw G.K) := by
  refine hF.imp fun vs H Q E h => ?_
  obtain ⟨a, ns, rfl, hl, ho, hS, hQ⟩ := h
  obtain ⟨S, e⟩ := true_ ns hl
  refine ⟨⟨[], [], H, []⟩, [.scr ns], rfl, ⟨rfl, fun n m a o o' h => by simp at h, fun n o a h => by simp at h, fun a h => by simp at h⟩, ?_, ?_⟩
  · simp only [RepL, Rep]
    refine ⟨.ref a, [], rfl, ⟨a, rfl, ?_⟩, rfl⟩
    rcases hS with h | h
    · exact .inl ⟨h, fun m => m.elim (fun ⟨n, o, h, _⟩ => by simp at h) fun h => by simp at h⟩
    · exact .inr h
  · rw [e]
    intro v w' x hs s r
    simp only [Rep] at r
    subst r
    exact hQ _
theorem cx_none {P : Program} {w : World} {H : Hp} {s : Shared} {e : Value} {s' : Shared} (h : L2.CX P w [] H s (fun _ _ _ => False) e s') : False := by
  obtain ⟨_, _, _, _, _, _, _, _, _, _, _, _, z⟩ := h
  exact z
/-- a def of the top -/
theorem funD_mk {K : PySem.W.Frag} {x qual : Str} {params : Arguments} {body : List Stmt} {scope : Scope} {kws : List (Str × V)} {f : Addr} {oc : Value} {od an : Option Addr} {osl : Array (Option Value)} {kV doc pm cdv ct : Value}
    (l : K.lookup f = some ⟨oc, od, .func (PySem.W.fnOf x qual params body scope .none kV doc pm an cdv ct), osl⟩) (c : PySem.W.codeIn K cdv qual = true) (k : PySem.W.keepIn K (.ref f) = true) (kw : KwdV K kV kws) :
    FunD K x qual params body scope [] kws f (PySem.W.fnOf x qual params body scope .none kV doc pm an cdv ct) :=
  ⟨⟨oc, od, .none, kV, doc, pm, an, cdv, ct, osl, rfl, l, c, .inl ⟨rfl, rfl⟩, kw⟩, k⟩
theorem kw_none {K : PySem.W.Frag} {kV : Value} : KwdV K kV [] := .inl rfl
def KwL (K : PySem.W.Frag) (a : Addr) (l : List (Str × V)) : Prop := ∀ q ∈ l, ∃ u, PySem.W.nsIn K a q.1 = some (some u) ∧ RelV q.2 u
theorem kw_nil {K : PySem.W.Frag} : KwL K a [] := fun q h => by simp at h
theorem kw_cons {K : PySem.W.Frag} {l : List (Str × V)} {y : Str} {v : V} {u : Value} (e : PySem.W.nsIn K a y = some (some u)) (r : RelV v u) (t : KwL K a l) : KwL K a ((y, v) :: l) := fun q h => by
  rcases List.mem_cons.mp h with rfl | h
  · exact ⟨u, e, r⟩
  · exact t q h
theorem kw_some {K : PySem.W.Frag} {l : List (Str × V)} (h : KwL K a l) : KwdV K (.ref a) l := .inr ⟨a, rfl, h⟩
theorem walk {l : PySem.W.OpenLaw} {q : Program} {loose : List Str} {XP : (Str → Option Value) → Heap → Prop} {YP : World → Heap → Prop} {d : DefRec} {K : Params → PySem.W.Frag} {k : Nat} {x : Str} (hn : l.most = some 63) (hdf : d.params.defaults = []) (hr : Room k callerA)
    (hY : ∀ (w : World) (h : Heap), YP w h → (K w.params).In h)
    (F : ∀ (w : World) (mg : Str → Option Value) (fa : Addr) (h : Heap), (K w.params).In h → h.Ns mainGlobals mg → mg d.name = some (.ref fa) →
      ∃ fd : FuncData, (∀ (s : Shared) (u : Value), BindsTo s fd ⟨[u], []⟩ [(x, u)]) ∧ ∀ base : Heap, (K w.params).In base → base.Ns mainGlobals mg → FnOk l.prog w (K w.params) mg base (L2.CX l.prog w) k fa fd [x] (spLaw (K w.params))) :
    PySem.W.WalkO q loose XP YP l.row.toRowW d [] (fun f vs => PySem.call f vs) :=
  L2.walk_of (n := 63) (k := k) (x := x) (CX := fun w => L2.CX l.prog w) (sp := fun w => spLaw (K w.params)) hn (by decide) hdf hr hY F (fun _ _ a ns hl ho hS => ⟨a, ns, rfl, hl, ho, hS, fun _ => rfl⟩) fun _ _ _ _ _ z => cx_none z
end
end L3
set_option Elab.async false
set_option linter.all false
set_option maxRecDepth 100000
/-! L3N: what an answer satisfies (the plain laws are shown by these). -/
namespace L3
open PySem
/-- an equation that simp does not take as one by definition (the kernel would run the terms) -/
theorem nrfl {α : Sort u} {a b : α} (h : a = b) : a = b := h

/-- two lists, item by item -/
inductive All2 {α β : Type} (P : α → β → Prop) : List α → List β → Prop where
  | nil : All2 P [] []
  | cons {x y xs ys} : P x y → All2 P xs ys → All2 P (x :: xs) (y :: ys)
theorem All2.imp {α β : Type} {P R : α → β → Prop} {xs ys} (h : All2 P xs ys) (m : ∀ x ∈ xs, ∀ y, P x y → R x y) : All2 R xs ys := by
  induction h with
  | nil => exact .nil
  | cons p _ ih => exact .cons (m _ (List.mem_cons_self ..) _ p) (ih fun x hx => m x (List.mem_cons_of_mem _ hx))
theorem All2.map_r {α β γ : Type} {P : α → γ → Prop} {f : β → γ} {xs : List α} {ys : List β} (h : All2 (fun x y => P x (f y)) xs ys) : All2 P xs (ys.map f) := by
  induction h with
  | nil => exact .nil
  | cons p _ ih => exact .cons p ih
theorem All2.app {α β : Type} {P : α → β → Prop} {xs xs' ys ys'} (h : All2 P xs ys) (g : All2 P xs' ys') : All2 P (xs ++ xs') (ys ++ ys') := by
  induction h with
  | nil => exact g
  | cons p _ ih => exact .cons p ih
theorem All2.len {α β : Type} {P : α → β → Prop} {xs ys} (h : All2 P xs ys) : ys.length = xs.length := by induction h <;> simp_all
theorem All2.all {α β : Type} {P : α → β → Prop} {R : β → Prop} {xs ys} (h : All2 P xs ys) (m : ∀ x ∈ xs, ∀ y, P x y → R y) : ∀ y ∈ ys, R y := by
  induction h with
  | nil => intro y h; cases h
  | cons p _ ih =>
    intro y h
    rcases List.mem_cons.mp h with rfl | h
    · exact m _ (List.mem_cons_self ..) _ p
    · exact ih (fun x hx => m x (List.mem_cons_of_mem _ hx)) y h
/-- an inductive predicate: nothing unfolds it (a term to be run is not run by a look at its goal) -/
inductive R.sat {α : Type} : R α → (α → Store → Prop) → Prop where
  | mk {a : α} {S : Store} {Q : α → Store → Prop} (h : Q a S) : R.sat (.ok a S) Q
section
variable {α β : Type} {S : Store} {env : EnvD} {d : D}
@[simp] theorem sat_ok {a : α} {Q : α → Store → Prop} : (R.ok a S).sat Q = Q a S := propext ⟨fun h => by cases h; assumption, .mk⟩
@[simp] theorem sat_bad {Q : α → Store → Prop} : (R.bad : R α).sat Q = False := propext ⟨fun h => (by cases h), False.elim⟩
@[simp] theorem sat_exc {e : Ex} {Q : α → Store → Prop} : (R.exc e S : R α).sat Q = False := propext ⟨fun h => (by cases h), False.elim⟩
theorem sat_bind {r : R α} {f : α → Store → R β} {Q : β → Store → Prop} : (r.bind f).sat Q = r.sat fun a S => (f a S).sat Q := by cases r <;> simp [R.bind]
theorem sat_mono {r : R α} {Q Q' : α → Store → Prop} (h : r.sat Q) (m : ∀ a S, Q a S → Q' a S) : r.sat Q' := by cases h with | mk h => exact .mk (m _ _ h)
theorem sat_ex {r : R α} {Q : α → Store → Prop} : r.sat Q ↔ ∃ a S, r = .ok a S ∧ Q a S :=
  ⟨fun h => by cases h with | mk h => exact ⟨_, _, rfl, h⟩, fun ⟨_, _, e, h⟩ => by rw [e]; exact .mk h⟩
theorem sat_if {c : Prop} [Decidable c] {a b : R α} {Q : α → Store → Prop} : (if c then a else b).sat Q = if c then a.sat Q else b.sat Q := by split <;> rfl
theorem sat_if_bad {c : Prop} [Decidable c] {a : R α} {Q : α → Store → Prop} : (if c then a else .bad).sat Q = (c ∧ a.sat Q) := by by_cases h : c <;> simp [h]
def blD (x : D) (S : Store) : R Bool := match x with
  | .bl k => .ok k S
  | _ => .bad
@[simp] theorem blD_bl {k : Bool} : blD (.bl k) S = .ok k S := nrfl rfl
theorem of_sat {r : R α} {x : α} (h : r.sat fun d S' => d = x ∧ S' = S) : r = .ok x S := by
  obtain ⟨a, S', e, rfl, rfl⟩ := sat_ex.mp h
  exact e
theorem to_sat {r : R α} {x : α} {Q : α → Store → Prop} (h : r = .ok x S) (q : Q x S) : r.sat Q := by rw [h]; exact .mk q
/-! expressions -/
variable {Q : D → Store → Prop} {QB : Bool → Store → Prop} {QL : List D → Store → Prop}
@[simp] theorem sat_eVar {i : Nat} : (eVar i env S).sat Q = match env[i]? with
    | some (some d) => Q d S
    | _ => False := by unfold eVar; cases env[i]? with
  | none => simp
  | some o => cases o <;> simp
@[simp] theorem sat_eK : (eK d env S).sat Q = Q d S := sat_ok
@[simp] theorem sat_e1 {f : L3.F1} {a : ED} : (e1 f a env S).sat Q = (a env S).sat fun x S1 => (f x S1).sat Q := sat_bind
@[simp] theorem sat_e2 {f : L3.F2} {a b : ED} : (e2 f a b env S).sat Q = (a env S).sat fun x S1 => (b env S1).sat fun y S2 => (f x y S2).sat Q := by unfold e2; rw [sat_bind]; simp only [sat_bind]
@[simp] theorem sat_aNil : (aNil env S).sat QL = QL [] S := sat_ok
@[simp] theorem sat_aCons {a : ED} {r : AD} : (aCons a r env S).sat QL = (a env S).sat fun x S1 => (r env S1).sat fun xs S2 => QL (x :: xs) S2 := by unfold aCons; rw [sat_bind]; simp only [sat_bind, sat_ok]
@[simp] theorem sat_eN {f : FN} {a : AD} : (eN f a env S).sat Q = (a env S).sat fun xs S1 => (f xs S1).sat Q := sat_bind
@[simp] theorem sat_eIf {c : TD} {a b : ED} : (eIf c a b env S).sat Q = (c env S).sat fun k S1 => if k = true then (a env S1).sat Q else (b env S1).sat Q := by
  unfold eIf; rw [sat_bind]; congr; funext k S1; cases k <;> simp
@[simp] theorem sat_tOfE {a : ED} : (tOfE a env S).sat QB = (a env S).sat fun x S1 => (blD x S1).sat QB := by
  unfold tOfE; rw [sat_bind]; congr
@[simp] theorem sat_tTruth {a : ED} : (tTruth a env S).sat QB = (a env S).sat fun x S1 => (truthD x S1).sat QB := sat_bind
@[simp] theorem truthD_bl {k : Bool} : truthD (.bl k) S = .ok k S := nrfl rfl
@[simp] theorem truthD_non : truthD .non S = .ok false S := nrfl rfl
@[simp] theorem truthD_int {i : Int} : truthD (.int i) S = .ok (i != 0) S := nrfl rfl
@[simp] theorem truthD_tup {l : List D} : truthD (.tup l) S = .ok (!l.isEmpty) S := nrfl rfl
@[simp] theorem truthD_lst {l : List D} : truthD (.lst l) S = .ok (!l.isEmpty) S := nrfl rfl
@[simp] theorem sat_tNot {a : TD} : (tNot a env S).sat QB = (a env S).sat fun k S1 => QB (!k) S1 := by unfold tNot; rw [sat_bind]; simp only [sat_ok]
@[simp] theorem sat_tAnd {a b : TD} : (tAnd a b env S).sat QB = (a env S).sat fun k S1 => if k = true then (b env S1).sat QB else QB false S1 := by
  unfold tAnd; rw [sat_bind]; congr; funext k S1; cases k <;> simp
@[simp] theorem sat_tOr {a b : TD} : (tOr a b env S).sat QB = (a env S).sat fun k S1 => if k = true then QB true S1 else (b env S1).sat QB := by
  unfold tOr; rw [sat_bind]; congr; funext k S1; cases k <;> simp
@[simp] theorem sat_eNot {a : ED} : (eNot a env S).sat Q = (a env S).sat fun x S1 => (blD x S1).sat fun k S2 => Q (.bl (!k)) S2 := by
  unfold eNot; rw [sat_bind, sat_tOfE]; simp only [sat_ok]
@[simp] theorem sat_eAnd {a b : ED} : (eAnd a b env S).sat Q = (a env S).sat fun x S1 => (blD x S1).sat fun k S2 => if k = true then (b env S2).sat Q else Q (.bl false) S2 := by
  unfold eAnd; rw [sat_bind, sat_tOfE]; congr; funext x S1; congr; funext k S2; cases k <;> simp
@[simp] theorem sat_eOr {a b : ED} : (eOr a b env S).sat Q = (a env S).sat fun x S1 => (blD x S1).sat fun k S2 => if k = true then Q (.bl true) S2 else (b env S2).sat Q := by
  unfold eOr; rw [sat_bind, sat_tOfE]; congr; funext x S1; congr; funext k S2; cases k <;> simp
@[simp] theorem sat_eChain {f g : L3.F2} {a b c : ED} : (eChain f g a b c env S).sat Q = (a env S).sat fun x S1 => (b env S1).sat fun y S2 => (f x y S2).sat fun r S3 => (blD r S3).sat fun k S4 => if k = true then (c env S4).sat fun z S5 => (g y z S5).sat Q else Q (.bl false) S4 := by
  unfold eChain; rw [sat_bind]; simp only [sat_bind]; congr; funext x S1; congr; funext y S2; congr; funext r S3
  cases r with
  | bl k => cases k <;> simp [sat_bind]
  | _ => simp [blD]
@[simp] theorem sat_eBM {T : String} {f : D → FN} {o : ED} {a : AD} : (eBM T f o a env S).sat Q = (o env S).sat fun x S1 => (mtD x S1 = some T ∧ (a env S1).sat fun xs S2 => (f x xs S2).sat Q) := by
  unfold eBM; rw [sat_bind]; congr; funext x S1; rw [sat_if_bad, sat_bind]
@[simp] theorem sat_eKw {f : List D → FN} {a b : AD} : (eKw f a b env S).sat Q = (a env S).sat fun xs S1 => (b env S1).sat fun zs S2 => (f xs zs S2).sat Q := by unfold eKw; rw [sat_bind]; simp only [sat_bind]
@[simp] theorem sat_eFnL {i : Nat} {x : Str} {F : FN} {a : AD} : (eFnL i x F a env S).sat Q = match env[i]? with
    | some (some (.glb y)) => y = x ∧ (a env S).sat fun xs S1 => (F xs S1).sat Q
    | _ => False := by
  unfold eFnL
  cases env[i]? with
  | none => simp
  | some o =>
    cases o with
    | none => simp
    | some d =>
      cases d with
      | glb y => simp only []; rw [sat_if_bad, sat_bind]
      | _ => simp
@[simp] theorem callK_eq {F : FN} {dds xs : List D} : callK F dds xs S = F (xs ++ dds) S := nrfl rfl
@[simp] theorem sat_iSeq {a : ED} : (iSeq a env S).sat QL = (a env S).sat fun x S1 => (itemsD x S1).sat QL := sat_bind
@[simp] theorem sat_iArgs {f : List D → Store → R (List D)} {a : AD} : (iArgs f a env S).sat QL = (a env S).sat fun xs S1 => (f xs S1).sat QL := sat_bind
@[simp] theorem itemsD_lst {l : List D} : itemsD (.lst l) S = .ok l S := nrfl rfl
@[simp] theorem itemsD_tup {l : List D} : itemsD (.tup l) S = .ok l S := nrfl rfl
@[simp] theorem sat_range1 {j : Int} : (range1 [.int j] S).sat QL = (okRng j = true ∧ QL (rangeD 0 j) S) := by unfold range1; simp only []; rw [sat_if_bad, sat_ok]
@[simp] theorem sat_range2 {i j : Int} : (range2 [.int i, .int j] S).sat QL = ((okRng i && okRng j) = true ∧ QL (rangeD i j) S) := by unfold range2; simp only []; rw [sat_if_bad, sat_ok]
@[simp] theorem sat_mkTup {xs : List D} : (mkTup xs S).sat Q = (xs.length ≤ sizeLine ∧ Q (.tup xs) S) := by unfold mkTup; rw [sat_if_bad, sat_ok]
@[simp] theorem sat_mkLst {xs : List D} : (mkLst xs S).sat Q = (xs.length ≤ sizeLine ∧ Q (.lst xs) S) := by unfold mkLst; rw [sat_if_bad, sat_ok]
@[simp] theorem sat_mkObj {xs : List D} : (mkObj xs S).sat Q = (xs.length ≤ sizeLine ∧ Q (.obj S.length) (S ++ [.lst xs])) := by unfold mkObj; rw [sat_if_bad, sat_ok]
/-! a list comprehension -/
/-- what one turn gives: kept or not, under the turn's own wish -/
def lcSat (g : GD) (tt : TD) (te : ED) (env : EnvD) : List D → Store → (List D → Store → Prop) → Prop
  | [], S, Q => Q [] S
  | x :: xs, S, Q => match g x env S with
    | .nx env1 S1 => (tt env1 S1).sat fun k S2 => if k = true then (te env1 S2).sat fun y S3 => lcSat g tt te env xs S3 fun ys S4 => Q (y :: ys) S4 else lcSat g tt te env xs S2 Q
    | _ => False
theorem sat_nox {r : R α} {Q : α → Store → Prop} : r.nox.sat Q = r.sat Q := by cases r <;> simp [R.nox]
theorem sat_lcL {g : GD} {tt : TD} {te : ED} {env : EnvD} : ∀ {xs : List D} {S : Store} {Q : List D → Store → Prop}, (lcL g tt te env xs S).sat Q = lcSat g tt te env xs S Q
  | [], _, _ => sat_ok
  | x :: xs, S, Q => by
    unfold lcL lcSat
    cases g x env S with
    | nx env1 S1 =>
      simp only
      rw [sat_bind, sat_nox]
      congr; funext k S2
      cases k with
      | true => simp only [if_true]; rw [sat_bind, sat_nox]; congr; funext y S3; rw [sat_bind, sat_lcL]; simp only [sat_ok]
      | false => simp only [Bool.false_eq_true, if_false]; exact sat_lcL
    | _ => simp
theorem sat_eLc {mi : ID} {vs : List Nat} {g : GD} {tt : TD} {te : ED} : (eLc mi vs g tt te env S).sat Q = (mi env S).sat fun xs S1 => (xs.length ≤ sizeLine ∧ lcSat g tt te (wipeD env vs) xs S1 fun ys S2 => Q (.lst ys) S2) := by
  unfold eLc; rw [sat_bind]; congr; funext xs S1; rw [sat_if_bad, sat_bind, sat_lcL]; simp only [sat_ok]
theorem lcSat_mono {g : GD} {tt : TD} {te : ED} {env : EnvD} : ∀ {xs : List D} {S : Store} {Q Q' : List D → Store → Prop}, lcSat g tt te env xs S Q → (∀ a S, Q a S → Q' a S) → lcSat g tt te env xs S Q'
  | [], _, _, _, h, m => m _ _ h
  | x :: xs, S, Q, Q', h, m => by
    unfold lcSat at h ⊢
    revert h
    cases g x env S with
    | nx env1 S1 =>
      simp only
      refine fun h => sat_mono h fun k S2 h => ?_
      cases k with
      | true => simp only [if_true] at h ⊢; exact sat_mono h fun y S3 h => lcSat_mono h fun ys S4 h => m _ _ h
      | false => simp only [Bool.false_eq_true, if_false] at h ⊢; exact lcSat_mono h m
    | _ => exact fun h => h
/-- with a rule for the turns: from x and the store, an answer y and a store, by I (what holds of the store between turns) and P x y -/
theorem lc_rule {i : Nat} {te : ED} {env : EnvD} (I : Store → Prop) (P : D → D → Prop) : ∀ {xs : List D} {S : Store} {Q : List D → Store → Prop},
    I S → (∀ x ∈ xs, ∀ S, I S → (te (env.set i (some x)) S).sat fun y S' => P x y ∧ I S') → (∀ ys S', I S' → All2 P xs ys → Q ys S') → lcSat (gName i) tYesD te env xs S Q
  | [], S, Q, hI, ht, hQ => hQ [] S hI .nil
  | x :: xs, S, Q, hI, ht, hQ => by
    unfold lcSat
    simp only [gName, tYesD, sat_ok, if_true]
    refine sat_mono (ht x (List.mem_cons_self ..) S hI) fun y S3 h => ?_
    exact lc_rule I P h.2 (fun x hx => ht x (List.mem_cons_of_mem _ hx)) fun ys S' h1 h2 => hQ _ _ h1 (.cons h.1 h2)
/-- where the turns leave the store alone and the answer is a function of the item -/
theorem lc_map {i : Nat} {te : ED} {env : EnvD} (f : D → D) {xs : List D} {S : Store} {Q : List D → Store → Prop}
    (ht : ∀ x ∈ xs, (te (env.set i (some x)) S).sat fun y S' => y = f x ∧ S' = S) (hQ : Q (xs.map f) S) : lcSat (gName i) tYesD te env xs S Q := by
  induction xs generalizing Q with
  | nil => exact hQ
  | cons x xs ih =>
    unfold lcSat
    simp only [gName, tYesD, sat_ok, if_true]
    refine sat_mono (ht x (List.mem_cons_self ..)) fun y S' h => ?_
    obtain ⟨rfl, rfl⟩ := h
    exact ih (fun x hx => ht x (List.mem_cons_of_mem _ hx)) hQ
/-- the same, item by item -/
theorem lc_two {i : Nat} {te : ED} {env : EnvD} {xs ys : List D} {S : Store} {Q : List D → Store → Prop}
    (ht : All2 (fun x y => (te (env.set i (some x)) S).sat fun z S' => z = y ∧ S' = S) xs ys) (hQ : Q ys S) : lcSat (gName i) tYesD te env xs S Q := by
  induction ht generalizing Q with
  | nil => exact hQ
  | @cons x y xs ys p _ ih =>
    unfold lcSat
    simp only [gName, tYesD, sat_ok, if_true]
    refine sat_mono p fun z S' h => ?_
    obtain ⟨rfl, rfl⟩ := h
    exact ih hQ
/-! statements -/
end
inductive SR.sat : SR → (EnvD → Store → Prop) → (D → Store → Prop) → (EnvD → Store → Prop) → (EnvD → Store → Prop) → Prop where
  | nx {e S} {N : EnvD → Store → Prop} {T : D → Store → Prop} {B C : EnvD → Store → Prop} (h : N e S) : SR.sat (.nx e S) N T B C
  | ret {d S} {N : EnvD → Store → Prop} {T : D → Store → Prop} {B C : EnvD → Store → Prop} (h : T d S) : SR.sat (.ret d S) N T B C
  | brk {e S} {N : EnvD → Store → Prop} {T : D → Store → Prop} {B C : EnvD → Store → Prop} (h : B e S) : SR.sat (.brk e S) N T B C
  | ct {e S} {N : EnvD → Store → Prop} {T : D → Store → Prop} {B C : EnvD → Store → Prop} (h : C e S) : SR.sat (.ct e S) N T B C
section
variable {S : Store} {env : EnvD} {d : D} {N B C : EnvD → Store → Prop} {T : D → Store → Prop} {Q : D → Store → Prop}
@[simp] theorem ssat_nx : (SR.nx env S).sat N T B C = N env S := propext ⟨fun h => by cases h; assumption, .nx⟩
@[simp] theorem ssat_ret : (SR.ret d S).sat N T B C = T d S := propext ⟨fun h => by cases h; assumption, .ret⟩
@[simp] theorem ssat_brk : (SR.brk env S).sat N T B C = B env S := propext ⟨fun h => by cases h; assumption, .brk⟩
@[simp] theorem ssat_ct : (SR.ct env S).sat N T B C = C env S := propext ⟨fun h => by cases h; assumption, .ct⟩
@[simp] theorem ssat_bad : SR.bad.sat N T B C = False := propext ⟨fun h => (by cases h), False.elim⟩
@[simp] theorem ssat_exc {e : Ex} : (SR.exc e env S).sat N T B C = False := propext ⟨fun h => (by cases h), False.elim⟩
theorem ssat_toS {α : Type} {r : R α} {k : α → Store → SR} : (r.toS env k).sat N T B C = r.sat fun a S => (k a S).sat N T B C := by cases r <;> simp [R.toS]
theorem ssat_mono {r : SR} {N' B' C' : EnvD → Store → Prop} {T' : D → Store → Prop} (h : r.sat N T B C) (hN : ∀ e S, N e S → N' e S) (hT : ∀ d S, T d S → T' d S) (hB : ∀ e S, B e S → B' e S) (hC : ∀ e S, C e S → C' e S) : r.sat N' T' B' C' := by
  cases h with
  | nx h => exact .nx (hN _ _ h)
  | ret h => exact .ret (hT _ _ h)
  | brk h => exact .brk (hB _ _ h)
  | ct h => exact .ct (hC _ _ h)
@[simp] theorem ssat_skip : (sSkip env S).sat N T B C = N env S := ssat_nx
@[simp] theorem ssat_seq {a b : SD} : (sSeq a b env S).sat N T B C = (a env S).sat (fun e S => (b e S).sat N T B C) T B C := by
  unfold sSeq; cases a env S <;> simp
@[simp] theorem ssat_if {c : TD} {a b : SD} : (sIf c a b env S).sat N T B C = (c env S).sat fun k S1 => if k = true then (a env S1).sat N T B C else (b env S1).sat N T B C := by
  unfold sIf; rw [ssat_toS]; congr; funext k S1; cases k <;> simp
@[simp] theorem ssat_sRet {a : ED} : (sRet a env S).sat N T B C = (a env S).sat T := by unfold sRet; rw [ssat_toS]; simp only [ssat_ret]
@[simp] theorem ssat_sExpr {a : ED} : (sExpr a env S).sat N T B C = (a env S).sat fun _ S1 => N env S1 := by unfold sExpr; rw [ssat_toS]; simp only [ssat_nx]
@[simp] theorem ssat_sBrk : (sBrk env S).sat N T B C = B env S := ssat_brk
@[simp] theorem ssat_sCt : (sCt env S).sat N T B C = C env S := ssat_ct
@[simp] theorem ssat_asg {a : ED} {g : GD} : (sAsg a g env S).sat N T B C = (a env S).sat fun d S1 => (g d env S1).sat N T B C := by unfold sAsg; rw [ssat_toS]
@[simp] theorem gName_eq {i : Nat} : gName i d env S = .nx (env.set i (some d)) S := nrfl rfl
@[simp] theorem gTup_tup {is : List Nat} {l : List D} : gTup is (.tup l) env S = gNames is l env S := nrfl rfl
@[simp] theorem gNames_nil : gNames [] [] env S = .nx env S := nrfl rfl
@[simp] theorem gNames_cons {i : Nat} {is : List Nat} {ds : List D} : gNames (i :: is) (d :: ds) env S = gNames is ds (env.set i (some d)) S := nrfl rfl
@[simp] theorem ssat_par {is : List Nat} {a : AD} : (sPar is a env S).sat N T B C = (a env S).sat fun xs S1 => (gNames is xs env S1).sat N T B C := by unfold sPar; rw [ssat_toS]
theorem ssat_for {mi : ID} {g : GD} {body : SD} : (sFor mi g body env S).sat N T B C = (mi env S).sat fun xs S1 => (forL g body xs env S1).sat N T B C := by unfold sFor; rw [ssat_toS]
@[simp] theorem forL_nil {g : GD} {body : SD} : (forL g body [] env S).sat N T B C = N env S := ssat_nx
theorem forL_cons {g : GD} {body : SD} {x : D} {xs : List D} : (forL g body (x :: xs) env S).sat N T B C = (g x env S).sat (fun e S => (body e S).sat (fun e S => (forL g body xs e S).sat N T B C) T N (fun e S => (forL g body xs e S).sat N T B C)) (fun _ _ => False) (fun _ _ => False) fun _ _ => False := by
  show SR.sat (match g x env S with
    | .nx env1 S1 => match body env1 S1 with
      | .nx env2 S2 => forL g body xs env2 S2
      | .ct env2 S2 => forL g body xs env2 S2
      | .brk env2 S2 => .nx env2 S2
      | .ret d S2 => .ret d S2
      | .exc e env2 S2 => .exc e env2 S2
      | .bad => .bad
    | _ => .bad) N T B C = _
  cases g x env S with
  | nx env1 S1 => simp only [ssat_nx]; cases body env1 S1 <;> simp
  | _ => simp
/-- a for with an invariant over the number of items done -/
theorem for_rule {g : GD} {body : SD} (I : Nat → EnvD → Store → Prop) {xs : List D} (h0 : I 0 env S)
    (hs : ∀ j (hj : j < xs.length) e S, I j e S → (g xs[j] e S).sat (fun e S => (body e S).sat (I (j + 1)) T N (I (j + 1))) (fun _ _ => False) (fun _ _ => False) fun _ _ => False)
    (hN : ∀ e S, I xs.length e S → N e S) : (forL g body xs env S).sat N T B C := by
  induction xs generalizing I env S with
  | nil => exact .nx (hN _ _ h0)
  | cons x xs ih =>
    rw [forL_cons]
    refine ssat_mono (hs 0 (by simp) env S h0) (fun e1 S1 h => ?_) (fun _ _ h => h) (fun _ _ h => h) (fun _ _ h => h)
    have go : ∀ e S, I 1 e S → (forL g body xs e S).sat N T B C := fun e S h =>
      ih (fun j => I (j + 1)) h (fun j hj e S h => by
        have := hs (j + 1) (by simp; omega) e S h
        simpa using this) (fun e S h => hN e S (by simpa using h))
    exact ssat_mono h go (fun _ _ h => h) (fun _ _ h => h) go
theorem while_rule {c : TD} {body : SD} (I : Nat → EnvD → Store → Prop) {m k : Nat} (hk : m < k) (h0 : I m env S)
    (hs : ∀ m e S, I m e S → (c e S).sat fun b S1 => if b = true then (body e S1).sat (fun e S => ∃ m' < m, I m' e S) T N (fun e S => ∃ m' < m, I m' e S) else N e S1) : (sWhile c body k env S).sat N T B C := by
  induction m using Nat.strongRecOn generalizing k env S with
  | _ m ih =>
    cases k with
    | zero => omega
    | succ k =>
      unfold sWhile
      rw [ssat_toS]
      refine sat_mono (hs m env S h0) fun b S1 h => ?_
      cases b with
      | false => simpa using h
      | true =>
        simp only [if_true] at h ⊢
        have go : ∀ e S, (∃ m' < m, I m' e S) → (sWhile c body k e S).sat N T B C := fun e S ⟨m', hm, h⟩ => ih m' hm (by omega) h
        revert h
        cases body env S1 with
        | nx e2 S2 => intro h; rw [ssat_nx] at h; exact go e2 S2 h
        | ct e2 S2 => intro h; rw [ssat_ct] at h; exact go e2 S2 h
        | brk e2 S2 => intro h; rw [ssat_brk] at h; exact .nx h
        | ret d S2 => intro h; rw [ssat_ret] at h; exact .ret h
        | _ => intro h; cases h
theorem sat_run {np n : Nat} {body : SD} {xs : List D} : (run np n body xs S).sat Q = (xs.length = np ∧ (body (xs.map some ++ List.replicate (n - xs.length) none) S).sat (fun _ S => Q .non S) Q (fun _ _ => False) fun _ _ => False) := by
  unfold run; rw [sat_if_bad]; congr
  cases body (xs.map some ++ List.replicate (n - xs.length) none) S <;> simp [SR.fin]
end
/-! operations -/
section
variable {S : Store} {Q : D → Store → Prop}
@[simp] theorem add_int {i j : Int} : addD (.int i) (.int j) S = .ok (.int (i + j)) S := nrfl rfl
@[simp] theorem sub_int {i j : Int} : subD (.int i) (.int j) S = .ok (.int (i - j)) S := nrfl rfl
@[simp] theorem neg_int {i : Int} : negD (.int i) S = .ok (.int (-i)) S := nrfl rfl
@[simp] theorem lt_int {i j : Int} : ltD (.int i) (.int j) S = .ok (.bl (decide (i < j))) S := nrfl rfl
@[simp] theorem le_int {i j : Int} : leD (.int i) (.int j) S = .ok (.bl (decide (i ≤ j))) S := nrfl rfl
@[simp] theorem gt_int {i j : Int} : gtD (.int i) (.int j) S = .ok (.bl (decide (j < i))) S := nrfl rfl
@[simp] theorem ge_int {i j : Int} : geD (.int i) (.int j) S = .ok (.bl (decide (j ≤ i))) S := nrfl rfl
theorem mul_int {i j : Int} : (mulD (.int i) (.int j) S).sat Q = (mulOk i j = true ∧ Q (.int (i * j)) S) := by unfold mulD; simp only []; rw [sat_if_bad, sat_ok]
theorem fdiv_int {i j : Int} : (fdivD (.int i) (.int j) S).sat Q = ((0 < j ∧ j.natAbs.log2 < 9000) ∧ Q (.int (i / j)) S) := by unfold fdivD; simp only []; rw [sat_if_bad, sat_ok]
theorem mod_int {i j : Int} : (modD (.int i) (.int j) S).sat Q = (0 < j ∧ Q (.int (i % j)) S) := by unfold modD; simp only []; rw [sat_if_bad, sat_ok]
theorem ibeq (i j : Int) : (i == j) = decide (i = j) := by rw [Bool.eq_iff_iff]; simp
theorem eq_int {i j : Int} : eqD (.int i) (.int j) S = .ok (.bl (decide (i = j))) S := by
  show (if min 0 0 ≤ 64 then R.ok (D.bl (i == j)) S else .bad) = _
  simp [ibeq]
theorem ne_int {i j : Int} : neD (.int i) (.int j) S = .ok (.bl (decide (i ≠ j))) S := by
  show (if min 0 0 ≤ 64 then R.ok (D.bl (!(i == j))) S else .bad) = _
  simp [ibeq]
@[simp] theorem len_tup {l : List D} : lenD [.tup l] S = .ok (.int l.length) S := nrfl rfl
@[simp] theorem len_lst {l : List D} : lenD [.lst l] S = .ok (.int l.length) S := nrfl rfl
@[simp] theorem len_scr {l : List Int} : lenD [.scr l] S = .ok (.int l.length) S := nrfl rfl
theorem len_obj {n : Nat} {l : List D} (h : S[n]? = some (.lst l)) : lenD [.obj n] S = .ok (.int l.length) S := by simp [lenD, asL, h]
@[simp] theorem tuple_lst {l : List D} : tupleD [.lst l] S = .ok (.tup l) S := nrfl rfl
@[simp] theorem tuple_tup {l : List D} : tupleD [.tup l] S = .ok (.tup l) S := nrfl rfl
theorem mtD_obj {n : Nat} {l : List D} (h : S[n]? = some (.lst l)) : mtD (.obj n) S = some "list" := by simp [mtD, h]
@[simp] theorem rangeD_len {lo hi : Int} : (rangeD lo hi).length = (hi - lo).toNat := by simp [rangeD]
@[simp] theorem rangeD_get {lo hi : Int} {j : Nat} (h : j < (rangeD lo hi).length) : (rangeD lo hi)[j] = .int (lo + j) := by simp [rangeD]
theorem append_obj {n : Nat} {l : List D} {y : D} (h : S[n]? = some (.lst l)) : (appendD (.obj n) [y] S).sat Q = (l.length < sizeLine ∧ Q .non (S.set n (.lst (l ++ [y])))) := by
  unfold appendD; simp only [lstAt, h]; rw [sat_if_bad, sat_ok]
theorem tuple_obj {n : Nat} {l : List D} (h : S[n]? = some (.lst l)) : tupleD [.obj n] S = .ok (.tup l) S := by simp [tupleD, asL, h]
end
end L3
set_option Elab.async false
set_option linter.all false
set_option maxRecDepth 100000
/-! L3P: the laws' hand. -/
namespace L3
open PySem L2
def Hand (n : Nat) (S : Store) : Prop := ∃ g s : Int, S[n]? = some (.lst [.int g, .int s])
/-- only the hand has changed; new objects may have come -/
structure FrH (n : Nat) (S S' : Store) : Prop where
  le : S.length ≤ S'.length
  fr : ∀ m o, m ≠ n → S[m]? = some o → S'[m]? = some o
  hd : Hand n S'
theorem FrH.refl {n : Nat} {S : Store} (h : Hand n S) : FrH n S S := ⟨Nat.le_refl _, fun _ _ _ h => h, h⟩
theorem FrH.trans {n : Nat} {S S' S'' : Store} (h : FrH n S S') (g : FrH n S' S'') : FrH n S S'' := ⟨Nat.le_trans h.le g.le, fun m o hm e => g.fr m o hm (h.fr m o hm e), g.hd⟩
theorem Hand.lt {n : Nat} {S : Store} (h : Hand n S) : n < S.length := by
  obtain ⟨g, s, e⟩ := h
  exact (List.getElem?_eq_some_iff.mp e).1
theorem FrH.set {n : Nat} {S : Store} (h : Hand n S) (g s : Int) : FrH n S (S.set n (.lst [.int g, .int s])) := by
  refine ⟨by simp, fun m o hm e => ?_, ⟨g, s, by simp [List.getElem?_set_self h.lt]⟩⟩
  rw [List.getElem?_set_ne (Ne.symm hm)]; exact e
theorem FrH.app {n : Nat} {S : Store} (h : Hand n S) (o : O) : FrH n S (S ++ [o]) := by
  have e : ∀ (m : Nat) (o' : O), S[m]? = some o' → (S ++ [o])[m]? = some o' := fun m o' e => by
    rw [List.getElem?_append_left (List.getElem?_eq_some_iff.mp e).1]; exact e
  obtain ⟨g, s, q⟩ := h
  exact ⟨by simp, fun m o' _ q => e m o' q, ⟨g, s, e _ _ q⟩⟩
theorem FrH.put {n p : Nat} {S S' : Store} (h : FrH n S S') (hn : Hand n S) (hp : S.length ≤ p) (o : O) : FrH n S (S'.set p o) := by
  have l := hn.lt
  refine ⟨by simp [h.le], fun m o' hm e => ?_, ?_⟩
  · have : m < S.length := (List.getElem?_eq_some_iff.mp e).1
    rw [List.getElem?_set_ne (by omega)]; exact h.fr m o' hm e
  · obtain ⟨g, s, e⟩ := h.hd
    exact ⟨g, s, by rw [List.getElem?_set_ne (by omega)]; exact e⟩
theorem lg_lt {j : Int} {m : Nat} (h : j.natAbs < 2 ^ 64) : j.natAbs.log2 < 9000 := by
  by_cases h0 : j.natAbs = 0
  · rw [h0]; decide
  · exact Nat.lt_trans ((Nat.log2_lt h0).mpr h) (by decide)

/-! digits -/
def mTake : SD :=
    sSeq (sIf (tOfE (e2 gtD (e2 ixD (eVar 0) (eK (.int 0))) (eK (.int 0)))) (sSeq (sAsg (e2 modD (e2 ixD (eVar 0) (eK (.int 0))) (eVar 1)) (gName 2))
    (sSeq (sAsg (e2 fdivD (e2 ixD (eVar 0) (eK (.int 0))) (eVar 1)) (gSub (eVar 0) (eK (.int 0))))
    (sRet (eVar 2)))) (sSkip))
    (sSeq (sAsg (e2 modD (e2 addD (e2 mulD (e2 ixD (eVar 0) (eK (.int 1))) (eK (.int 1181783497276652981))) (eK (.int 12345678910987))) (eK (.int 2305843009213693951))) (gSub (eVar 0) (eK (.int 1))))
    (sRet (e2 modD (e2 fdivD (e2 modD (e2 mulD (e2 fdivD (e2 ixD (eVar 0) (eK (.int 1))) (eK (.int 65537))) (e2 addD (e2 modD (e2 ixD (eVar 0) (eK (.int 1))) (eK (.int 65537))) (eK (.int 3)))) (eK (.int 2305843009213693921))) (eK (.int 97))) (eVar 1))))
section
variable {n : Nat} {S : Store} {Q : D → Store → Prop}
theorem ix0 {g s : Int} (h : S[n]? = some (.lst [.int g, .int s])) : ixD (.obj n) (.int 0) S = .ok (.int g) S := by simp [ixD, h, atI, ixN]
theorem ix1 {g s : Int} (h : S[n]? = some (.lst [.int g, .int s])) : ixD (.obj n) (.int 1) S = .ok (.int s) S := by simp [ixD, h, atI, ixN]
theorem set0 {g s x : Int} (h : S[n]? = some (.lst [.int g, .int s])) : setD (.obj n) (.int 0) (.int x) S = some (S.set n (.lst [.int x, .int s])) := by simp [setD, lstAt, h, ixN]
theorem set1 {g s x : Int} (h : S[n]? = some (.lst [.int g, .int s])) : setD (.obj n) (.int 1) (.int x) S = some (S.set n (.lst [.int g, .int x])) := by simp [setD, lstAt, h, ixN]
theorem mulOk_r {i j : Int} (h : -(2 ^ 64) < j ∧ j < 2 ^ 64) : mulOk i j = true := by simp only [mulOk, decide_eq_true_eq]; exact .inl (.inr h)
theorem mulOk_l {i j : Int} (h : -(2 ^ 64) < i ∧ i < 2 ^ 64) : mulOk i j = true := by simp only [mulOk, decide_eq_true_eq]; exact .inl (.inl h)
theorem take_ok (h : Hand n S) {many : Int} (hm : 0 < many) (hb : many < 2 ^ 64) : (run 2 3 mTake [.obj n, .int many] S).sat fun d S' => (∃ i, d = .int i ∧ 0 ≤ i ∧ i < many) ∧ FrH n S S' := by
  obtain ⟨g, s, e⟩ := h
  have h : Hand n S := ⟨g, s, e⟩
  have hlog : many.natAbs.log2 < 9000 := lg_lt (m := 0) (by omega)
  rw [sat_run]
  refine ⟨rfl, ?_⟩
  unfold mTake
  have l2 : ∀ j : Nat, j < 2 ^ 64 → 0 < j → j.log2 < 9000 := fun j hj h0 => Nat.lt_trans ((Nat.log2_lt (by omega)).mpr hj) (by decide)
  by_cases hg : 0 < g
  · simp [ix0 e, hg, mod_int, fdiv_int, hm, hlog, gSub, eVar, eK, set0 e]
    exact ⟨⟨Int.emod_nonneg _ (by omega), Int.emod_lt_of_pos _ hm⟩, .set h _ _⟩
  · have e2 : (S.set n (.lst [.int g, .int ((s * 1181783497276652981 + 12345678910987) % 2305843009213693951)]))[n]? = some (.lst [.int g, .int ((s * 1181783497276652981 + 12345678910987) % 2305843009213693951)]) := by
      simp [List.getElem?_set_self h.lt]
    simp [ix0 e, ix1 e, ix1 e2, hg, mod_int, fdiv_int, mul_int, hm, hlog, gSub, eVar, eK, set1 e, mulOk_r]
    refine ⟨l2 _ (by decide) (by decide), mulOk_r (by omega), l2 _ (by decide) (by decide), ⟨Int.emod_nonneg _ (by omega), Int.emod_lt_of_pos _ hm⟩, .set h _ _⟩
/-- the take of a law -/
def IsTake (tk : FN) : Prop := ∀ (n : Nat) (S : Store) (many : Int), Hand n S → 0 < many → many < 2 ^ 64 → (tk [.obj n, .int many] S).sat fun d S' => (∃ i, d = .int i ∧ 0 ≤ i ∧ i < many) ∧ FrH n S S'
theorem isTake : IsTake (run 2 3 mTake) := fun n S many h h1 h2 => take_ok h h1 h2
def mPick (tk : FN) : SD := sRet (e2 ixD (eVar 1) (eN (callK tk []) (aCons (eVar 0) (aCons (eN lenD (aCons (eVar 1) (aNil))) (aNil)))))
def IsPick (pk : FN) : Prop := ∀ (n : Nat) (S : Store) (l : List D), Hand n S → l ≠ [] → l.length < 2 ^ 32 → ((pk [.obj n, .lst l] S).sat fun d S' => d ∈ l ∧ FrH n S S') ∧ (pk [.obj n, .tup l] S).sat fun d S' => d ∈ l ∧ FrH n S S'
theorem atI_mem {α : Type} {l : List α} {i : Int} (h0 : 0 ≤ i) (h : i < l.length) : ∃ x ∈ l, atI l i = some x := by
  refine ⟨l[i.toNat]'(by omega), List.getElem_mem _, ?_⟩
  simp only [atI, ixN]
  simp [h0, h, show i.toNat < l.length by omega]
theorem isPick {tk : FN} (ht : IsTake tk) : IsPick (run 2 2 (mPick tk)) := fun n S l h h1 h2 => by
  have hl : 0 < l.length := (match l, h1 with | _ :: _, _ => by simp)
  constructor
  all_goals
    rw [sat_run]
    refine ⟨rfl, ?_⟩
    unfold mPick
    simp
    refine sat_mono (ht n S l.length h (by omega) (by omega)) fun d S' q => ?_
    obtain ⟨⟨i, rfl, h0, h3⟩, fr⟩ := q
    obtain ⟨x, hx, e⟩ := atI_mem h0 h3
    simp [ixD, e, hx, fr]
/-! the hand -/
def mHand : SD :=
    sSeq (sAsg (e2 addD (e2 mulD (eK (.int 3)) (eVar 1)) (eN lenD (aCons (eVar 0) (aNil)))) (gName 2))
    (sSeq (sIf (tOfE (e2 ltD (eVar 1) (eN lenD (aCons (eVar 0) (aNil))))) (sAsg (e2 ixD (eVar 0) (eVar 1)) (gName 2)) (sSkip))
    (sSeq (sAsg (e2 mulD (e2 modD (eN absD (aCons (eVar 2) (aNil))) (e2 powD (e2 powD (eK (.int 10)) (eK (.int 60))) (eK (.int 5)))) (eN intD (aCons (e2 geD (eN absD (aCons (eVar 2) (aNil))) (e2 powD (eK (.int 10)) (eK (.int 18)))) (aNil)))) (gName 3))
    (sRet (eN mkObj (aCons (eVar 3) (aCons (e2 modD (e2 mulD (e2 addD (e2 addD (e2 modD (eVar 2) (eK (.int 2305843009213693951))) (e2 mulD (e2 mulD (eK (.int 7919)) (eVar 1)) (eVar 1))) (eK (.int 11))) (eK (.int 48271))) (eK (.int 2305843009213693951))) (aNil)))))))
def IsHand (hd : FN) : Prop := ∀ (S : Store) (ns : List Int) (k : Int), 0 ≤ k → k < 2 ^ 32 → (hd [.scr ns, .int k] S).sat fun d S' => d = .obj S.length ∧ ∃ g s : Int, S' = S ++ [.lst [.int g, .int s]]
def T60 : Int := 10 ^ 60
def T300 : Int := 10 ^ 300
theorem T300_pos : 0 < T300 := by decide +kernel
theorem pw1 : powD (.int 10) (.int 60) S = .ok (.int T60) S := by kernel_rfl
theorem pw2 : powD (.int T60) (.int 5) S = .ok (.int T300) S := by kernel_rfl
theorem pw3 : powD (.int 10) (.int 18) S = .ok (.int 1000000000000000000) S := by kernel_rfl
theorem isHand : IsHand (run 2 4 mHand) := fun S ns k h0 hk => by
  rw [sat_run]
  refine ⟨rfl, ?_⟩
  have key : ∀ c : Int, ((sSeq (sAsg (e2 mulD (e2 modD (eN absD (aCons (eVar 2) (aNil))) (e2 powD (e2 powD (eK (.int 10)) (eK (.int 60))) (eK (.int 5)))) (eN intD (aCons (e2 geD (eN absD (aCons (eVar 2) (aNil))) (e2 powD (eK (.int 10)) (eK (.int 18)))) (aNil)))) (gName 3))
    (sRet (eN mkObj (aCons (eVar 3) (aCons (e2 modD (e2 mulD (e2 addD (e2 addD (e2 modD (eVar 2) (eK (.int 2305843009213693951))) (e2 mulD (e2 mulD (eK (.int 7919)) (eVar 1)) (eVar 1))) (eK (.int 11))) (eK (.int 48271))) (eK (.int 2305843009213693951))) (aNil)))))) [some (.scr ns), some (.int k), some (.int c), none] S).sat
      (fun _ S1 => D.non = .obj S.length ∧ ∃ g s : Int, S1 = S ++ [.lst [.int g, .int s]]) (fun d S' => d = .obj S.length ∧ ∃ g s : Int, S' = S ++ [.lst [.int g, .int s]]) (fun _ _ => False) fun _ _ => False := fun c => by
    simp [pw1, pw2, pw3, absD, intD, mod_int, mul_int, T300_pos]
    refine ⟨mulOk_r (by split <;> omega), mulOk_l (by omega), mulOk_r (by omega), mulOk_r (by omega), by decide⟩
  unfold mHand
  simp only [ssat_seq, ssat_asg, sat_e2, sat_eK, sat_eVar, ssat_if, sat_eN, sat_aCons, sat_aNil]
  simp [mul_int, mulOk_l]
  by_cases hc : k < ns.length
  · obtain ⟨x, hx, e⟩ := atI_mem (l := ns) h0 hc
    simp [hc, ixD, e]
    have := key x
    simpa [mul_int, mulOk_l] using this
  · simp [hc]
    have := key (3 * k + ns.length)
    simpa [mul_int, mulOk_l] using this
end
end L3
set_option Elab.async false
set_option linter.all false
set_option maxRecDepth 100000
set_option maxHeartbeats 4000000
namespace K02
open PySem L2 L3
def fuel : Nat := 100000
def c_LETTERS : D := (.str "abcdefghijklmnopqrstuvwxyz")
def c_MOST_DEEP : D := (.int 10)
def c_MOST_PASSES : D := (.int 50)
def c_MOST_SIGNS : D := (.int 8)
def c_MOST_THINGS : D := (.int 60)
def c_NAME : D := (.str "name")
def c_NUM : D := (.str "num")
def c_ROW : D := (.str "row")
def c_SHAPES : D := (.kd ["plus", "times", "most", "row", "say", "less", "below", "if", "let", "each"] [(.tup [(.int 1), (.int 6), (.bl false)]), (.tup [(.int 1), (.int 6), (.bl false)]), (.tup [(.int 1), (.int 6), (.bl false)]), (.tup [(.int 0), (.int 6), (.bl false)]), (.tup [(.int 1), (.int 1), (.bl false)]), (.tup [(.int 2), (.int 2), (.bl false)]), (.tup [(.int 2), (.int 2), (.bl false)]), (.tup [(.int 3), (.int 3), (.bl false)]), (.tup [(.int 2), (.int 2), (.bl true)]), (.tup [(.int 2), (.int 2), (.bl true)])])
def c_WHEEL : D := (.int 9973)
def c_WORDS : D := (.tup [(.str "plus"), (.str "times"), (.str "most"), (.str "row"), (.str "say"), (.str "less"), (.str "below"), (.str "if"), (.str "let"), (.str "each"), (.str "num"), (.str "name"), (.str "any"), (.str "rest"), (.str "called"), (.str "count")])
def kbd_is_thing_with_3_widest_g : List D → List D → List D := fun xs zs => match xs, zs with
  | [a0, a1, a2], [b0] => [a0, a1, a2, b0]
  | _, _ => []
def m_is_whole (F : Nat → FN) : SD :=
    sRet (eAnd (eN isiD (aCons (eVar 0) (aCons (eK (.ty "int")) (aNil)))) (eNot (eN isiD (aCons (eVar 0) (aCons (eK (.ty "bool")) (aNil))))))
def m_is_number (F : Nat → FN) : SD :=
    sRet (eAnd (eN (callK (F 0) []) (aCons (eVar 0) (aNil))) (eChain leD leD (eVar 1) (eVar 0) (eVar 2)))
def m_is_name (F : Nat → FN) : SD :=
    sSeq (sIf (tOr (tNot (tTruth (eN isiD (aCons (eVar 0) (aCons (eK (.ty "str")) (aNil)))))) (tOr (tNot (tOfE (eChain leD leD (eK (.int 1)) (eN lenD (aCons (eVar 0) (aNil))) (eK c_MOST_SIGNS)))) (tOfE (e2 inD (eVar 0) (eK c_WORDS))))) (sRet (eK (.bl false))) (sSkip))
    (sRet (eN allD (aCons (eLc (iSeq (eVar 0)) [1] (gName 1) (tYesD) (e2 inD (eVar 1) (eK c_LETTERS))) (aNil))))
def m_is_leaf (F : Nat → FN) : SD :=
    sSeq (sAsg (eVar 0) (gTup [1, 2, 3]))
    (sSeq (sIf (tOfE (e2 neD (eVar 3) (eN mkTup (aNil)))) (sRet (eK (.bl false))) (sSkip))
    (sRet (eOr (eAnd (e2 eqD (eVar 1) (eK c_NUM)) (eN (callK (F 1) [(.int 0), (.int 9972)]) (aCons (eVar 2) (aNil)))) (eAnd (e2 eqD (eVar 1) (eK c_NAME)) (eN (callK (F 2) []) (aCons (eVar 2) (aNil)))))))
def m_is_mark (F : Nat → FN) : SD :=
    sSeq (sIf (tTruth (eVar 0)) (sRet (eN (callK (F 2) []) (aCons (eVar 1) (aNil)))) (sSkip))
    (sRet (eAnd (eN isiD (aCons (eVar 1) (aCons (eK (.ty "str")) (aNil)))) (e2 eqD (eVar 1) (eK (.str "")))))
def m_is_thing_with (F : Nat → FN) : SD :=
    sSeq (sIf (tOr (tOfE (e2 ltD (eVar 2) (eK (.int 1)))) (tOr (tNot (tTruth (eN isiD (aCons (eVar 1) (aCons (eK (.ty "tuple")) (aNil)))))) (tOfE (e2 neD (eN lenD (aCons (eVar 1) (aNil))) (eK (.int 3)))))) (sRet (eK (.bl false))) (sSkip))
    (sSeq (sAsg (eVar 1) (gTup [4, 5, 6]))
    (sSeq (sIf (tOr (tNot (tTruth (eN isiD (aCons (eVar 4) (aCons (eK (.ty "str")) (aNil)))))) (tNot (tTruth (eN isiD (aCons (eVar 6) (aCons (eK (.ty "tuple")) (aNil))))))) (sRet (eK (.bl false))) (sSkip))
    (sSeq (sIf (tOfE (e2 notInD (eVar 4) (eK c_SHAPES))) (sRet (eFnL 0 "is_leaf" (F 3) (aCons (eVar 1) (aNil)))) (sSkip))
    (sSeq (sAsg (e2 ixD (eK c_SHAPES) (eVar 4)) (gTup [7, 8, 9]))
    (sSeq (sIf (tOfE (e2 eqD (eVar 4) (eK c_ROW))) (sAsg (eVar 3) (gName 8)) (sSkip))
    (sSeq (sIf (tOr (tNot (tOfE (eChain leD leD (eVar 7) (eN lenD (aCons (eVar 6) (aNil))) (eVar 8)))) (tNot (tTruth (eN (callK (F 4) []) (aCons (eVar 9) (aCons (eVar 5) (aNil))))))) (sRet (eK (.bl false))) (sSkip))
    (sRet (eN allD (aCons (eLc (iSeq (eVar 6)) [10] (gName 10) (tYesD) (eKw (kwK (F 5) 3 1 kbd_is_thing_with_3_widest_g) (aCons (eVar 0) (aCons (eVar 10) (aCons (e2 subD (eVar 2) (eK (.int 1))) (aNil)))) (aCons (eVar 3) (aNil)))) (aNil))))))))))
def m_count_of (F : Nat → FN) : SD :=
    sRet (e2 addD (eK (.int 1)) (eN sumD (aCons (eLc (iSeq (e2 ixD (eVar 0) (eK (.int 2)))) [1] (gName 1) (tYesD) (eN (callK (F 6) []) (aCons (eVar 1) (aNil)))) (aNil))))
def m_is_program (F : Nat → FN) : SD :=
    sRet (eAnd (eN (callK (F 5) [(.int 6)]) (aCons (eK (.glb "is_leaf")) (aCons (eVar 0) (aCons (eK c_MOST_DEEP) (aNil))))) (e2 leD (eN (callK (F 6) []) (aCons (eVar 0) (aNil))) (eK c_MOST_THINGS)))
def m_law_hand (F : Nat → FN) : SD :=
    sSeq (sAsg (e2 addD (e2 mulD (eK (.int 3)) (eVar 1)) (eN lenD (aCons (eVar 0) (aNil)))) (gName 2))
    (sSeq (sIf (tOfE (e2 ltD (eVar 1) (eN lenD (aCons (eVar 0) (aNil))))) (sAsg (e2 ixD (eVar 0) (eVar 1)) (gName 2)) (sSkip))
    (sSeq (sAsg (e2 mulD (e2 modD (eN absD (aCons (eVar 2) (aNil))) (e2 powD (e2 powD (eK (.int 10)) (eK (.int 60))) (eK (.int 5)))) (eN intD (aCons (e2 geD (eN absD (aCons (eVar 2) (aNil))) (e2 powD (eK (.int 10)) (eK (.int 18)))) (aNil)))) (gName 3))
    (sRet (eN mkObj (aCons (eVar 3) (aCons (e2 modD (e2 mulD (e2 addD (e2 addD (e2 modD (eVar 2) (eK (.int 2305843009213693951))) (e2 mulD (e2 mulD (eK (.int 7919)) (eVar 1)) (eVar 1))) (eK (.int 11))) (eK (.int 48271))) (eK (.int 2305843009213693951))) (aNil)))))))
def m_law_take (F : Nat → FN) : SD :=
    sSeq (sIf (tOfE (e2 gtD (e2 ixD (eVar 0) (eK (.int 0))) (eK (.int 0)))) (sSeq (sAsg (e2 modD (e2 ixD (eVar 0) (eK (.int 0))) (eVar 1)) (gName 2))
    (sSeq (sAsg (e2 fdivD (e2 ixD (eVar 0) (eK (.int 0))) (eVar 1)) (gSub (eVar 0) (eK (.int 0))))
    (sRet (eVar 2)))) (sSkip))
    (sSeq (sAsg (e2 modD (e2 addD (e2 mulD (e2 ixD (eVar 0) (eK (.int 1))) (eK (.int 1181783497276652981))) (eK (.int 12345678910987))) (eK (.int 2305843009213693951))) (gSub (eVar 0) (eK (.int 1))))
    (sRet (e2 modD (e2 fdivD (e2 modD (e2 mulD (e2 fdivD (e2 ixD (eVar 0) (eK (.int 1))) (eK (.int 65537))) (e2 addD (e2 modD (e2 ixD (eVar 0) (eK (.int 1))) (eK (.int 65537))) (eK (.int 3)))) (eK (.int 2305843009213693921))) (eK (.int 97))) (eVar 1))))
def m_law_pick (F : Nat → FN) : SD :=
    sRet (e2 ixD (eVar 1) (eN (callK (F 9) []) (aCons (eVar 0) (aCons (eN lenD (aCons (eVar 1) (aNil))) (aNil)))))
def m_law_leaf (F : Nat → FN) : SD :=
    sRet (eN (callK (F 10) []) (aCons (eVar 0) (aCons (eN mkLst (aCons (eN mkTup (aCons (eK (.str "num")) (aCons (eK (.int 0)) (aCons (eN mkTup (aNil)) (aNil))))) (aCons (eN mkTup (aCons (eK (.str "num")) (aCons (eK (.int 9972)) (aCons (eN mkTup (aNil)) (aNil))))) (aCons (eN mkTup (aCons (eK (.str "name")) (aCons (eK (.str "x")) (aCons (eN mkTup (aNil)) (aNil))))) (aCons (eN mkTup (aCons (eK (.str "name")) (aCons (eK (.str "abcdefgh")) (aCons (eN mkTup (aNil)) (aNil))))) (aNil)))))) (aNil))))
def m_law_sized (F : Nat → FN) : SD :=
    sSeq (sPar [2, 3] (aCons (eN mkObj (aNil)) (aCons (e2 subD (eVar 1) (eK (.int 1))) (aNil))))
    (sSeq (sWhile (tOfE (e2 gtD (eVar 3) (eK (.int 0)))) (sSeq (sAsg (eIf (tOfE (e2 ltD (eN lenD (aCons (eVar 2) (aNil))) (eK (.int 5)))) (eN minD (aCons (eVar 3) (aCons (e2 addD (eK (.int 1)) (eN (callK (F 9) []) (aCons (eVar 0) (aCons (eK (.int 7)) (aNil))))) (aNil)))) (eVar 3)) (gName 4))
    (sSeq (sExpr (eBM "list" appendD (eVar 2) (aCons (eN (callK (F 13) []) (aCons (eVar 0) (aCons (eVar 4) (aNil)))) (aNil))))
    (sAsg (e2 subD (eVar 3) (eVar 4)) (gName 3)))) fuel)
    (sRet (eN mkTup (aCons (eK (.str "row")) (aCons (eK (.str "")) (aCons (eN tupleD (aCons (eVar 2) (aNil))) (aNil)))))))
def m_law_pack (F : Nat → FN) : SD :=
    sSeq (sIf (tOfE (e2 eqD (eVar 1) (eK (.int 1)))) (sRet (eN (callK (F 11) []) (aCons (eVar 0) (aNil)))) (sSkip))
    (sSeq (sIf (tOfE (e2 ltD (eVar 1) (eK (.int 8)))) (sRet (eN mkTup (aCons (eK (.str "row")) (aCons (eK (.str "")) (aCons (eN tupleD (aCons (eLc (iArgs range1 (aCons (e2 subD (eVar 1) (eK (.int 1))) (aNil))) [2] (gName 2) (tYesD) (eN (callK (F 11) []) (aCons (eVar 0) (aNil)))) (aNil))) (aNil)))))) (sSkip))
    (sSeq (sPar [3, 4] (aCons (eN mkObj (aNil)) (aCons (e2 subD (eVar 1) (eK (.int 1))) (aNil))))
    (sSeq (sFor (iArgs range1 (aCons (eK (.int 6)) (aNil))) (gName 2) (sSeq (sAsg (e1 negD (e2 fdivD (e1 negD (eVar 4)) (e2 subD (eK (.int 6)) (eVar 2)))) (gName 5))
    (sSeq (sExpr (eBM "list" appendD (eVar 3) (aCons (eN (callK (F 13) []) (aCons (eVar 0) (aCons (eVar 5) (aNil)))) (aNil))))
    (sAsg (e2 subD (eVar 4) (eVar 5)) (gName 4)))))
    (sRet (eN mkTup (aCons (eN (callK (F 10) []) (aCons (eVar 0) (aCons (eN mkLst (aCons (eK (.str "row")) (aCons (eK (.str "plus")) (aCons (eK (.str "times")) (aCons (eK (.str "most")) (aNil)))))) (aNil)))) (aCons (eK (.str "")) (aCons (eN tupleD (aCons (eVar 3) (aNil))) (aNil)))))))))
def m_law_tower (F : Nat → FN) : SD :=
    sSeq (sAsg (eN (callK (F 11) []) (aCons (eVar 0) (aNil))) (gName 2))
    (sSeq (sFor (iArgs range1 (aCons (e2 subD (eVar 1) (eK (.int 1))) (aNil))) (gName 3) (sSeq (sAsg (eN mkLst (aCons (eN mkTup (aCons (eK (.str "say")) (aCons (eK (.str "")) (aCons (eN mkTup (aCons (eVar 2) (aNil))) (aNil))))) (aCons (eN mkTup (aCons (eK (.str "less")) (aCons (eK (.str "")) (aCons (eN mkTup (aCons (eN (callK (F 11) []) (aCons (eVar 0) (aNil))) (aCons (eVar 2) (aNil)))) (aNil))))) (aCons (eN mkTup (aCons (eK (.str "let")) (aCons (eK (.str "x")) (aCons (eN mkTup (aCons (eVar 2) (aCons (eN (callK (F 11) []) (aCons (eVar 0) (aNil))) (aNil)))) (aNil))))) (aNil))))) (gName 4))
    (sSeq (sAsg (e2 addD (eVar 4) (eN mkLst (aCons (eN mkTup (aCons (eK (.str "each")) (aCons (eK (.str "y")) (aCons (eN mkTup (aCons (eN (callK (F 11) []) (aCons (eVar 0) (aNil))) (aCons (eVar 2) (aNil)))) (aNil))))) (aCons (eN mkTup (aCons (eK (.str "row")) (aCons (eK (.str "")) (aCons (eN mkTup (aCons (eVar 2) (aNil))) (aNil))))) (aCons (eN mkTup (aCons (eK (.str "plus")) (aCons (eK (.str "")) (aCons (eN mkTup (aCons (eVar 2) (aNil))) (aNil))))) (aNil)))))) (gName 4))
    (sAsg (eN (callK (F 10) []) (aCons (eVar 0) (aCons (eVar 4) (aNil)))) (gName 2)))))
    (sRet (eVar 2)))
def m_law_parts_right (F : Nat → FN) : SD :=
    sSeq (sAsg (eN mkLst (aCons (eN mkTup (aCons (eK (.str "plus")) (aCons (eK (.int 1)) (aCons (eK (.int 6)) (aNil))))) (aCons (eN mkTup (aCons (eK (.str "times")) (aCons (eK (.int 1)) (aCons (eK (.int 6)) (aNil))))) (aCons (eN mkTup (aCons (eK (.str "most")) (aCons (eK (.int 1)) (aCons (eK (.int 6)) (aNil))))) (aCons (eN mkTup (aCons (eK (.str "row")) (aCons (eK (.int 0)) (aCons (eK (.int 6)) (aNil))))) (aCons (eN mkTup (aCons (eK (.str "say")) (aCons (eK (.int 1)) (aCons (eK (.int 1)) (aNil))))) (aCons (eN mkTup (aCons (eK (.str "less")) (aCons (eK (.int 2)) (aCons (eK (.int 2)) (aNil))))) (aNil)))))))) (gName 1))
    (sSeq (sAsg (e2 addD (eVar 1) (eN mkLst (aCons (eN mkTup (aCons (eK (.str "below")) (aCons (eK (.int 2)) (aCons (eK (.int 2)) (aNil))))) (aCons (eN mkTup (aCons (eK (.str "if")) (aCons (eK (.int 3)) (aCons (eK (.int 3)) (aNil))))) (aCons (eN mkTup (aCons (eK (.str "let")) (aCons (eK (.int 2)) (aCons (eK (.int 2)) (aNil))))) (aCons (eN mkTup (aCons (eK (.str "each")) (aCons (eK (.int 2)) (aCons (eK (.int 2)) (aNil))))) (aNil))))))) (gName 1))
    (sSeq (sFor (iSeq (eVar 1)) (gTup [2, 3, 4]) (sSeq (sAsg (eIf (tOfE (e2 inD (eVar 2) (eN mkTup (aCons (eK (.str "let")) (aCons (eK (.str "each")) (aNil)))))) (eK (.str "x")) (eK (.str ""))) (gName 5))
    (sSeq (sFor (iArgs range2 (aCons (eN maxD (aCons (eK (.int 0)) (aCons (e2 subD (eVar 3) (eK (.int 1))) (aNil)))) (aCons (e2 addD (eVar 4) (eK (.int 2))) (aNil)))) (gName 6) (sSeq (sAsg (eN mkTup (aCons (eVar 2) (aCons (eVar 5) (aCons (eN tupleD (aCons (eLc (iArgs range1 (aCons (eVar 6) (aNil))) [8] (gName 8) (tYesD) (eN (callK (F 11) []) (aCons (eVar 0) (aNil)))) (aNil))) (aNil))))) (gName 7))
    (sIf (tNot (tTruth (eN (callK (F 17) []) (aCons (eN (callK (F 7) []) (aCons (eVar 7) (aNil))) (aCons (eChain leD leD (eVar 3) (eVar 6) (eVar 4)) (aNil)))))) (sRet (eK (.bl false))) (sSkip))))
    (sSeq (sAsg (eN mkTup (aCons (eVar 2) (aCons (eIf (tOfE (e2 eqD (eVar 5) (eK (.str "x")))) (eK (.str "")) (eK (.str "x"))) (aCons (eN tupleD (aCons (eLc (iArgs range1 (aCons (eVar 4) (aNil))) [8] (gName 8) (tYesD) (eN (callK (F 11) []) (aCons (eVar 0) (aNil)))) (aNil))) (aNil))))) (gName 7))
    (sIf (tNot (tTruth (eN (callK (F 17) []) (aCons (eN (callK (F 7) []) (aCons (eVar 7) (aNil))) (aCons (eK (.bl false)) (aNil)))))) (sRet (eK (.bl false))) (sSkip))))))
    (sRet (eK (.bl true)))))
def m_law_marks_right (F : Nat → FN) : SD :=
    sSeq (sAsg (eN mkLst (aCons (eN mkTup (aCons (eK (.str "num")) (aCons (eK (.int 0)) (aCons (eN mkTup (aNil)) (aNil))))) (aCons (eN mkTup (aCons (eK (.str "num")) (aCons (eK (.int 9972)) (aCons (eN mkTup (aNil)) (aNil))))) (aCons (eN mkTup (aCons (eK (.str "name")) (aCons (eK (.str "a")) (aCons (eN mkTup (aNil)) (aNil))))) (aCons (eN mkTup (aCons (eK (.str "name")) (aCons (eK (.str "abcdefgh")) (aCons (eN mkTup (aNil)) (aNil))))) (aCons (eN mkTup (aCons (eK (.str "name")) (aCons (eK (.str "plusx")) (aCons (eN mkTup (aNil)) (aNil))))) (aNil))))))) (gName 0))
    (sSeq (sAsg (eN mkLst (aCons (eN mkTup (aCons (eK (.str "num")) (aCons (eK (.int 9973)) (aCons (eN mkTup (aNil)) (aNil))))) (aCons (eN mkTup (aCons (eK (.str "num")) (aCons (e1 negD (eK (.int 1))) (aCons (eN mkTup (aNil)) (aNil))))) (aCons (eN mkTup (aCons (eK (.str "num")) (aCons (eK (.bl true)) (aCons (eN mkTup (aNil)) (aNil))))) (aCons (eN mkTup (aCons (eK (.str "num")) (aCons (eK (.str "1")) (aCons (eN mkTup (aNil)) (aNil))))) (aCons (eN mkTup (aCons (eK (.str "name")) (aCons (eK (.str "")) (aCons (eN mkTup (aNil)) (aNil))))) (aCons (eN mkTup (aCons (eK (.str "name")) (aCons (eK (.str "B")) (aCons (eN mkTup (aNil)) (aNil))))) (aNil)))))))) (gName 1))
    (sSeq (sAsg (e2 addD (eVar 1) (eN mkLst (aCons (eN mkTup (aCons (eK (.str "name")) (aCons (eK (.str "abcdefghi")) (aCons (eN mkTup (aNil)) (aNil))))) (aCons (eN mkTup (aCons (eK (.str "name")) (aCons (eK (.int 1)) (aCons (eN mkTup (aNil)) (aNil))))) (aCons (eN mkTup (aCons (eK (.str "num")) (aCons (eK (.int 1)) (aCons (eN mkTup (aCons (eK (.str "")) (aNil))) (aNil))))) (aCons (eN mkTup (aCons (eK (.str "name")) (aCons (eK (.str "a")) (aCons (eN mkLst (aNil)) (aNil))))) (aCons (eN mkTup (aCons (eK (.str "num")) (aCons (eK (.int 1)) (aNil)))) (aNil)))))))) (gName 1))
    (sSeq (sAsg (eBM "str" splitD (eK (.str "plus times most row say less below if let each num name any rest called count")) (aCons (eK (.str " ")) (aNil))) (gName 2))
    (sSeq (sAsg (e2 addD (e2 addD (eVar 1) (eLc (iSeq (eVar 2)) [3] (gName 3) (tYesD) (eN mkTup (aCons (eK (.str "name")) (aCons (eVar 3) (aCons (eN mkTup (aNil)) (aNil))))))) (eLc (iSeq (eVar 2)) [3] (gName 3) (tYesD) (eN mkTup (aCons (eK (.str "let")) (aCons (eVar 3) (aCons (eN mkTup (aCons (e2 ixD (eVar 0) (eK (.int 0))) (aCons (e2 ixD (eVar 0) (eK (.int 0))) (aNil)))) (aNil))))))) (gName 1))
    (sSeq (sAsg (e2 addD (eVar 1) (eN mkLst (aCons (eN mkTup (aCons (eK (.str "any")) (aCons (eK (.str "a")) (aCons (eN mkTup (aNil)) (aNil))))) (aCons (eN mkTup (aCons (eK (.str "rest")) (aCons (eK (.str "a")) (aCons (eN mkTup (aNil)) (aNil))))) (aCons (eN mkTup (aCons (eK (.str "called")) (aCons (eK (.str "a")) (aCons (eN mkTup (aNil)) (aNil))))) (aCons (eN mkTup (aCons (eK (.str "count")) (aCons (eK (.str "a")) (aCons (eN mkTup (aNil)) (aNil))))) (aCons (eN mkTup (aCons (eK (.str "nun")) (aCons (eK (.int 1)) (aCons (eN mkTup (aNil)) (aNil))))) (aNil)))))))) (gName 1))
    (sRet (eN allD (aCons (eLc (iSeq (e2 addD (eVar 0) (eVar 1))) [4] (gName 4) (tYesD) (eN (callK (F 17) []) (aCons (eN (callK (F 7) []) (aCons (eVar 4) (aNil))) (aCons (e2 inD (eVar 4) (eVar 0)) (aNil))))) (aNil)))))))))
def m_law_is (F : Nat → FN) : SD :=
    sRet (eAnd (eN isiD (aCons (eVar 0) (aCons (eK (.ty "bool")) (aNil)))) (e2 eqD (eVar 0) (eVar 1)))
def m_law_far (F : Nat → FN) : SD :=
    sSeq (sAsg (eN (callK (F 10) []) (aCons (eVar 0) (aCons (eN mkLst (aCons (eN mkTup (aNil)) (aCons (eN mkLst (aNil)) (aCons (eDic0) (aCons (eK .non) (aCons (eK (.int 7)) (aNil))))))) (aNil)))) (gName 1))
    (sSeq (sFor (iArgs range1 (aCons (eK (.int 28)) (aNil))) (gName 2) (sAsg (eN (callK (F 10) []) (aCons (eVar 0) (aCons (eN mkLst (aCons (eN mkTup (aCons (eVar 1) (aNil))) (aCons (eN mkLst (aCons (eVar 1) (aNil))) (aCons (eDic [(eK (.str "a"), eVar 1)]) (aNil))))) (aNil)))) (gName 1)))
    (sSeq (sAsg (eN tupleD (aCons (e2 mulD (eN mkLst (aCons (eN mkTup (aCons (eK (.str "num")) (aCons (eK (.int 1)) (aCons (eN mkTup (aNil)) (aNil))))) (aNil))) (eK (.int 700))) (aNil))) (gName 3))
    (sRet (eN (callK (F 10) []) (aCons (eVar 0) (aCons (eN mkLst (aCons (eVar 1) (aCons (eN mkTup (aCons (eK (.str "row")) (aCons (eK (.str "")) (aCons (eVar 3) (aNil))))) (aCons (eVar 3) (aCons (e2 mulD (eK (.str "a")) (eK (.int 4900))) (aCons (e2 mulD (e2 powD (eK (.int 10)) (eK (.int 60))) (e2 powD (eK (.int 10)) (eK (.int 60)))) (aCons (eN mkTup (aCons (eK (.str "num")) (aCons (e2 powD (eK (.int 10)) (eK (.int 60))) (aCons (eN mkTup (aNil)) (aNil))))) (aNil)))))))) (aNil)))))))
def m_law (F : Nat → FN) : SD :=
    sSeq (sIf (tOr (tOfE (e2 neD (eN mkLst (aCons (eK c_WHEEL) (aCons (eK c_MOST_THINGS) (aCons (eK c_MOST_PASSES) (aNil))))) (eN mkLst (aCons (eK (.int 9973)) (aCons (eK (.int 60)) (aCons (eK (.int 50)) (aNil))))))) (tNot (tTruth (eN (callK (F 16) []) aNil)))) (sRet (eK (.bl false))) (sSkip))
    (sSeq (sFor (iArgs range1 (aCons (eN maxD (aCons (eK (.int 1)) (aCons (eN minD (aCons (eK (.int 3)) (aCons (eN lenD (aCons (eVar 0) (aNil))) (aNil)))) (aNil)))) (aNil))) (gName 1) (sSeq (sAsg (eN (callK (F 8) []) (aCons (eVar 0) (aCons (eVar 1) (aNil)))) (gName 2))
    (sSeq (sFor (iSeq (eN mkTup (aCons (eK (.int 59)) (aCons (eK (.int 60)) (aCons (eK (.int 61)) (aNil)))))) (gName 3) (sSeq (sIf (tNot (tTruth (eN (callK (F 17) []) (aCons (eN (callK (F 7) []) (aCons (eN (callK (F 13) []) (aCons (eVar 2) (aCons (eVar 3) (aNil)))) (aNil))) (aCons (e2 ltD (eVar 3) (eK (.int 61))) (aNil)))))) (sRet (eK (.bl false))) (sSkip))
    (sIf (tNot (tTruth (eN (callK (F 17) []) (aCons (eN (callK (F 7) []) (aCons (eN (callK (F 12) []) (aCons (eVar 2) (aCons (eVar 3) (aNil)))) (aNil))) (aCons (e2 ltD (eVar 3) (eK (.int 61))) (aNil)))))) (sRet (eK (.bl false))) (sSkip))))
    (sSeq (sFor (iSeq (eN mkTup (aCons (eK (.int 9)) (aCons (eK (.int 10)) (aCons (eK (.int 11)) (aNil)))))) (gName 4) (sFor (iArgs range1 (aCons (eK (.int 3)) (aNil))) (gName 5) (sIf (tNot (tTruth (eN (callK (F 17) []) (aCons (eN (callK (F 7) []) (aCons (eN (callK (F 14) []) (aCons (eVar 2) (aCons (eVar 4) (aNil)))) (aNil))) (aCons (e2 ltD (eVar 4) (eK (.int 11))) (aNil)))))) (sRet (eK (.bl false))) (sSkip))))
    (sIf (tOr (tNot (tTruth (eN (callK (F 15) []) (aCons (eVar 2) (aNil))))) (tNot (tTruth (eN allD (aCons (eLc (iArgs range1 (aCons (eK (.int 5)) (aNil))) [5] (gName 5) (tYesD) (eN (callK (F 17) []) (aCons (eN (callK (F 7) []) (aCons (eN (callK (F 18) []) (aCons (eVar 2) (aNil))) (aNil))) (aCons (eK (.bl false)) (aNil))))) (aNil)))))) (sRet (eK (.bl false))) (sSkip))))))
    (sRet (eK (.bl true))))
def tab (F : Nat → FN) : List FN := [run 1 1 (m_is_whole F),
  run 3 3 (m_is_number F),
  run 1 2 (m_is_name F),
  run 1 4 (m_is_leaf F),
  run 2 2 (m_is_mark F),
  run 4 11 (m_is_thing_with F),
  run 1 2 (m_count_of F),
  run 1 1 (m_is_program F),
  run 2 4 (m_law_hand F),
  run 2 3 (m_law_take F),
  run 2 2 (m_law_pick F),
  run 1 1 (m_law_leaf F),
  run 2 5 (m_law_sized F),
  run 2 6 (m_law_pack F),
  run 2 5 (m_law_tower F),
  run 1 9 (m_law_parts_right F),
  run 0 5 (m_law_marks_right F),
  run 2 2 (m_law_is F),
  run 1 4 (m_law_far F),
  run 1 6 (m_law F)]
def Fs : Nat → Nat → FN
  | 0, _ => fun _ _ => .bad
  | k + 1, i => (tab (Fs k)).getD i fun _ _ => .bad
theorem Fs_is_whole (k : Nat) : Fs (k + 1) 0 = run 1 1 (m_is_whole (Fs k)) := rfl
theorem Fs_is_number (k : Nat) : Fs (k + 1) 1 = run 3 3 (m_is_number (Fs k)) := rfl
theorem Fs_is_name (k : Nat) : Fs (k + 1) 2 = run 1 2 (m_is_name (Fs k)) := rfl
theorem Fs_is_leaf (k : Nat) : Fs (k + 1) 3 = run 1 4 (m_is_leaf (Fs k)) := rfl
theorem Fs_is_mark (k : Nat) : Fs (k + 1) 4 = run 2 2 (m_is_mark (Fs k)) := rfl
theorem Fs_is_thing_with (k : Nat) : Fs (k + 1) 5 = run 4 11 (m_is_thing_with (Fs k)) := rfl
theorem Fs_count_of (k : Nat) : Fs (k + 1) 6 = run 1 2 (m_count_of (Fs k)) := rfl
theorem Fs_is_program (k : Nat) : Fs (k + 1) 7 = run 1 1 (m_is_program (Fs k)) := rfl
theorem Fs_law_hand (k : Nat) : Fs (k + 1) 8 = run 2 4 (m_law_hand (Fs k)) := rfl
theorem Fs_law_take (k : Nat) : Fs (k + 1) 9 = run 2 3 (m_law_take (Fs k)) := rfl
theorem Fs_law_pick (k : Nat) : Fs (k + 1) 10 = run 2 2 (m_law_pick (Fs k)) := rfl
theorem Fs_law_leaf (k : Nat) : Fs (k + 1) 11 = run 1 1 (m_law_leaf (Fs k)) := rfl
theorem Fs_law_sized (k : Nat) : Fs (k + 1) 12 = run 2 5 (m_law_sized (Fs k)) := rfl
theorem Fs_law_pack (k : Nat) : Fs (k + 1) 13 = run 2 6 (m_law_pack (Fs k)) := rfl
theorem Fs_law_tower (k : Nat) : Fs (k + 1) 14 = run 2 5 (m_law_tower (Fs k)) := rfl
theorem Fs_law_parts_right (k : Nat) : Fs (k + 1) 15 = run 1 9 (m_law_parts_right (Fs k)) := rfl
theorem Fs_law_marks_right (k : Nat) : Fs (k + 1) 16 = run 0 5 (m_law_marks_right (Fs k)) := rfl
theorem Fs_law_is (k : Nat) : Fs (k + 1) 17 = run 2 2 (m_law_is (Fs k)) := rfl
theorem Fs_law_far (k : Nat) : Fs (k + 1) 18 = run 1 4 (m_law_far (Fs k)) := rfl
theorem Fs_law (k : Nat) : Fs (k + 1) 19 = run 1 6 (m_law (Fs k)) := rfl
end K02
set_option Elab.async false
set_option linter.all false
set_option maxRecDepth 100000
set_option maxHeartbeats 4000000
namespace K02
open PySem PySem.Spec PyProof.Rows L2 L3
def topS (i : Nat) : Stmt := PySem.Challenge.pw_holepatterns_k02_programs_at_their_bound.main.body.getD i (.Pass ⟨0, 0, 0, 0⟩)
abbrev s_is_whole : Stmt := topS 8
abbrev N_is_whole : List Str := ["thing"]
theorem sc_is_whole : FnScope N_is_whole ["thing"] (defScope s_is_whole) := ⟨rfl, rfl, rfl, by decide +kernel, rfl, by decide +kernel, by decide +kernel⟩
abbrev s_is_number : Stmt := topS 9
abbrev N_is_number : List Str := ["thing", "low", "high"]
theorem sc_is_number : FnScope N_is_number ["thing", "low", "high"] (defScope s_is_number) := ⟨rfl, rfl, rfl, by decide +kernel, rfl, by decide +kernel, by decide +kernel⟩
abbrev s_is_name : Stmt := topS 10
abbrev N_is_name : List Str := ["thing", "sign"]
theorem sc_is_name : FnScope N_is_name ["thing"] (defScope s_is_name) := ⟨rfl, rfl, rfl, by decide +kernel, rfl, by decide +kernel, by decide +kernel⟩
abbrev s_is_leaf : Stmt := topS 17
abbrev N_is_leaf : List Str := ["thing", "word", "mark", "parts"]
theorem sc_is_leaf : FnScope N_is_leaf ["thing"] (defScope s_is_leaf) := ⟨rfl, rfl, rfl, by decide +kernel, rfl, by decide +kernel, by decide +kernel⟩
abbrev s_is_mark : Stmt := topS 18
abbrev N_is_mark : List Str := ["gives", "mark"]
theorem sc_is_mark : FnScope N_is_mark ["gives", "mark"] (defScope s_is_mark) := ⟨rfl, rfl, rfl, by decide +kernel, rfl, by decide +kernel, by decide +kernel⟩
abbrev s_is_thing_with : Stmt := topS 19
abbrev N_is_thing_with : List Str := ["leaf_look", "thing", "deep", "widest", "word", "mark", "parts", "fewest", "most", "gives", "part"]
theorem sc_is_thing_with : FnScope N_is_thing_with ["leaf_look", "thing", "deep", "widest"] (defScope s_is_thing_with) := ⟨rfl, rfl, rfl, by decide +kernel, rfl, by decide +kernel, by decide +kernel⟩
abbrev s_count_of : Stmt := topS 20
abbrev N_count_of : List Str := ["thing", "part"]
theorem sc_count_of : FnScope N_count_of ["thing"] (defScope s_count_of) := ⟨rfl, rfl, rfl, by decide +kernel, rfl, by decide +kernel, by decide +kernel⟩
abbrev s_is_program : Stmt := topS 21
abbrev N_is_program : List Str := ["thing"]
theorem sc_is_program : FnScope N_is_program ["thing"] (defScope s_is_program) := ⟨rfl, rfl, rfl, by decide +kernel, rfl, by decide +kernel, by decide +kernel⟩
abbrev s_law_hand : Stmt := topS 23
abbrev N_law_hand : List Str := ["_law_script", "_law_k", "_law_cell", "_law_great"]
theorem sc_law_hand : FnScope N_law_hand ["_law_script", "_law_k"] (defScope s_law_hand) := ⟨rfl, rfl, rfl, by decide +kernel, rfl, by decide +kernel, by decide +kernel⟩
abbrev s_law_take : Stmt := topS 24
abbrev N_law_take : List Str := ["_law_hand_here", "_law_many", "_law_digit"]
theorem sc_law_take : FnScope N_law_take ["_law_hand_here", "_law_many"] (defScope s_law_take) := ⟨rfl, rfl, rfl, by decide +kernel, rfl, by decide +kernel, by decide +kernel⟩
abbrev s_law_pick : Stmt := topS 25
abbrev N_law_pick : List Str := ["_law_hand_here", "_law_some"]
theorem sc_law_pick : FnScope N_law_pick ["_law_hand_here", "_law_some"] (defScope s_law_pick) := ⟨rfl, rfl, rfl, by decide +kernel, rfl, by decide +kernel, by decide +kernel⟩
abbrev s_law_leaf : Stmt := topS 26
abbrev N_law_leaf : List Str := ["_law_hand_here"]
theorem sc_law_leaf : FnScope N_law_leaf ["_law_hand_here"] (defScope s_law_leaf) := ⟨rfl, rfl, rfl, by decide +kernel, rfl, by decide +kernel, by decide +kernel⟩
abbrev s_law_sized : Stmt := topS 27
abbrev N_law_sized : List Str := ["_law_hand_here", "_law_many", "_law_found", "_law_left", "_law_more"]
theorem sc_law_sized : FnScope N_law_sized ["_law_hand_here", "_law_many"] (defScope s_law_sized) := ⟨rfl, rfl, rfl, by decide +kernel, rfl, by decide +kernel, by decide +kernel⟩
abbrev s_law_pack : Stmt := topS 28
abbrev N_law_pack : List Str := ["_law_hand_here", "_law_many", "_law_k", "_law_parts", "_law_left", "_law_more"]
theorem sc_law_pack : FnScope N_law_pack ["_law_hand_here", "_law_many"] (defScope s_law_pack) := ⟨rfl, rfl, rfl, by decide +kernel, rfl, by decide +kernel, by decide +kernel⟩
abbrev s_law_tower : Stmt := topS 29
abbrev N_law_tower : List Str := ["_law_hand_here", "_law_deep", "_law_made", "_law_k", "_law_some"]
theorem sc_law_tower : FnScope N_law_tower ["_law_hand_here", "_law_deep"] (defScope s_law_tower) := ⟨rfl, rfl, rfl, by decide +kernel, rfl, by decide +kernel, by decide +kernel⟩
abbrev s_law_parts_right : Stmt := topS 30
abbrev N_law_parts_right : List Str := ["_law_hand_here", "_law_bounds", "_law_word", "_law_fewest", "_law_most", "_law_mark", "_law_count", "_law_made", "_law_k"]
theorem sc_law_parts_right : FnScope N_law_parts_right ["_law_hand_here"] (defScope s_law_parts_right) := ⟨rfl, rfl, rfl, by decide +kernel, rfl, by decide +kernel, by decide +kernel⟩
abbrev s_law_marks_right : Stmt := topS 31
abbrev N_law_marks_right : List Str := ["_law_good", "_law_odd", "_law_shut", "_law_word", "_law_made"]
theorem sc_law_marks_right : FnScope N_law_marks_right [] (defScope s_law_marks_right) := ⟨rfl, rfl, rfl, by decide +kernel, rfl, by decide +kernel, by decide +kernel⟩
abbrev s_law_is : Stmt := topS 32
abbrev N_law_is : List Str := ["_law_told", "_law_due"]
theorem sc_law_is : FnScope N_law_is ["_law_told", "_law_due"] (defScope s_law_is) := ⟨rfl, rfl, rfl, by decide +kernel, rfl, by decide +kernel, by decide +kernel⟩
abbrev s_law_far : Stmt := topS 33
abbrev N_law_far : List Str := ["_law_hand_here", "_law_found", "_law_k", "_law_wide"]
theorem sc_law_far : FnScope N_law_far ["_law_hand_here"] (defScope s_law_far) := ⟨rfl, rfl, rfl, by decide +kernel, rfl, by decide +kernel, by decide +kernel⟩
abbrev s_law : Stmt := topS 34
abbrev N_law : List Str := ["_law_script", "_law_k", "_law_hand_here", "_law_many", "_law_deep", "_law_turn"]
theorem sc_law : FnScope N_law ["_law_script"] (defScope s_law) := ⟨rfl, rfl, rfl, by decide +kernel, rfl, by decide +kernel, by decide +kernel⟩
structure Txt (K : PySem.W.Frag) (w : World) (mg : Str → Option Value) (fa : Nat → Addr) (fd : Nat → FuncData) : Prop where
  z_abs : mg "abs" = none
  z_all : mg "all" = none
  z_bool : mg "bool" = none
  z_int : mg "int" = none
  z_isinstance : mg "isinstance" = none
  z_len : mg "len" = none
  z_max : mg "max" = none
  z_min : mg "min" = none
  z_range : mg "range" = none
  z_str : mg "str" = none
  z_sum : mg "sum" = none
  z_tuple : mg "tuple" = none
  c_LETTERS : GRep ⟨K, w, mg⟩ "LETTERS" c_LETTERS
  c_MOST_DEEP : GRep ⟨K, w, mg⟩ "MOST_DEEP" c_MOST_DEEP
  c_MOST_PASSES : GRep ⟨K, w, mg⟩ "MOST_PASSES" c_MOST_PASSES
  c_MOST_SIGNS : GRep ⟨K, w, mg⟩ "MOST_SIGNS" c_MOST_SIGNS
  c_MOST_THINGS : GRep ⟨K, w, mg⟩ "MOST_THINGS" c_MOST_THINGS
  c_NAME : GRep ⟨K, w, mg⟩ "NAME" c_NAME
  c_NUM : GRep ⟨K, w, mg⟩ "NUM" c_NUM
  c_ROW : GRep ⟨K, w, mg⟩ "ROW" c_ROW
  c_SHAPES : GRep ⟨K, w, mg⟩ "SHAPES" c_SHAPES
  c_WHEEL : GRep ⟨K, w, mg⟩ "WHEEL" c_WHEEL
  c_WORDS : GRep ⟨K, w, mg⟩ "WORDS" c_WORDS
  g_is_whole : mg "is_whole" = some (.ref (fa 0))
  F_is_whole : FunD K "is_whole" "is_whole" (defArgs s_is_whole) (defBody s_is_whole) (defScope s_is_whole) [] [] (fa 0) (fd 0)
  g_is_number : mg "is_number" = some (.ref (fa 1))
  F_is_number : FunD K "is_number" "is_number" (defArgs s_is_number) (defBody s_is_number) (defScope s_is_number) [] [("low", .int 0), ("high", .int 9972)] (fa 1) (fd 1)
  g_is_name : mg "is_name" = some (.ref (fa 2))
  F_is_name : FunD K "is_name" "is_name" (defArgs s_is_name) (defBody s_is_name) (defScope s_is_name) [] [] (fa 2) (fd 2)
  g_is_leaf : mg "is_leaf" = some (.ref (fa 3))
  F_is_leaf : FunD K "is_leaf" "is_leaf" (defArgs s_is_leaf) (defBody s_is_leaf) (defScope s_is_leaf) [] [] (fa 3) (fd 3)
  g_is_mark : mg "is_mark" = some (.ref (fa 4))
  F_is_mark : FunD K "is_mark" "is_mark" (defArgs s_is_mark) (defBody s_is_mark) (defScope s_is_mark) [] [] (fa 4) (fd 4)
  g_is_thing_with : mg "is_thing_with" = some (.ref (fa 5))
  F_is_thing_with : FunD K "is_thing_with" "is_thing_with" (defArgs s_is_thing_with) (defBody s_is_thing_with) (defScope s_is_thing_with) [] [("widest", .int 6)] (fa 5) (fd 5)
  g_count_of : mg "count_of" = some (.ref (fa 6))
  F_count_of : FunD K "count_of" "count_of" (defArgs s_count_of) (defBody s_count_of) (defScope s_count_of) [] [] (fa 6) (fd 6)
  g_is_program : mg "is_program" = some (.ref (fa 7))
  F_is_program : FunD K "is_program" "is_program" (defArgs s_is_program) (defBody s_is_program) (defScope s_is_program) [] [] (fa 7) (fd 7)
  g_law_hand : mg "_law_hand" = some (.ref (fa 8))
  F_law_hand : FunD K "_law_hand" "_law_hand" (defArgs s_law_hand) (defBody s_law_hand) (defScope s_law_hand) [] [] (fa 8) (fd 8)
  g_law_take : mg "_law_take" = some (.ref (fa 9))
  F_law_take : FunD K "_law_take" "_law_take" (defArgs s_law_take) (defBody s_law_take) (defScope s_law_take) [] [] (fa 9) (fd 9)
  g_law_pick : mg "_law_pick" = some (.ref (fa 10))
  F_law_pick : FunD K "_law_pick" "_law_pick" (defArgs s_law_pick) (defBody s_law_pick) (defScope s_law_pick) [] [] (fa 10) (fd 10)
  g_law_leaf : mg "_law_leaf" = some (.ref (fa 11))
  F_law_leaf : FunD K "_law_leaf" "_law_leaf" (defArgs s_law_leaf) (defBody s_law_leaf) (defScope s_law_leaf) [] [] (fa 11) (fd 11)
  g_law_sized : mg "_law_sized" = some (.ref (fa 12))
  F_law_sized : FunD K "_law_sized" "_law_sized" (defArgs s_law_sized) (defBody s_law_sized) (defScope s_law_sized) [] [] (fa 12) (fd 12)
  g_law_pack : mg "_law_pack" = some (.ref (fa 13))
  F_law_pack : FunD K "_law_pack" "_law_pack" (defArgs s_law_pack) (defBody s_law_pack) (defScope s_law_pack) [] [] (fa 13) (fd 13)
  g_law_tower : mg "_law_tower" = some (.ref (fa 14))
  F_law_tower : FunD K "_law_tower" "_law_tower" (defArgs s_law_tower) (defBody s_law_tower) (defScope s_law_tower) [] [] (fa 14) (fd 14)
  g_law_parts_right : mg "_law_parts_right" = some (.ref (fa 15))
  F_law_parts_right : FunD K "_law_parts_right" "_law_parts_right" (defArgs s_law_parts_right) (defBody s_law_parts_right) (defScope s_law_parts_right) [] [] (fa 15) (fd 15)
  g_law_marks_right : mg "_law_marks_right" = some (.ref (fa 16))
  F_law_marks_right : FunD K "_law_marks_right" "_law_marks_right" (defArgs s_law_marks_right) (defBody s_law_marks_right) (defScope s_law_marks_right) [] [] (fa 16) (fd 16)
  g_law_is : mg "_law_is" = some (.ref (fa 17))
  F_law_is : FunD K "_law_is" "_law_is" (defArgs s_law_is) (defBody s_law_is) (defScope s_law_is) [] [] (fa 17) (fd 17)
  g_law_far : mg "_law_far" = some (.ref (fa 18))
  F_law_far : FunD K "_law_far" "_law_far" (defArgs s_law_far) (defBody s_law_far) (defScope s_law_far) [] [] (fa 18) (fd 18)
  g_law : mg "law" = some (.ref (fa 19))
  F_law : FunD K "law" "law" (defArgs s_law) (defBody s_law) (defScope s_law) [] [] (fa 19) (fd 19)
section
variable {P : Program} {K : PySem.W.Frag} {w : World} {mg : Str → Option Value} {base : Heap} {fa : Nat → Addr} {fd : Nat → FuncData}
theorem Txt.bnd_is_whole (T : Txt K w mg fa fd) : Bnd ⟨K, w, mg⟩ (fd 0) ["thing"] [] := bnd0 (T.F_is_whole.bindsN fun _ _ _ _ _ _ us hl => match us, hl with | [_], _ => rfl)
theorem Txt.bnd1_is_number (T : Txt K w mg fa fd) : Bnd ⟨K, w, mg⟩ (fd 1) ["thing", "low", "high"] [(.int 0), (.int 9972)] := by
  obtain ⟨ds, h1, h2⟩ := T.F_is_number.binds0 (ps := ["thing", "low", "high"]) 1 (by simp) rfl fun D doc pm an cdv ct us ks h1 h2 => match us, h1, ks, h2 with
    | [_], _, [_, _], _ => ⟨_, _, _, _, _, _, rfl, rfl, ⟨_, _, _, _, _, _, rfl, rfl, rfl⟩⟩
  exact ⟨_, ds, h1, h2, fun w => by simp [RepL, Rep]⟩
theorem Txt.bnd_is_name (T : Txt K w mg fa fd) : Bnd ⟨K, w, mg⟩ (fd 2) ["thing"] [] := bnd0 (T.F_is_name.bindsN fun _ _ _ _ _ _ us hl => match us, hl with | [_], _ => rfl)
theorem Txt.bnd_is_leaf (T : Txt K w mg fa fd) : Bnd ⟨K, w, mg⟩ (fd 3) ["thing"] [] := bnd0 (T.F_is_leaf.bindsN fun _ _ _ _ _ _ us hl => match us, hl with | [_], _ => rfl)
theorem Txt.bnd_is_mark (T : Txt K w mg fa fd) : Bnd ⟨K, w, mg⟩ (fd 4) ["gives", "mark"] [] := bnd0 (T.F_is_mark.bindsN fun _ _ _ _ _ _ us hl => match us, hl with | [_, _], _ => rfl)
theorem Txt.bnd3_is_thing_with (T : Txt K w mg fa fd) : Bnd ⟨K, w, mg⟩ (fd 5) ["leaf_look", "thing", "deep", "widest"] [(.int 6)] := by
  obtain ⟨ds, h1, h2⟩ := T.F_is_thing_with.binds0 (ps := ["leaf_look", "thing", "deep", "widest"]) 3 (by simp) rfl fun D doc pm an cdv ct us ks h1 h2 => match us, h1, ks, h2 with
    | [_, _, _], _, [_], _ => ⟨_, _, _, _, _, _, rfl, rfl, rfl⟩
  exact ⟨_, ds, h1, h2, fun w => by simp [RepL, Rep]⟩
theorem Txt.bnd_count_of (T : Txt K w mg fa fd) : Bnd ⟨K, w, mg⟩ (fd 6) ["thing"] [] := bnd0 (T.F_count_of.bindsN fun _ _ _ _ _ _ us hl => match us, hl with | [_], _ => rfl)
theorem Txt.bnd_is_program (T : Txt K w mg fa fd) : Bnd ⟨K, w, mg⟩ (fd 7) ["thing"] [] := bnd0 (T.F_is_program.bindsN fun _ _ _ _ _ _ us hl => match us, hl with | [_], _ => rfl)
theorem Txt.bnd_law_hand (T : Txt K w mg fa fd) : Bnd ⟨K, w, mg⟩ (fd 8) ["_law_script", "_law_k"] [] := bnd0 (T.F_law_hand.bindsN fun _ _ _ _ _ _ us hl => match us, hl with | [_, _], _ => rfl)
theorem Txt.bnd_law_take (T : Txt K w mg fa fd) : Bnd ⟨K, w, mg⟩ (fd 9) ["_law_hand_here", "_law_many"] [] := bnd0 (T.F_law_take.bindsN fun _ _ _ _ _ _ us hl => match us, hl with | [_, _], _ => rfl)
theorem Txt.bnd_law_pick (T : Txt K w mg fa fd) : Bnd ⟨K, w, mg⟩ (fd 10) ["_law_hand_here", "_law_some"] [] := bnd0 (T.F_law_pick.bindsN fun _ _ _ _ _ _ us hl => match us, hl with | [_, _], _ => rfl)
theorem Txt.bnd_law_leaf (T : Txt K w mg fa fd) : Bnd ⟨K, w, mg⟩ (fd 11) ["_law_hand_here"] [] := bnd0 (T.F_law_leaf.bindsN fun _ _ _ _ _ _ us hl => match us, hl with | [_], _ => rfl)
theorem Txt.bnd_law_sized (T : Txt K w mg fa fd) : Bnd ⟨K, w, mg⟩ (fd 12) ["_law_hand_here", "_law_many"] [] := bnd0 (T.F_law_sized.bindsN fun _ _ _ _ _ _ us hl => match us, hl with | [_, _], _ => rfl)
theorem Txt.bnd_law_pack (T : Txt K w mg fa fd) : Bnd ⟨K, w, mg⟩ (fd 13) ["_law_hand_here", "_law_many"] [] := bnd0 (T.F_law_pack.bindsN fun _ _ _ _ _ _ us hl => match us, hl with | [_, _], _ => rfl)
theorem Txt.bnd_law_tower (T : Txt K w mg fa fd) : Bnd ⟨K, w, mg⟩ (fd 14) ["_law_hand_here", "_law_deep"] [] := bnd0 (T.F_law_tower.bindsN fun _ _ _ _ _ _ us hl => match us, hl with | [_, _], _ => rfl)
theorem Txt.bnd_law_parts_right (T : Txt K w mg fa fd) : Bnd ⟨K, w, mg⟩ (fd 15) ["_law_hand_here"] [] := bnd0 (T.F_law_parts_right.bindsN fun _ _ _ _ _ _ us hl => match us, hl with | [_], _ => rfl)
theorem Txt.bnd_law_marks_right (T : Txt K w mg fa fd) : Bnd ⟨K, w, mg⟩ (fd 16) [] [] := bnd0 (T.F_law_marks_right.bindsN fun _ _ _ _ _ _ us hl => match us, hl with | [], _ => rfl)
theorem Txt.bnd_law_is (T : Txt K w mg fa fd) : Bnd ⟨K, w, mg⟩ (fd 17) ["_law_told", "_law_due"] [] := bnd0 (T.F_law_is.bindsN fun _ _ _ _ _ _ us hl => match us, hl with | [_, _], _ => rfl)
theorem Txt.bnd_law_far (T : Txt K w mg fa fd) : Bnd ⟨K, w, mg⟩ (fd 18) ["_law_hand_here"] [] := bnd0 (T.F_law_far.bindsN fun _ _ _ _ _ _ us hl => match us, hl with | [_], _ => rfl)
theorem Txt.bnd_law (T : Txt K w mg fa fd) : Bnd ⟨K, w, mg⟩ (fd 19) ["_law_script"] [] := bnd0 (T.F_law.bindsN fun _ _ _ _ _ _ us hl => match us, hl with | [_], _ => rfl)
theorem Txt.kbd_is_thing_with_3_widest (T : Txt K w mg fa fd) : Kbd ⟨K, w, mg⟩ (fd 5) ["leaf_look", "thing", "deep", "widest"] 3 ["widest"] kbd_is_thing_with_3_widest_g := by
  obtain ⟨oc, od, dV, kV, doc, pm, an, cdv, ct, osl, e, _, _, hD, _⟩ := T.F_is_thing_with.ex
  obtain rfl : dV = .none := hD.elim (fun h => h.2) fun h => absurd rfl h.1
  refine ⟨fun us ws => us ++ ws, fun vs zs => vs ++ zs, ⟨fun s us ws X h1 h2 => ?_, fun r1 r2 => r1.append r2⟩, fun w ds es vs zs h1 h2 r1 r2 => ?_⟩
  · rw [e]
    match us, h1, ws, h2 with
    | [_, _, _], _, [_], _ => exact .of_eq rfl
  · match ds, h1, es, h2 with
    | [_, _, _], _, [_], _ => exact r1.append r2
end
theorem b_is_whole {P : Program} {K : PySem.W.Frag} {w : World} {mg : Str → Option Value} {base : Heap} {fa : Nat → Addr} {fd : Nat → FuncData} {F : Nat → FN} {k : Nat} (T : Txt K w mg fa fd) (cdv : Value) (A : Around) (outer : List Env) (s : Shared) (H : Hp) (E : XK)
    (hr : Room k (A.deeper (envOfC "is_whole" (defScope s_is_whole) s.heap.objs.size (fa 0) cdv))) :
    PSs (cxOf (L2.CX P w) P w K mg base N_is_whole "is_whole" (defScope s_is_whole) (fa 0) cdv A outer s H E) (defBody s_is_whole) (tS ⟨K, w, mg⟩ (m_is_whole F) (WE0 E)) :=
  q_sone (q_ret (q_eand (q_callB (o_isi (by rfl)) c_isi (by rfl) T.z_isinstance b_isinstance (q_cons (q_var (pv 0)) (q_cons (q_ty T.z_int b_int (by rfl)) (q_nil)))) (q_eone (q_enot (q_callB (o_isi (by rfl)) c_isi (by rfl) T.z_isinstance b_isinstance (q_cons (q_var (pv 0)) (q_cons (q_ty T.z_bool b_bool (by rfl)) (q_nil))))))))
theorem b_is_number {P : Program} {K : PySem.W.Frag} {w : World} {mg : Str → Option Value} {base : Heap} {fa : Nat → Addr} {fd : Nat → FuncData} {F : Nat → FN} {k : Nat} (T : Txt K w mg fa fd) (C_is_whole : Cal P w ⟨K, w, mg⟩ base k "is_whole" (fa 0) (fd 0) ["thing"] (F 0)) (cdv : Value) (A : Around) (outer : List Env) (s : Shared) (H : Hp) (E : XK)
    (hr : Room k (A.deeper (envOfC "is_number" (defScope s_is_number) s.heap.objs.size (fa 1) cdv))) :
    PSs (cxOf (L2.CX P w) P w K mg base N_is_number "is_number" (defScope s_is_number) (fa 1) cdv A outer s H E) (defBody s_is_number) (tS ⟨K, w, mg⟩ (m_is_number F) (WE0 E)) :=
  q_sone (q_ret (q_eand (q_fn C_is_whole T.bnd_is_whole hr (by rfl) (by rfl) (by rfl) tk_body (q_cons (q_var (pv 0)) (q_nil))) (q_eone (q_chain o_le c_le o_le c_le (q_var (pv 1)) (q_var (pv 0)) (q_var (pv 2))))))
theorem b_is_name {P : Program} {K : PySem.W.Frag} {w : World} {mg : Str → Option Value} {base : Heap} {fa : Nat → Addr} {fd : Nat → FuncData} {F : Nat → FN} {k : Nat} (T : Txt K w mg fa fd) (cdv : Value) (A : Around) (outer : List Env) (s : Shared) (H : Hp) (E : XK)
    (hr : Room k (A.deeper (envOfC "is_name" (defScope s_is_name) s.heap.objs.size (fa 2) cdv))) :
    PSs (cxOf (L2.CX P w) P w K mg base N_is_name "is_name" (defScope s_is_name) (fa 2) cdv A outer s H E) (defBody s_is_name) (tS ⟨K, w, mg⟩ (m_is_name F) (WE0 E)) :=
  q_scons (q_if (q_tb (w_or (q_tnot (q_truth (by rfl) (q_callB (o_isi (by rfl)) c_isi (by rfl) T.z_isinstance b_isinstance (q_cons (q_var (pv 0)) (q_cons (q_ty T.z_str b_str (by rfl)) (q_nil)))))) (w_or (q_tnot (q_tchain o_le c_le o_le c_le (q_int) (q_callB (o_len (by rfl)) c_len (by rfl) T.z_len b_len (q_cons (q_var (pv 0)) (q_nil))) (q_cst T.c_MOST_SIGNS (by rfl) (by rfl)))) (w_or1 (q_tcmp (o_in (by rfl) (by rfl) (u65 hr)) c_in (q_var (pv 0)) (q_cst T.c_WORDS (by rfl) (by rfl)) (by rfl)))))) (q_sone (q_ret (q_bl))) (q_snil))
    (q_sone (q_ret (q_callB (o_all (by rfl)) c_all (by rfl) T.z_all b_all (q_cons (q_lc (own := [("sign", 1)]) (by rfl) sc_is_name.nd (q_iter (by rfl) (q_var (pv 0))) (blkOk_by (own := [("sign", 1)]) (N := N_is_name) (sc := defScope s_is_name) (by decide +kernel)) (fun _ _ _ _ _ => q_gnameW (pg_name (i := 1) sc_is_name.nd (by rfl) (.inl (by rfl))) (by decide)) (fun _ _ _ _ _ => q_tnil) (fun _ _ _ _ _ => q_cmp (o_in (by rfl) (by rfl) (u65 hr)) c_in (q_var (pv 1)) (q_cst T.c_LETTERS (by rfl) (by rfl)) (by rfl))) (q_nil)))))
theorem b_is_leaf {P : Program} {K : PySem.W.Frag} {w : World} {mg : Str → Option Value} {base : Heap} {fa : Nat → Addr} {fd : Nat → FuncData} {F : Nat → FN} {k : Nat} (T : Txt K w mg fa fd) (C_is_name : Cal P w ⟨K, w, mg⟩ base k "is_name" (fa 2) (fd 2) ["thing"] (F 2)) (C_is_number : Cal P w ⟨K, w, mg⟩ base k "is_number" (fa 1) (fd 1) ["thing", "low", "high"] (F 1)) (cdv : Value) (A : Around) (outer : List Env) (s : Shared) (H : Hp) (E : XK)
    (hr : Room k (A.deeper (envOfC "is_leaf" (defScope s_is_leaf) s.heap.objs.size (fa 3) cdv))) :
    PSs (cxOf (L2.CX P w) P w K mg base N_is_leaf "is_leaf" (defScope s_is_leaf) (fa 3) cdv A outer s H E) (defBody s_is_leaf) (tS ⟨K, w, mg⟩ (m_is_leaf F) (WE0 E)) :=
  q_scons (q_asg (q_var (pv 0)) (q_gtup (by rfl) (by rfl) (q_gscons (pg_name (i := 1) sc_is_leaf.nd (by rfl) (.inl (by rfl))) (q_gscons (pg_name (i := 2) sc_is_leaf.nd (by rfl) (.inl (by rfl))) (q_gscons (pg_name (i := 3) sc_is_leaf.nd (by rfl) (.inl (by rfl))) (q_gsnil))))) (gn := gn_tup))
    (q_scons (q_if (q_tcmp (o_ne (by rfl) hr.units) c_ne (q_var (pv 3)) (q_tup (q_nil)) (nomark _)) (q_sone (q_ret (q_bl))) (q_snil))
    (q_sone (q_ret (q_eor (q_eand (q_cmp (o_eq (by rfl) hr.units) c_eq (q_var (pv 1)) (q_cst T.c_NUM (by rfl) (by rfl)) (nomark _)) (q_eone (q_fn C_is_number T.bnd1_is_number hr (by rfl) (by rfl) (by rfl) tk_body (q_cons (q_var (pv 2)) (q_nil))))) (q_eone (q_eand (q_cmp (o_eq (by rfl) hr.units) c_eq (q_var (pv 1)) (q_cst T.c_NAME (by rfl) (by rfl)) (nomark _)) (q_eone (q_fn C_is_name T.bnd_is_name hr (by rfl) (by rfl) (by rfl) tk_body (q_cons (q_var (pv 2)) (q_nil))))))))))
theorem b_is_mark {P : Program} {K : PySem.W.Frag} {w : World} {mg : Str → Option Value} {base : Heap} {fa : Nat → Addr} {fd : Nat → FuncData} {F : Nat → FN} {k : Nat} (T : Txt K w mg fa fd) (C_is_name : Cal P w ⟨K, w, mg⟩ base k "is_name" (fa 2) (fd 2) ["thing"] (F 2)) (cdv : Value) (A : Around) (outer : List Env) (s : Shared) (H : Hp) (E : XK)
    (hr : Room k (A.deeper (envOfC "is_mark" (defScope s_is_mark) s.heap.objs.size (fa 4) cdv))) :
    PSs (cxOf (L2.CX P w) P w K mg base N_is_mark "is_mark" (defScope s_is_mark) (fa 4) cdv A outer s H E) (defBody s_is_mark) (tS ⟨K, w, mg⟩ (m_is_mark F) (WE0 E)) :=
  q_scons (q_if (q_truth (by rfl) (q_var (pv 0))) (q_sone (q_ret (q_fn C_is_name T.bnd_is_name hr (by rfl) (by rfl) (by rfl) tk_body (q_cons (q_var (pv 1)) (q_nil))))) (q_snil))
    (q_sone (q_ret (q_eand (q_callB (o_isi (by rfl)) c_isi (by rfl) T.z_isinstance b_isinstance (q_cons (q_var (pv 1)) (q_cons (q_ty T.z_str b_str (by rfl)) (q_nil)))) (q_eone (q_cmp (o_eq (by rfl) hr.units) c_eq (q_var (pv 1)) (q_str) (nomark _))))))
theorem b_is_thing_with {P : Program} {K : PySem.W.Frag} {w : World} {mg : Str → Option Value} {base : Heap} {fa : Nat → Addr} {fd : Nat → FuncData} {F : Nat → FN} {k : Nat} (T : Txt K w mg fa fd) (C_is_leaf : Cal P w ⟨K, w, mg⟩ base k "is_leaf" (fa 3) (fd 3) ["thing"] (F 3)) (C_is_mark : Cal P w ⟨K, w, mg⟩ base k "is_mark" (fa 4) (fd 4) ["gives", "mark"] (F 4)) (C_is_thing_with : Cal P w ⟨K, w, mg⟩ base k "is_thing_with" (fa 5) (fd 5) ["leaf_look", "thing", "deep", "widest"] (F 5)) (cdv : Value) (A : Around) (outer : List Env) (s : Shared) (H : Hp) (E : XK)
    (hr : Room k (A.deeper (envOfC "is_thing_with" (defScope s_is_thing_with) s.heap.objs.size (fa 5) cdv))) :
    PSs (cxOf (L2.CX P w) P w K mg base N_is_thing_with "is_thing_with" (defScope s_is_thing_with) (fa 5) cdv A outer s H E) (defBody s_is_thing_with) (tS ⟨K, w, mg⟩ (m_is_thing_with F) (WE0 E)) :=
  q_scons (q_if (q_tb (w_or (q_tcmp o_lt c_lt (q_var (pv 2)) (q_int) (nomark _)) (w_or (q_tnot (q_truth (by rfl) (q_callB (o_isi (by rfl)) c_isi (by rfl) T.z_isinstance b_isinstance (q_cons (q_var (pv 1)) (q_cons (q_ty T.z_tuple b_tuple (by rfl)) (q_nil)))))) (w_or1 (q_tcmp (o_ne (by rfl) hr.units) c_ne (q_callB (o_len (by rfl)) c_len (by rfl) T.z_len b_len (q_cons (q_var (pv 1)) (q_nil))) (q_int) (nomark _)))))) (q_sone (q_ret (q_bl))) (q_snil))
    (q_scons (q_asg (q_var (pv 1)) (q_gtup (by rfl) (by rfl) (q_gscons (pg_name (i := 4) sc_is_thing_with.nd (by rfl) (.inl (by rfl))) (q_gscons (pg_name (i := 5) sc_is_thing_with.nd (by rfl) (.inl (by rfl))) (q_gscons (pg_name (i := 6) sc_is_thing_with.nd (by rfl) (.inl (by rfl))) (q_gsnil))))) (gn := gn_tup))
    (q_scons (q_if (q_tb (w_or (q_tnot (q_truth (by rfl) (q_callB (o_isi (by rfl)) c_isi (by rfl) T.z_isinstance b_isinstance (q_cons (q_var (pv 4)) (q_cons (q_ty T.z_str b_str (by rfl)) (q_nil)))))) (w_or1 (q_tnot (q_truth (by rfl) (q_callB (o_isi (by rfl)) c_isi (by rfl) T.z_isinstance b_isinstance (q_cons (q_var (pv 6)) (q_cons (q_ty T.z_tuple b_tuple (by rfl)) (q_nil))))))))) (q_sone (q_ret (q_bl))) (q_snil))
    (q_scons (q_if (q_tcmp (o_notIn (by rfl) (by rfl) (u65 hr)) c_notIn (q_var (pv 4)) (q_cst T.c_SHAPES (by rfl) (by rfl)) (by rfl)) (q_sone (q_ret (q_fnL C_is_leaf T.bnd_is_leaf hr (by rfl) (by rfl) (by rfl) (by first | exact .inl rfl | exact .inr (.inl rfl) | exact .inr (.inr rfl)) tk_body (q_cons (q_var (pv 1)) (q_nil))))) (q_snil))
    (q_scons (q_asg (q_ix (o_ix (by rfl) (by rfl) (u1 hr)) c_ix (q_cst T.c_SHAPES (by rfl) (by rfl)) (q_var (pv 4)) (fun _ _ => rfl)) (q_gtup (by rfl) (by rfl) (q_gscons (pg_name (i := 7) sc_is_thing_with.nd (by rfl) (.inl (by rfl))) (q_gscons (pg_name (i := 8) sc_is_thing_with.nd (by rfl) (.inl (by rfl))) (q_gscons (pg_name (i := 9) sc_is_thing_with.nd (by rfl) (.inl (by rfl))) (q_gsnil))))) (gn := gn_tup))
    (q_scons (q_if (q_tcmp (o_eq (by rfl) hr.units) c_eq (q_var (pv 4)) (q_cst T.c_ROW (by rfl) (by rfl)) (nomark _)) (q_sone (q_set (i := 8) sc_is_thing_with.nd (by rfl) (.inl (by rfl)) (q_var (pv 3)))) (q_snil))
    (q_scons (q_if (q_tb (w_or (q_tnot (q_tchain o_le c_le o_le c_le (q_var (pv 7)) (q_callB (o_len (by rfl)) c_len (by rfl) T.z_len b_len (q_cons (q_var (pv 6)) (q_nil))) (q_var (pv 8)))) (w_or1 (q_tnot (q_truth (by rfl) (q_fn C_is_mark T.bnd_is_mark hr (by rfl) (by rfl) (by rfl) tk_body (q_cons (q_var (pv 9)) (q_cons (q_var (pv 5)) (q_nil))))))))) (q_sone (q_ret (q_bl))) (q_snil))
    (q_sone (q_ret (q_callB (o_all (by rfl)) c_all (by rfl) T.z_all b_all (q_cons (q_lc (own := [("part", 10)]) (by rfl) sc_is_thing_with.nd (q_iter (by rfl) (q_var (pv 6))) (blkOk_by (own := [("part", 10)]) (N := N_is_thing_with) (sc := defScope s_is_thing_with) (by decide +kernel)) (fun _ _ _ _ _ => q_gnameW (pg_name (i := 10) sc_is_thing_with.nd (by rfl) (.inl (by rfl))) (by decide)) (fun _ _ _ _ _ => q_tnil) (fun _ _ _ _ _ => q_fnK C_is_thing_with T.kbd_is_thing_with_3_widest hr (by rfl) (by rfl) (by rfl) tk_blk (q_cons (q_var (pv 0)) (q_cons (q_var (pv 10)) (q_cons (q_op o_sub c_sub (q_var (pv 2)) (q_int)) (q_nil)))) (q_kcons (q_var (pv 3)) (q_knil)))) (q_nil)))))))))))
theorem b_count_of {P : Program} {K : PySem.W.Frag} {w : World} {mg : Str → Option Value} {base : Heap} {fa : Nat → Addr} {fd : Nat → FuncData} {F : Nat → FN} {k : Nat} (T : Txt K w mg fa fd) (C_count_of : Cal P w ⟨K, w, mg⟩ base k "count_of" (fa 6) (fd 6) ["thing"] (F 6)) (cdv : Value) (A : Around) (outer : List Env) (s : Shared) (H : Hp) (E : XK)
    (hr : Room k (A.deeper (envOfC "count_of" (defScope s_count_of) s.heap.objs.size (fa 6) cdv))) :
    PSs (cxOf (L2.CX P w) P w K mg base N_count_of "count_of" (defScope s_count_of) (fa 6) cdv A outer s H E) (defBody s_count_of) (tS ⟨K, w, mg⟩ (m_count_of F) (WE0 E)) :=
  q_sone (q_ret (q_op (o_add (by rfl)) c_add (q_int) (q_callB (o_sum (by rfl)) c_sum (by rfl) T.z_sum b_sum (q_cons (q_lc (own := [("part", 1)]) (by rfl) sc_count_of.nd (q_iter (by rfl) (q_ix (o_ix (by rfl) (by rfl) (u1 hr)) c_ix (q_var (pv 0)) (q_int) (fun _ _ => rfl))) (blkOk_by (own := [("part", 1)]) (N := N_count_of) (sc := defScope s_count_of) (by decide +kernel)) (fun _ _ _ _ _ => q_gnameW (pg_name (i := 1) sc_count_of.nd (by rfl) (.inl (by rfl))) (by decide)) (fun _ _ _ _ _ => q_tnil) (fun _ _ _ _ _ => q_fn C_count_of T.bnd_count_of hr (by rfl) (by rfl) (by rfl) tk_blk (q_cons (q_var (pv 1)) (q_nil)))) (q_nil)))))
theorem b_is_program {P : Program} {K : PySem.W.Frag} {w : World} {mg : Str → Option Value} {base : Heap} {fa : Nat → Addr} {fd : Nat → FuncData} {F : Nat → FN} {k : Nat} (T : Txt K w mg fa fd) (C_count_of : Cal P w ⟨K, w, mg⟩ base k "count_of" (fa 6) (fd 6) ["thing"] (F 6)) (C_is_thing_with : Cal P w ⟨K, w, mg⟩ base k "is_thing_with" (fa 5) (fd 5) ["leaf_look", "thing", "deep", "widest"] (F 5)) (cdv : Value) (A : Around) (outer : List Env) (s : Shared) (H : Hp) (E : XK)
    (hr : Room k (A.deeper (envOfC "is_program" (defScope s_is_program) s.heap.objs.size (fa 7) cdv))) :
    PSs (cxOf (L2.CX P w) P w K mg base N_is_program "is_program" (defScope s_is_program) (fa 7) cdv A outer s H E) (defBody s_is_program) (tS ⟨K, w, mg⟩ (m_is_program F) (WE0 E)) :=
  q_sone (q_ret (q_eand (q_fn C_is_thing_with T.bnd3_is_thing_with hr (by rfl) (by rfl) (by rfl) tk_body (q_cons (q_fnv T.g_is_leaf ⟨.ref _, rfl⟩ (by rfl) (by rfl)) (q_cons (q_var (pv 0)) (q_cons (q_cst T.c_MOST_DEEP (by rfl) (by rfl)) (q_nil))))) (q_eone (q_cmp o_le c_le (q_fn C_count_of T.bnd_count_of hr (by rfl) (by rfl) (by rfl) tk_body (q_cons (q_var (pv 0)) (q_nil))) (q_cst T.c_MOST_THINGS (by rfl) (by rfl)) (nomark _)))))
theorem b_law_hand {P : Program} {K : PySem.W.Frag} {w : World} {mg : Str → Option Value} {base : Heap} {fa : Nat → Addr} {fd : Nat → FuncData} {F : Nat → FN} {k : Nat} (T : Txt K w mg fa fd) (cdv : Value) (A : Around) (outer : List Env) (s : Shared) (H : Hp) (E : XK)
    (hr : Room k (A.deeper (envOfC "_law_hand" (defScope s_law_hand) s.heap.objs.size (fa 8) cdv))) :
    PSs (cxOf (L2.CX P w) P w K mg base N_law_hand "_law_hand" (defScope s_law_hand) (fa 8) cdv A outer s H E) (defBody s_law_hand) (tS ⟨K, w, mg⟩ (m_law_hand F) (WE0 E)) :=
  q_scons (q_set (i := 2) sc_law_hand.nd (by rfl) (.inl (by rfl)) (q_op (o_add (by rfl)) c_add (q_op o_mul c_mul (q_int) (q_var (pv 1))) (q_callB (o_len (by rfl)) c_len (by rfl) T.z_len b_len (q_cons (q_var (pv 0)) (q_nil)))))
    (q_scons (q_if (q_tcmp o_lt c_lt (q_var (pv 1)) (q_callB (o_len (by rfl)) c_len (by rfl) T.z_len b_len (q_cons (q_var (pv 0)) (q_nil))) (nomark _)) (q_sone (q_set (i := 2) sc_law_hand.nd (by rfl) (.inl (by rfl)) (q_ix (o_ix (by rfl) (by rfl) (u1 hr)) c_ix (q_var (pv 0)) (q_var (pv 1)) (fun _ _ => rfl)))) (q_snil))
    (q_scons (q_set (i := 3) sc_law_hand.nd (by rfl) (.inl (by rfl)) (q_op o_mul c_mul (q_op o_mod c_mod (q_callB o_abs c_abs (by rfl) T.z_abs b_abs (q_cons (q_var (pv 2)) (q_nil))) (q_op o_pow c_pow (q_op o_pow c_pow (q_int) (q_int)) (q_int))) (q_callTy o_int c_int (by rfl) T.z_int b_int (q_cons (q_cmp o_ge c_ge (q_callB o_abs c_abs (by rfl) T.z_abs b_abs (q_cons (q_var (pv 2)) (q_nil))) (q_op o_pow c_pow (q_int) (q_int)) (nomark _)) (q_nil)))))
    (q_sone (q_ret (q_obj (q_cons (q_var (pv 3)) (q_cons (q_op o_mod c_mod (q_op o_mul c_mul (q_op (o_add (by rfl)) c_add (q_op (o_add (by rfl)) c_add (q_op o_mod c_mod (q_var (pv 2)) (q_int)) (q_op o_mul c_mul (q_op o_mul c_mul (q_int) (q_var (pv 1))) (q_var (pv 1)))) (q_int)) (q_int)) (q_int)) (q_nil))))))))
theorem b_law_take {P : Program} {K : PySem.W.Frag} {w : World} {mg : Str → Option Value} {base : Heap} {fa : Nat → Addr} {fd : Nat → FuncData} {F : Nat → FN} {k : Nat} (T : Txt K w mg fa fd) (cdv : Value) (A : Around) (outer : List Env) (s : Shared) (H : Hp) (E : XK)
    (hr : Room k (A.deeper (envOfC "_law_take" (defScope s_law_take) s.heap.objs.size (fa 9) cdv))) :
    PSs (cxOf (L2.CX P w) P w K mg base N_law_take "_law_take" (defScope s_law_take) (fa 9) cdv A outer s H E) (defBody s_law_take) (tS ⟨K, w, mg⟩ (m_law_take F) (WE0 E)) :=
  q_scons (q_if (q_tcmp o_gt c_gt (q_ix (o_ix (by rfl) (by rfl) (u1 hr)) c_ix (q_var (pv 0)) (q_int) (fun _ _ => rfl)) (q_int) (nomark _)) (q_scons (q_set (i := 2) sc_law_take.nd (by rfl) (.inl (by rfl)) (q_op o_mod c_mod (q_ix (o_ix (by rfl) (by rfl) (u1 hr)) c_ix (q_var (pv 0)) (q_int) (fun _ _ => rfl)) (q_var (pv 1))))
    (q_scons (q_asg (q_op o_fdiv c_fdiv (q_ix (o_ix (by rfl) (by rfl) (u1 hr)) c_ix (q_var (pv 0)) (q_int) (fun _ _ => rfl)) (q_var (pv 1))) (q_gsub (Wx := WE0 E) (q_var (pv 0)) (q_int)) (gn := gn_sub))
    (q_sone (q_ret (q_var (pv 2)))))) (q_snil))
    (q_scons (q_asg (q_op o_mod c_mod (q_op (o_add (by rfl)) c_add (q_op o_mul c_mul (q_ix (o_ix (by rfl) (by rfl) (u1 hr)) c_ix (q_var (pv 0)) (q_int) (fun _ _ => rfl)) (q_int)) (q_int)) (q_int)) (q_gsub (Wx := WE0 E) (q_var (pv 0)) (q_int)) (gn := gn_sub))
    (q_sone (q_ret (q_op o_mod c_mod (q_op o_fdiv c_fdiv (q_op o_mod c_mod (q_op o_mul c_mul (q_op o_fdiv c_fdiv (q_ix (o_ix (by rfl) (by rfl) (u1 hr)) c_ix (q_var (pv 0)) (q_int) (fun _ _ => rfl)) (q_int)) (q_op (o_add (by rfl)) c_add (q_op o_mod c_mod (q_ix (o_ix (by rfl) (by rfl) (u1 hr)) c_ix (q_var (pv 0)) (q_int) (fun _ _ => rfl)) (q_int)) (q_int))) (q_int)) (q_int)) (q_var (pv 1))))))
theorem b_law_pick {P : Program} {K : PySem.W.Frag} {w : World} {mg : Str → Option Value} {base : Heap} {fa : Nat → Addr} {fd : Nat → FuncData} {F : Nat → FN} {k : Nat} (T : Txt K w mg fa fd) (C_law_take : Cal P w ⟨K, w, mg⟩ base k "_law_take" (fa 9) (fd 9) ["_law_hand_here", "_law_many"] (F 9)) (cdv : Value) (A : Around) (outer : List Env) (s : Shared) (H : Hp) (E : XK)
    (hr : Room k (A.deeper (envOfC "_law_pick" (defScope s_law_pick) s.heap.objs.size (fa 10) cdv))) :
    PSs (cxOf (L2.CX P w) P w K mg base N_law_pick "_law_pick" (defScope s_law_pick) (fa 10) cdv A outer s H E) (defBody s_law_pick) (tS ⟨K, w, mg⟩ (m_law_pick F) (WE0 E)) :=
  q_sone (q_ret (q_ix (o_ix (by rfl) (by rfl) (u1 hr)) c_ix (q_var (pv 1)) (q_fn C_law_take T.bnd_law_take hr (by rfl) (by rfl) (by rfl) tk_body (q_cons (q_var (pv 0)) (q_cons (q_callB (o_len (by rfl)) c_len (by rfl) T.z_len b_len (q_cons (q_var (pv 1)) (q_nil))) (q_nil)))) (fun _ _ => rfl)))
theorem b_law_leaf {P : Program} {K : PySem.W.Frag} {w : World} {mg : Str → Option Value} {base : Heap} {fa : Nat → Addr} {fd : Nat → FuncData} {F : Nat → FN} {k : Nat} (T : Txt K w mg fa fd) (C_law_pick : Cal P w ⟨K, w, mg⟩ base k "_law_pick" (fa 10) (fd 10) ["_law_hand_here", "_law_some"] (F 10)) (cdv : Value) (A : Around) (outer : List Env) (s : Shared) (H : Hp) (E : XK)
    (hr : Room k (A.deeper (envOfC "_law_leaf" (defScope s_law_leaf) s.heap.objs.size (fa 11) cdv))) :
    PSs (cxOf (L2.CX P w) P w K mg base N_law_leaf "_law_leaf" (defScope s_law_leaf) (fa 11) cdv A outer s H E) (defBody s_law_leaf) (tS ⟨K, w, mg⟩ (m_law_leaf F) (WE0 E)) :=
  q_sone (q_ret (q_fn C_law_pick T.bnd_law_pick hr (by rfl) (by rfl) (by rfl) tk_body (q_cons (q_var (pv 0)) (q_cons (q_lst (q_cons (q_tup (q_cons (q_str) (q_cons (q_int) (q_cons (q_tup (q_nil)) (q_nil))))) (q_cons (q_tup (q_cons (q_str) (q_cons (q_int) (q_cons (q_tup (q_nil)) (q_nil))))) (q_cons (q_tup (q_cons (q_str) (q_cons (q_str) (q_cons (q_tup (q_nil)) (q_nil))))) (q_cons (q_tup (q_cons (q_str) (q_cons (q_str) (q_cons (q_tup (q_nil)) (q_nil))))) (q_nil)))))) (q_nil)))))
theorem b_law_sized {P : Program} {K : PySem.W.Frag} {w : World} {mg : Str → Option Value} {base : Heap} {fa : Nat → Addr} {fd : Nat → FuncData} {F : Nat → FN} {k : Nat} (T : Txt K w mg fa fd) (C_law_pack : Cal P w ⟨K, w, mg⟩ base k "_law_pack" (fa 13) (fd 13) ["_law_hand_here", "_law_many"] (F 13)) (C_law_take : Cal P w ⟨K, w, mg⟩ base k "_law_take" (fa 9) (fd 9) ["_law_hand_here", "_law_many"] (F 9)) (cdv : Value) (A : Around) (outer : List Env) (s : Shared) (H : Hp) (E : XK)
    (hr : Room k (A.deeper (envOfC "_law_sized" (defScope s_law_sized) s.heap.objs.size (fa 12) cdv))) :
    PSs (cxOf (L2.CX P w) P w K mg base N_law_sized "_law_sized" (defScope s_law_sized) (fa 12) cdv A outer s H E) (defBody s_law_sized) (tS ⟨K, w, mg⟩ (m_law_sized F) (WE0 E)) :=
  q_scons (q_par (i := 2) (j := 3) (by rfl) sc_law_sized.nd (by rfl) (by rfl) (by decide) (by rfl) (by rfl) (q_cons (q_obj (q_nil)) (q_cons (q_op o_sub c_sub (q_var (pv 1)) (q_int)) (q_nil))) (by rfl))
    (q_scons (q_while fuel po_body (q_tcmp o_gt c_gt (q_var (pv 3)) (q_int) (nomark _)) (q_scons (q_set (i := 4) sc_law_sized.nd (by rfl) (.inl (by rfl)) (q_ifExp (q_tcmp o_lt c_lt (q_callB (o_len (by rfl)) c_len (by rfl) T.z_len b_len (q_cons (q_var (pv 2)) (q_nil))) (q_int) (nomark _)) (q_callB (o_min (by rfl)) c_min (by rfl) T.z_min b_min (q_cons (q_var (pv 3)) (q_cons (q_op (o_add (by rfl)) c_add (q_int) (q_fn C_law_take T.bnd_law_take hr (by rfl) (by rfl) (by rfl) tk_body (q_cons (q_var (pv 0)) (q_cons (q_int) (q_nil))))) (q_nil)))) (q_var (pv 3))))
    (q_scons (q_expr (q_bm (by rfl) PySem.F.plainAttrs_list PySem.F.slot_list_append PySem.F.type_list_append o_append c_append (q_var (pv 2)) (q_cons (q_fn C_law_pack T.bnd_law_pack hr (by rfl) (by rfl) (by rfl) tk_body (q_cons (q_var (pv 0)) (q_cons (q_var (pv 4)) (q_nil)))) (q_nil))))
    (q_sone (q_set (i := 3) sc_law_sized.nd (by rfl) (.inl (by rfl)) (q_op o_sub c_sub (q_var (pv 3)) (q_var (pv 4))))))))
    (q_sone (q_ret (q_tup (q_cons (q_str) (q_cons (q_str) (q_cons (q_callTy (o_tuple (by rfl)) c_tuple (by rfl) T.z_tuple b_tuple (q_cons (q_var (pv 2)) (q_nil))) (q_nil))))))))
theorem b_law_pack {P : Program} {K : PySem.W.Frag} {w : World} {mg : Str → Option Value} {base : Heap} {fa : Nat → Addr} {fd : Nat → FuncData} {F : Nat → FN} {k : Nat} (T : Txt K w mg fa fd) (C_law_leaf : Cal P w ⟨K, w, mg⟩ base k "_law_leaf" (fa 11) (fd 11) ["_law_hand_here"] (F 11)) (C_law_pack : Cal P w ⟨K, w, mg⟩ base k "_law_pack" (fa 13) (fd 13) ["_law_hand_here", "_law_many"] (F 13)) (C_law_pick : Cal P w ⟨K, w, mg⟩ base k "_law_pick" (fa 10) (fd 10) ["_law_hand_here", "_law_some"] (F 10)) (cdv : Value) (A : Around) (outer : List Env) (s : Shared) (H : Hp) (E : XK)
    (hr : Room k (A.deeper (envOfC "_law_pack" (defScope s_law_pack) s.heap.objs.size (fa 13) cdv))) :
    PSs (cxOf (L2.CX P w) P w K mg base N_law_pack "_law_pack" (defScope s_law_pack) (fa 13) cdv A outer s H E) (defBody s_law_pack) (tS ⟨K, w, mg⟩ (m_law_pack F) (WE0 E)) :=
  q_scons (q_if (q_tcmp (o_eq (by rfl) hr.units) c_eq (q_var (pv 1)) (q_int) (nomark _)) (q_sone (q_ret (q_fn C_law_leaf T.bnd_law_leaf hr (by rfl) (by rfl) (by rfl) tk_body (q_cons (q_var (pv 0)) (q_nil))))) (q_snil))
    (q_scons (q_if (q_tcmp o_lt c_lt (q_var (pv 1)) (q_int) (nomark _)) (q_sone (q_ret (q_tup (q_cons (q_str) (q_cons (q_str) (q_cons (q_callTy (o_tuple (by rfl)) c_tuple (by rfl) T.z_tuple b_tuple (q_cons (q_lc (own := [("_law_k", 2)]) (by rfl) sc_law_pack.nd (q_range1 (by rfl) T.z_range (q_cons (q_op o_sub c_sub (q_var (pv 1)) (q_int)) (q_nil))) (blkOk_by (own := [("_law_k", 2)]) (N := N_law_pack) (sc := defScope s_law_pack) (by decide +kernel)) (fun _ _ _ _ _ => q_gnameW (pg_name (i := 2) sc_law_pack.nd (by rfl) (.inl (by rfl))) (by decide)) (fun _ _ _ _ _ => q_tnil) (fun _ _ _ _ _ => q_fn C_law_leaf T.bnd_law_leaf hr (by rfl) (by rfl) (by rfl) tk_blk (q_cons (q_var (pv 0)) (q_nil)))) (q_nil))) (q_nil))))))) (q_snil))
    (q_scons (q_par (i := 3) (j := 4) (by rfl) sc_law_pack.nd (by rfl) (by rfl) (by decide) (by rfl) (by rfl) (q_cons (q_obj (q_nil)) (q_cons (q_op o_sub c_sub (q_var (pv 1)) (q_int)) (q_nil))) (by rfl))
    (q_scons (q_for po_body (by rfl) (q_range1 (by rfl) T.z_range (q_cons (q_int) (q_nil))) (q_gname (pg_name (i := 2) sc_law_pack.nd (by rfl) (.inl (by rfl)))) (q_scons (q_set (i := 5) sc_law_pack.nd (by rfl) (.inl (by rfl)) (q_un o_neg c_neg (q_op o_fdiv c_fdiv (q_un o_neg c_neg (q_var (pv 4))) (q_op o_sub c_sub (q_int) (q_var (pv 2))))))
    (q_scons (q_expr (q_bm (by rfl) PySem.F.plainAttrs_list PySem.F.slot_list_append PySem.F.type_list_append o_append c_append (q_var (pv 3)) (q_cons (q_fn C_law_pack T.bnd_law_pack hr (by rfl) (by rfl) (by rfl) tk_body (q_cons (q_var (pv 0)) (q_cons (q_var (pv 5)) (q_nil)))) (q_nil))))
    (q_sone (q_set (i := 4) sc_law_pack.nd (by rfl) (.inl (by rfl)) (q_op o_sub c_sub (q_var (pv 4)) (q_var (pv 5))))))))
    (q_sone (q_ret (q_tup (q_cons (q_fn C_law_pick T.bnd_law_pick hr (by rfl) (by rfl) (by rfl) tk_body (q_cons (q_var (pv 0)) (q_cons (q_lst (q_cons (q_str) (q_cons (q_str) (q_cons (q_str) (q_cons (q_str) (q_nil)))))) (q_nil)))) (q_cons (q_str) (q_cons (q_callTy (o_tuple (by rfl)) c_tuple (by rfl) T.z_tuple b_tuple (q_cons (q_var (pv 3)) (q_nil))) (q_nil))))))))))
theorem b_law_tower {P : Program} {K : PySem.W.Frag} {w : World} {mg : Str → Option Value} {base : Heap} {fa : Nat → Addr} {fd : Nat → FuncData} {F : Nat → FN} {k : Nat} (T : Txt K w mg fa fd) (C_law_leaf : Cal P w ⟨K, w, mg⟩ base k "_law_leaf" (fa 11) (fd 11) ["_law_hand_here"] (F 11)) (C_law_pick : Cal P w ⟨K, w, mg⟩ base k "_law_pick" (fa 10) (fd 10) ["_law_hand_here", "_law_some"] (F 10)) (cdv : Value) (A : Around) (outer : List Env) (s : Shared) (H : Hp) (E : XK)
    (hr : Room k (A.deeper (envOfC "_law_tower" (defScope s_law_tower) s.heap.objs.size (fa 14) cdv))) :
    PSs (cxOf (L2.CX P w) P w K mg base N_law_tower "_law_tower" (defScope s_law_tower) (fa 14) cdv A outer s H E) (defBody s_law_tower) (tS ⟨K, w, mg⟩ (m_law_tower F) (WE0 E)) :=
  q_scons (q_set (i := 2) sc_law_tower.nd (by rfl) (.inl (by rfl)) (q_fn C_law_leaf T.bnd_law_leaf hr (by rfl) (by rfl) (by rfl) tk_body (q_cons (q_var (pv 0)) (q_nil))))
    (q_scons (q_for po_body (by rfl) (q_range1 (by rfl) T.z_range (q_cons (q_op o_sub c_sub (q_var (pv 1)) (q_int)) (q_nil))) (q_gname (pg_name (i := 3) sc_law_tower.nd (by rfl) (.inl (by rfl)))) (q_scons (q_set (i := 4) sc_law_tower.nd (by rfl) (.inl (by rfl)) (q_lst (q_cons (q_tup (q_cons (q_str) (q_cons (q_str) (q_cons (q_tup (q_cons (q_var (pv 2)) (q_nil))) (q_nil))))) (q_cons (q_tup (q_cons (q_str) (q_cons (q_str) (q_cons (q_tup (q_cons (q_fn C_law_leaf T.bnd_law_leaf hr (by rfl) (by rfl) (by rfl) tk_body (q_cons (q_var (pv 0)) (q_nil))) (q_cons (q_var (pv 2)) (q_nil)))) (q_nil))))) (q_cons (q_tup (q_cons (q_str) (q_cons (q_str) (q_cons (q_tup (q_cons (q_var (pv 2)) (q_cons (q_fn C_law_leaf T.bnd_law_leaf hr (by rfl) (by rfl) (by rfl) tk_body (q_cons (q_var (pv 0)) (q_nil))) (q_nil)))) (q_nil))))) (q_nil))))))
    (q_scons (q_set (i := 4) sc_law_tower.nd (by rfl) (.inl (by rfl)) (q_op (o_add (by rfl)) c_add (q_var (pv 4)) (q_lst (q_cons (q_tup (q_cons (q_str) (q_cons (q_str) (q_cons (q_tup (q_cons (q_fn C_law_leaf T.bnd_law_leaf hr (by rfl) (by rfl) (by rfl) tk_body (q_cons (q_var (pv 0)) (q_nil))) (q_cons (q_var (pv 2)) (q_nil)))) (q_nil))))) (q_cons (q_tup (q_cons (q_str) (q_cons (q_str) (q_cons (q_tup (q_cons (q_var (pv 2)) (q_nil))) (q_nil))))) (q_cons (q_tup (q_cons (q_str) (q_cons (q_str) (q_cons (q_tup (q_cons (q_var (pv 2)) (q_nil))) (q_nil))))) (q_nil)))))))
    (q_sone (q_set (i := 2) sc_law_tower.nd (by rfl) (.inl (by rfl)) (q_fn C_law_pick T.bnd_law_pick hr (by rfl) (by rfl) (by rfl) tk_body (q_cons (q_var (pv 0)) (q_cons (q_var (pv 4)) (q_nil)))))))))
    (q_sone (q_ret (q_var (pv 2)))))
theorem b_law_parts_right {P : Program} {K : PySem.W.Frag} {w : World} {mg : Str → Option Value} {base : Heap} {fa : Nat → Addr} {fd : Nat → FuncData} {F : Nat → FN} {k : Nat} (T : Txt K w mg fa fd) (C_law_is : Cal P w ⟨K, w, mg⟩ base k "_law_is" (fa 17) (fd 17) ["_law_told", "_law_due"] (F 17)) (C_law_leaf : Cal P w ⟨K, w, mg⟩ base k "_law_leaf" (fa 11) (fd 11) ["_law_hand_here"] (F 11)) (C_is_program : Cal P w ⟨K, w, mg⟩ base k "is_program" (fa 7) (fd 7) ["thing"] (F 7)) (cdv : Value) (A : Around) (outer : List Env) (s : Shared) (H : Hp) (E : XK)
    (hr : Room k (A.deeper (envOfC "_law_parts_right" (defScope s_law_parts_right) s.heap.objs.size (fa 15) cdv))) :
    PSs (cxOf (L2.CX P w) P w K mg base N_law_parts_right "_law_parts_right" (defScope s_law_parts_right) (fa 15) cdv A outer s H E) (defBody s_law_parts_right) (tS ⟨K, w, mg⟩ (m_law_parts_right F) (WE0 E)) :=
  q_scons (q_set (i := 1) sc_law_parts_right.nd (by rfl) (.inl (by rfl)) (q_lst (q_cons (q_tup (q_cons (q_str) (q_cons (q_int) (q_cons (q_int) (q_nil))))) (q_cons (q_tup (q_cons (q_str) (q_cons (q_int) (q_cons (q_int) (q_nil))))) (q_cons (q_tup (q_cons (q_str) (q_cons (q_int) (q_cons (q_int) (q_nil))))) (q_cons (q_tup (q_cons (q_str) (q_cons (q_int) (q_cons (q_int) (q_nil))))) (q_cons (q_tup (q_cons (q_str) (q_cons (q_int) (q_cons (q_int) (q_nil))))) (q_cons (q_tup (q_cons (q_str) (q_cons (q_int) (q_cons (q_int) (q_nil))))) (q_nil)))))))))
    (q_scons (q_set (i := 1) sc_law_parts_right.nd (by rfl) (.inl (by rfl)) (q_op (o_add (by rfl)) c_add (q_var (pv 1)) (q_lst (q_cons (q_tup (q_cons (q_str) (q_cons (q_int) (q_cons (q_int) (q_nil))))) (q_cons (q_tup (q_cons (q_str) (q_cons (q_int) (q_cons (q_int) (q_nil))))) (q_cons (q_tup (q_cons (q_str) (q_cons (q_int) (q_cons (q_int) (q_nil))))) (q_cons (q_tup (q_cons (q_str) (q_cons (q_int) (q_cons (q_int) (q_nil))))) (q_nil))))))))
    (q_scons (q_for po_body (by rfl) (q_iter (by rfl) (q_var (pv 1))) (q_gtup (by rfl) (by rfl) (q_gscons (pg_name (i := 2) sc_law_parts_right.nd (by rfl) (.inl (by rfl))) (q_gscons (pg_name (i := 3) sc_law_parts_right.nd (by rfl) (.inl (by rfl))) (q_gscons (pg_name (i := 4) sc_law_parts_right.nd (by rfl) (.inl (by rfl))) (q_gsnil))))) (q_scons (q_set (i := 5) sc_law_parts_right.nd (by rfl) (.inl (by rfl)) (q_ifExp (q_tcmp (o_in (by rfl) (by rfl) (u65 hr)) c_in (q_var (pv 2)) (q_tup (q_cons (q_str) (q_cons (q_str) (q_nil)))) (by rfl)) (q_str) (q_str)))
    (q_scons (q_for po_body (by rfl) (q_range2 (by rfl) T.z_range (q_cons (q_callB (o_max (by rfl)) c_max (by rfl) T.z_max b_max (q_cons (q_int) (q_cons (q_op o_sub c_sub (q_var (pv 3)) (q_int)) (q_nil)))) (q_cons (q_op (o_add (by rfl)) c_add (q_var (pv 4)) (q_int)) (q_nil)))) (q_gname (pg_name (i := 6) sc_law_parts_right.nd (by rfl) (.inl (by rfl)))) (q_scons (q_set (i := 7) sc_law_parts_right.nd (by rfl) (.inl (by rfl)) (q_tup (q_cons (q_var (pv 2)) (q_cons (q_var (pv 5)) (q_cons (q_callTy (o_tuple (by rfl)) c_tuple (by rfl) T.z_tuple b_tuple (q_cons (q_lc (own := [("_law_k", 8)]) (by rfl) sc_law_parts_right.nd (q_range1 (by rfl) T.z_range (q_cons (q_var (pv 6)) (q_nil))) (blkOk_by (own := [("_law_k", 8)]) (N := N_law_parts_right) (sc := defScope s_law_parts_right) (by decide +kernel)) (fun _ _ _ _ _ => q_gnameW (pg_name (i := 8) sc_law_parts_right.nd (by rfl) (.inl (by rfl))) (by decide)) (fun _ _ _ _ _ => q_tnil) (fun _ _ _ _ _ => q_fn C_law_leaf T.bnd_law_leaf hr (by rfl) (by rfl) (by rfl) tk_blk (q_cons (q_var (pv 0)) (q_nil)))) (q_nil))) (q_nil))))))
    (q_sone (q_if (q_tnot (q_truth (by rfl) (q_fn C_law_is T.bnd_law_is hr (by rfl) (by rfl) (by rfl) tk_body (q_cons (q_fn C_is_program T.bnd_is_program hr (by rfl) (by rfl) (by rfl) tk_body (q_cons (q_var (pv 7)) (q_nil))) (q_cons (q_chain o_le c_le o_le c_le (q_var (pv 3)) (q_var (pv 6)) (q_var (pv 4))) (q_nil)))))) (q_sone (q_ret (q_bl))) (q_snil)))))
    (q_scons (q_set (i := 7) sc_law_parts_right.nd (by rfl) (.inl (by rfl)) (q_tup (q_cons (q_var (pv 2)) (q_cons (q_ifExp (q_tcmp (o_eq (by rfl) hr.units) c_eq (q_var (pv 5)) (q_str) (nomark _)) (q_str) (q_str)) (q_cons (q_callTy (o_tuple (by rfl)) c_tuple (by rfl) T.z_tuple b_tuple (q_cons (q_lc (own := [("_law_k", 8)]) (by rfl) sc_law_parts_right.nd (q_range1 (by rfl) T.z_range (q_cons (q_var (pv 4)) (q_nil))) (blkOk_by (own := [("_law_k", 8)]) (N := N_law_parts_right) (sc := defScope s_law_parts_right) (by decide +kernel)) (fun _ _ _ _ _ => q_gnameW (pg_name (i := 8) sc_law_parts_right.nd (by rfl) (.inl (by rfl))) (by decide)) (fun _ _ _ _ _ => q_tnil) (fun _ _ _ _ _ => q_fn C_law_leaf T.bnd_law_leaf hr (by rfl) (by rfl) (by rfl) tk_blk (q_cons (q_var (pv 0)) (q_nil)))) (q_nil))) (q_nil))))))
    (q_sone (q_if (q_tnot (q_truth (by rfl) (q_fn C_law_is T.bnd_law_is hr (by rfl) (by rfl) (by rfl) tk_body (q_cons (q_fn C_is_program T.bnd_is_program hr (by rfl) (by rfl) (by rfl) tk_body (q_cons (q_var (pv 7)) (q_nil))) (q_cons (q_bl) (q_nil)))))) (q_sone (q_ret (q_bl))) (q_snil)))))))
    (q_sone (q_ret (q_bl)))))
theorem b_law_marks_right {P : Program} {K : PySem.W.Frag} {w : World} {mg : Str → Option Value} {base : Heap} {fa : Nat → Addr} {fd : Nat → FuncData} {F : Nat → FN} {k : Nat} (T : Txt K w mg fa fd) (C_law_is : Cal P w ⟨K, w, mg⟩ base k "_law_is" (fa 17) (fd 17) ["_law_told", "_law_due"] (F 17)) (C_is_program : Cal P w ⟨K, w, mg⟩ base k "is_program" (fa 7) (fd 7) ["thing"] (F 7)) (cdv : Value) (A : Around) (outer : List Env) (s : Shared) (H : Hp) (E : XK)
    (hr : Room k (A.deeper (envOfC "_law_marks_right" (defScope s_law_marks_right) s.heap.objs.size (fa 16) cdv))) :
    PSs (cxOf (L2.CX P w) P w K mg base N_law_marks_right "_law_marks_right" (defScope s_law_marks_right) (fa 16) cdv A outer s H E) (defBody s_law_marks_right) (tS ⟨K, w, mg⟩ (m_law_marks_right F) (WE0 E)) :=
  q_scons (q_set (i := 0) sc_law_marks_right.nd (by rfl) (.inr (by rfl)) (q_lst (q_cons (q_tup (q_cons (q_str) (q_cons (q_int) (q_cons (q_tup (q_nil)) (q_nil))))) (q_cons (q_tup (q_cons (q_str) (q_cons (q_int) (q_cons (q_tup (q_nil)) (q_nil))))) (q_cons (q_tup (q_cons (q_str) (q_cons (q_str) (q_cons (q_tup (q_nil)) (q_nil))))) (q_cons (q_tup (q_cons (q_str) (q_cons (q_str) (q_cons (q_tup (q_nil)) (q_nil))))) (q_cons (q_tup (q_cons (q_str) (q_cons (q_str) (q_cons (q_tup (q_nil)) (q_nil))))) (q_nil))))))))
    (q_scons (q_set (i := 1) sc_law_marks_right.nd (by rfl) (.inl (by rfl)) (q_lst (q_cons (q_tup (q_cons (q_str) (q_cons (q_int) (q_cons (q_tup (q_nil)) (q_nil))))) (q_cons (q_tup (q_cons (q_str) (q_cons (q_un o_neg c_neg (q_int)) (q_cons (q_tup (q_nil)) (q_nil))))) (q_cons (q_tup (q_cons (q_str) (q_cons (q_bl) (q_cons (q_tup (q_nil)) (q_nil))))) (q_cons (q_tup (q_cons (q_str) (q_cons (q_str) (q_cons (q_tup (q_nil)) (q_nil))))) (q_cons (q_tup (q_cons (q_str) (q_cons (q_str) (q_cons (q_tup (q_nil)) (q_nil))))) (q_cons (q_tup (q_cons (q_str) (q_cons (q_str) (q_cons (q_tup (q_nil)) (q_nil))))) (q_nil)))))))))
    (q_scons (q_set (i := 1) sc_law_marks_right.nd (by rfl) (.inl (by rfl)) (q_op (o_add (by rfl)) c_add (q_var (pv 1)) (q_lst (q_cons (q_tup (q_cons (q_str) (q_cons (q_str) (q_cons (q_tup (q_nil)) (q_nil))))) (q_cons (q_tup (q_cons (q_str) (q_cons (q_int) (q_cons (q_tup (q_nil)) (q_nil))))) (q_cons (q_tup (q_cons (q_str) (q_cons (q_int) (q_cons (q_tup (q_cons (q_str) (q_nil))) (q_nil))))) (q_cons (q_tup (q_cons (q_str) (q_cons (q_str) (q_cons (q_lst (q_nil)) (q_nil))))) (q_cons (q_tup (q_cons (q_str) (q_cons (q_int) (q_nil)))) (q_nil)))))))))
    (q_scons (q_set (i := 2) sc_law_marks_right.nd (by rfl) (.inl (by rfl)) (q_bm (by rfl) PySem.F.plainAttrs_str PySem.F.slot_str_split PySem.F.type_str_split o_split c_split (q_str) (q_cons (q_str) (q_nil))))
    (q_scons (q_set (i := 1) sc_law_marks_right.nd (by rfl) (.inl (by rfl)) (q_op (o_add (by rfl)) c_add (q_op (o_add (by rfl)) c_add (q_var (pv 1)) (q_lc (own := [("_law_word", 3)]) (by rfl) sc_law_marks_right.nd (q_iter (by rfl) (q_var (pv 2))) (blkOk_by (own := [("_law_word", 3)]) (N := N_law_marks_right) (sc := defScope s_law_marks_right) (by decide +kernel)) (fun _ _ _ _ _ => q_gnameW (pg_name (i := 3) sc_law_marks_right.nd (by rfl) (.inl (by rfl))) (by decide)) (fun _ _ _ _ _ => q_tnil) (fun _ _ _ _ _ => q_tup (q_cons (q_str) (q_cons (q_var (pv 3)) (q_cons (q_tup (q_nil)) (q_nil))))))) (q_lc (own := [("_law_word", 3)]) (by rfl) sc_law_marks_right.nd (q_iter (by rfl) (q_var (pv 2))) (blkOk_by (own := [("_law_word", 3)]) (N := N_law_marks_right) (sc := defScope s_law_marks_right) (by decide +kernel)) (fun _ _ _ _ _ => q_gnameW (pg_name (i := 3) sc_law_marks_right.nd (by rfl) (.inl (by rfl))) (by decide)) (fun _ _ _ _ _ => q_tnil) (fun _ _ _ _ _ => q_tup (q_cons (q_str) (q_cons (q_var (pv 3)) (q_cons (q_tup (q_cons (q_ix (o_ix (by rfl) (by rfl) (u1 hr)) c_ix (q_var (pv 0)) (q_int) (fun _ _ => rfl)) (q_cons (q_ix (o_ix (by rfl) (by rfl) (u1 hr)) c_ix (q_var (pv 0)) (q_int) (fun _ _ => rfl)) (q_nil)))) (q_nil))))))))
    (q_scons (q_set (i := 1) sc_law_marks_right.nd (by rfl) (.inl (by rfl)) (q_op (o_add (by rfl)) c_add (q_var (pv 1)) (q_lst (q_cons (q_tup (q_cons (q_str) (q_cons (q_str) (q_cons (q_tup (q_nil)) (q_nil))))) (q_cons (q_tup (q_cons (q_str) (q_cons (q_str) (q_cons (q_tup (q_nil)) (q_nil))))) (q_cons (q_tup (q_cons (q_str) (q_cons (q_str) (q_cons (q_tup (q_nil)) (q_nil))))) (q_cons (q_tup (q_cons (q_str) (q_cons (q_str) (q_cons (q_tup (q_nil)) (q_nil))))) (q_cons (q_tup (q_cons (q_str) (q_cons (q_int) (q_cons (q_tup (q_nil)) (q_nil))))) (q_nil)))))))))
    (q_sone (q_ret (q_callB (o_all (by rfl)) c_all (by rfl) T.z_all b_all (q_cons (q_lc (own := [("_law_made", 4)]) (by rfl) sc_law_marks_right.nd (q_iter (by rfl) (q_op (o_add (by rfl)) c_add (q_var (pv 0)) (q_var (pv 1)))) (blkOk_by (own := [("_law_made", 4)]) (N := N_law_marks_right) (sc := defScope s_law_marks_right) (by decide +kernel)) (fun _ _ _ _ _ => q_gnameW (pg_name (i := 4) sc_law_marks_right.nd (by rfl) (.inl (by rfl))) (by decide)) (fun _ _ _ _ _ => q_tnil) (fun _ _ _ _ _ => q_fn C_law_is T.bnd_law_is hr (by rfl) (by rfl) (by rfl) tk_blk (q_cons (q_fn C_is_program T.bnd_is_program hr (by rfl) (by rfl) (by rfl) tk_blk (q_cons (q_var (pv 4)) (q_nil))) (q_cons (q_cmp (o_in (by rfl) (by rfl) (u65 hr)) c_in (q_var (pv 4)) (q_var (pv 0)) (by rfl)) (q_nil))))) (q_nil))))))))))
theorem b_law_is {P : Program} {K : PySem.W.Frag} {w : World} {mg : Str → Option Value} {base : Heap} {fa : Nat → Addr} {fd : Nat → FuncData} {F : Nat → FN} {k : Nat} (T : Txt K w mg fa fd) (cdv : Value) (A : Around) (outer : List Env) (s : Shared) (H : Hp) (E : XK)
    (hr : Room k (A.deeper (envOfC "_law_is" (defScope s_law_is) s.heap.objs.size (fa 17) cdv))) :
    PSs (cxOf (L2.CX P w) P w K mg base N_law_is "_law_is" (defScope s_law_is) (fa 17) cdv A outer s H E) (defBody s_law_is) (tS ⟨K, w, mg⟩ (m_law_is F) (WE0 E)) :=
  q_sone (q_ret (q_eand (q_callB (o_isi (by rfl)) c_isi (by rfl) T.z_isinstance b_isinstance (q_cons (q_var (pv 0)) (q_cons (q_ty T.z_bool b_bool (by rfl)) (q_nil)))) (q_eone (q_cmp (o_eq (by rfl) hr.units) c_eq (q_var (pv 0)) (q_var (pv 1)) (nomark _)))))
theorem b_law_far {P : Program} {K : PySem.W.Frag} {w : World} {mg : Str → Option Value} {base : Heap} {fa : Nat → Addr} {fd : Nat → FuncData} {F : Nat → FN} {k : Nat} (T : Txt K w mg fa fd) (C_law_pick : Cal P w ⟨K, w, mg⟩ base k "_law_pick" (fa 10) (fd 10) ["_law_hand_here", "_law_some"] (F 10)) (cdv : Value) (A : Around) (outer : List Env) (s : Shared) (H : Hp) (E : XK)
    (hr : Room k (A.deeper (envOfC "_law_far" (defScope s_law_far) s.heap.objs.size (fa 18) cdv))) :
    PSs (cxOf (L2.CX P w) P w K mg base N_law_far "_law_far" (defScope s_law_far) (fa 18) cdv A outer s H E) (defBody s_law_far) (tS ⟨K, w, mg⟩ (m_law_far F) (WE0 E)) :=
  q_scons (q_set (i := 1) sc_law_far.nd (by rfl) (.inl (by rfl)) (q_fn C_law_pick T.bnd_law_pick hr (by rfl) (by rfl) (by rfl) tk_body (q_cons (q_var (pv 0)) (q_cons (q_lst (q_cons (q_tup (q_nil)) (q_cons (q_lst (q_nil)) (q_cons (q_dic0) (q_cons (q_non) (q_cons (q_int) (q_nil))))))) (q_nil)))))
    (q_scons (q_for po_body (by rfl) (q_range1 (by rfl) T.z_range (q_cons (q_int) (q_nil))) (q_gname (pg_name (i := 2) sc_law_far.nd (by rfl) (.inl (by rfl)))) (q_sone (q_set (i := 1) sc_law_far.nd (by rfl) (.inl (by rfl)) (q_fn C_law_pick T.bnd_law_pick hr (by rfl) (by rfl) (by rfl) tk_body (q_cons (q_var (pv 0)) (q_cons (q_lst (q_cons (q_tup (q_cons (q_var (pv 1)) (q_nil))) (q_cons (q_lst (q_cons (q_var (pv 1)) (q_nil))) (q_cons (q_dic (q_pcons (q_str) (q_var (pv 1)) (q_pnil)) rfl rfl (by simp) (by decide)) (q_nil))))) (q_nil)))))))
    (q_scons (q_set (i := 3) sc_law_far.nd (by rfl) (.inl (by rfl)) (q_callTy (o_tuple (by rfl)) c_tuple (by rfl) T.z_tuple b_tuple (q_cons (q_op o_mul c_mul (q_lst (q_cons (q_tup (q_cons (q_str) (q_cons (q_int) (q_cons (q_tup (q_nil)) (q_nil))))) (q_nil))) (q_int)) (q_nil))))
    (q_sone (q_ret (q_fn C_law_pick T.bnd_law_pick hr (by rfl) (by rfl) (by rfl) tk_body (q_cons (q_var (pv 0)) (q_cons (q_lst (q_cons (q_var (pv 1)) (q_cons (q_tup (q_cons (q_str) (q_cons (q_str) (q_cons (q_var (pv 3)) (q_nil))))) (q_cons (q_var (pv 3)) (q_cons (q_op o_mul c_mul (q_str) (q_int)) (q_cons (q_op o_mul c_mul (q_op o_pow c_pow (q_int) (q_int)) (q_op o_pow c_pow (q_int) (q_int))) (q_cons (q_tup (q_cons (q_str) (q_cons (q_op o_pow c_pow (q_int) (q_int)) (q_cons (q_tup (q_nil)) (q_nil))))) (q_nil)))))))) (q_nil))))))))
theorem b_law {P : Program} {K : PySem.W.Frag} {w : World} {mg : Str → Option Value} {base : Heap} {fa : Nat → Addr} {fd : Nat → FuncData} {F : Nat → FN} {k : Nat} (T : Txt K w mg fa fd) (C_law_far : Cal P w ⟨K, w, mg⟩ base k "_law_far" (fa 18) (fd 18) ["_law_hand_here"] (F 18)) (C_law_hand : Cal P w ⟨K, w, mg⟩ base k "_law_hand" (fa 8) (fd 8) ["_law_script", "_law_k"] (F 8)) (C_law_is : Cal P w ⟨K, w, mg⟩ base k "_law_is" (fa 17) (fd 17) ["_law_told", "_law_due"] (F 17)) (C_law_marks_right : Cal P w ⟨K, w, mg⟩ base k "_law_marks_right" (fa 16) (fd 16) [] (F 16)) (C_law_pack : Cal P w ⟨K, w, mg⟩ base k "_law_pack" (fa 13) (fd 13) ["_law_hand_here", "_law_many"] (F 13)) (C_law_parts_right : Cal P w ⟨K, w, mg⟩ base k "_law_parts_right" (fa 15) (fd 15) ["_law_hand_here"] (F 15)) (C_law_sized : Cal P w ⟨K, w, mg⟩ base k "_law_sized" (fa 12) (fd 12) ["_law_hand_here", "_law_many"] (F 12)) (C_law_tower : Cal P w ⟨K, w, mg⟩ base k "_law_tower" (fa 14) (fd 14) ["_law_hand_here", "_law_deep"] (F 14)) (C_is_program : Cal P w ⟨K, w, mg⟩ base k "is_program" (fa 7) (fd 7) ["thing"] (F 7)) (cdv : Value) (A : Around) (outer : List Env) (s : Shared) (H : Hp) (E : XK)
    (hr : Room k (A.deeper (envOfC "law" (defScope s_law) s.heap.objs.size (fa 19) cdv))) :
    PSs (cxOf (L2.CX P w) P w K mg base N_law "law" (defScope s_law) (fa 19) cdv A outer s H E) (defBody s_law) (tS ⟨K, w, mg⟩ (m_law F) (WE0 E)) :=
  q_scons (q_if (q_tb (w_or (q_tcmp (o_ne (by rfl) hr.units) c_ne (q_lst (q_cons (q_cst T.c_WHEEL (by rfl) (by rfl)) (q_cons (q_cst T.c_MOST_THINGS (by rfl) (by rfl)) (q_cons (q_cst T.c_MOST_PASSES (by rfl) (by rfl)) (q_nil))))) (q_lst (q_cons (q_int) (q_cons (q_int) (q_cons (q_int) (q_nil))))) (nomark _)) (w_or1 (q_tnot (q_truth (by rfl) (q_fn0 C_law_marks_right T.bnd_law_marks_right hr (by rfl) (by rfl) (by rfl) tk_body)))))) (q_sone (q_ret (q_bl))) (q_snil))
    (q_scons (q_for po_body (by rfl) (q_range1 (by rfl) T.z_range (q_cons (q_callB (o_max (by rfl)) c_max (by rfl) T.z_max b_max (q_cons (q_int) (q_cons (q_callB (o_min (by rfl)) c_min (by rfl) T.z_min b_min (q_cons (q_int) (q_cons (q_callB (o_len (by rfl)) c_len (by rfl) T.z_len b_len (q_cons (q_var (pv 0)) (q_nil))) (q_nil)))) (q_nil)))) (q_nil))) (q_gname (pg_name (i := 1) sc_law.nd (by rfl) (.inl (by rfl)))) (q_scons (q_set (i := 2) sc_law.nd (by rfl) (.inr (by rfl)) (q_fn C_law_hand T.bnd_law_hand hr (by rfl) (by rfl) (by rfl) tk_body (q_cons (q_var (pv 0)) (q_cons (q_var (pv 1)) (q_nil)))))
    (q_scons (q_for po_body (by rfl) (q_iter (by rfl) (q_tup (q_cons (q_int) (q_cons (q_int) (q_cons (q_int) (q_nil)))))) (q_gname (pg_name (i := 3) sc_law.nd (by rfl) (.inl (by rfl)))) (q_scons (q_if (q_tnot (q_truth (by rfl) (q_fn C_law_is T.bnd_law_is hr (by rfl) (by rfl) (by rfl) tk_body (q_cons (q_fn C_is_program T.bnd_is_program hr (by rfl) (by rfl) (by rfl) tk_body (q_cons (q_fn C_law_pack T.bnd_law_pack hr (by rfl) (by rfl) (by rfl) tk_body (q_cons (q_var (pv 2)) (q_cons (q_var (pv 3)) (q_nil)))) (q_nil))) (q_cons (q_cmp o_lt c_lt (q_var (pv 3)) (q_int) (nomark _)) (q_nil)))))) (q_sone (q_ret (q_bl))) (q_snil))
    (q_sone (q_if (q_tnot (q_truth (by rfl) (q_fn C_law_is T.bnd_law_is hr (by rfl) (by rfl) (by rfl) tk_body (q_cons (q_fn C_is_program T.bnd_is_program hr (by rfl) (by rfl) (by rfl) tk_body (q_cons (q_fn C_law_sized T.bnd_law_sized hr (by rfl) (by rfl) (by rfl) tk_body (q_cons (q_var (pv 2)) (q_cons (q_var (pv 3)) (q_nil)))) (q_nil))) (q_cons (q_cmp o_lt c_lt (q_var (pv 3)) (q_int) (nomark _)) (q_nil)))))) (q_sone (q_ret (q_bl))) (q_snil)))))
    (q_scons (q_for po_body (by rfl) (q_iter (by rfl) (q_tup (q_cons (q_int) (q_cons (q_int) (q_cons (q_int) (q_nil)))))) (q_gname (pg_name (i := 4) sc_law.nd (by rfl) (.inl (by rfl)))) (q_sone (q_for po_body (by rfl) (q_range1 (by rfl) T.z_range (q_cons (q_int) (q_nil))) (q_gname (pg_name (i := 5) sc_law.nd (by rfl) (.inl (by rfl)))) (q_sone (q_if (q_tnot (q_truth (by rfl) (q_fn C_law_is T.bnd_law_is hr (by rfl) (by rfl) (by rfl) tk_body (q_cons (q_fn C_is_program T.bnd_is_program hr (by rfl) (by rfl) (by rfl) tk_body (q_cons (q_fn C_law_tower T.bnd_law_tower hr (by rfl) (by rfl) (by rfl) tk_body (q_cons (q_var (pv 2)) (q_cons (q_var (pv 4)) (q_nil)))) (q_nil))) (q_cons (q_cmp o_lt c_lt (q_var (pv 4)) (q_int) (nomark _)) (q_nil)))))) (q_sone (q_ret (q_bl))) (q_snil))))))
    (q_sone (q_if (q_tb (w_or (q_tnot (q_truth (by rfl) (q_fn C_law_parts_right T.bnd_law_parts_right hr (by rfl) (by rfl) (by rfl) tk_body (q_cons (q_var (pv 2)) (q_nil))))) (w_or1 (q_tnot (q_truth (by rfl) (q_callB (o_all (by rfl)) c_all (by rfl) T.z_all b_all (q_cons (q_lc (own := [("_law_turn", 5)]) (by rfl) sc_law.nd (q_range1 (by rfl) T.z_range (q_cons (q_int) (q_nil))) (blkOk_by (own := [("_law_turn", 5)]) (N := N_law) (sc := defScope s_law) (by decide +kernel)) (fun _ _ _ _ _ => q_gnameW (pg_name (i := 5) sc_law.nd (by rfl) (.inl (by rfl))) (by decide)) (fun _ _ _ _ _ => q_tnil) (fun _ _ _ _ _ => q_fn C_law_is T.bnd_law_is hr (by rfl) (by rfl) (by rfl) tk_blk (q_cons (q_fn C_is_program T.bnd_is_program hr (by rfl) (by rfl) (by rfl) tk_blk (q_cons (q_fn C_law_far T.bnd_law_far hr (by rfl) (by rfl) (by rfl) tk_blk (q_cons (q_var (pv 2)) (q_nil))) (q_nil))) (q_cons (q_bl) (q_nil))))) (q_nil)))))))) (q_sone (q_ret (q_bl))) (q_snil)))))))
    (q_sone (q_ret (q_bl))))
structure Alls (P : Program) (K : PySem.W.Frag) (w : World) (mg : Str → Option Value) (base : Heap) (fa : Nat → Addr) (fd : Nat → FuncData) (k : Nat) (F : Nat → FN) : Prop where
  c_is_whole : Cal P w ⟨K, w, mg⟩ base k "is_whole" (fa 0) (fd 0) ["thing"] (F 0)
  c_is_number : Cal P w ⟨K, w, mg⟩ base k "is_number" (fa 1) (fd 1) ["thing", "low", "high"] (F 1)
  c_is_name : Cal P w ⟨K, w, mg⟩ base k "is_name" (fa 2) (fd 2) ["thing"] (F 2)
  c_is_leaf : Cal P w ⟨K, w, mg⟩ base k "is_leaf" (fa 3) (fd 3) ["thing"] (F 3)
  c_is_mark : Cal P w ⟨K, w, mg⟩ base k "is_mark" (fa 4) (fd 4) ["gives", "mark"] (F 4)
  c_is_thing_with : Cal P w ⟨K, w, mg⟩ base k "is_thing_with" (fa 5) (fd 5) ["leaf_look", "thing", "deep", "widest"] (F 5)
  c_count_of : Cal P w ⟨K, w, mg⟩ base k "count_of" (fa 6) (fd 6) ["thing"] (F 6)
  c_is_program : Cal P w ⟨K, w, mg⟩ base k "is_program" (fa 7) (fd 7) ["thing"] (F 7)
  c_law_hand : Cal P w ⟨K, w, mg⟩ base k "_law_hand" (fa 8) (fd 8) ["_law_script", "_law_k"] (F 8)
  c_law_take : Cal P w ⟨K, w, mg⟩ base k "_law_take" (fa 9) (fd 9) ["_law_hand_here", "_law_many"] (F 9)
  c_law_pick : Cal P w ⟨K, w, mg⟩ base k "_law_pick" (fa 10) (fd 10) ["_law_hand_here", "_law_some"] (F 10)
  c_law_leaf : Cal P w ⟨K, w, mg⟩ base k "_law_leaf" (fa 11) (fd 11) ["_law_hand_here"] (F 11)
  c_law_sized : Cal P w ⟨K, w, mg⟩ base k "_law_sized" (fa 12) (fd 12) ["_law_hand_here", "_law_many"] (F 12)
  c_law_pack : Cal P w ⟨K, w, mg⟩ base k "_law_pack" (fa 13) (fd 13) ["_law_hand_here", "_law_many"] (F 13)
  c_law_tower : Cal P w ⟨K, w, mg⟩ base k "_law_tower" (fa 14) (fd 14) ["_law_hand_here", "_law_deep"] (F 14)
  c_law_parts_right : Cal P w ⟨K, w, mg⟩ base k "_law_parts_right" (fa 15) (fd 15) ["_law_hand_here"] (F 15)
  c_law_marks_right : Cal P w ⟨K, w, mg⟩ base k "_law_marks_right" (fa 16) (fd 16) [] (F 16)
  c_law_is : Cal P w ⟨K, w, mg⟩ base k "_law_is" (fa 17) (fd 17) ["_law_told", "_law_due"] (F 17)
  c_law_far : Cal P w ⟨K, w, mg⟩ base k "_law_far" (fa 18) (fd 18) ["_law_hand_here"] (F 18)
  c_law : Cal P w ⟨K, w, mg⟩ base k "law" (fa 19) (fd 19) ["_law_script"] (F 19)
theorem all {P : Program} {K : PySem.W.Frag} {w : World} {mg : Str → Option Value} {base : Heap} {fa : Nat → Addr} {fd : Nat → FuncData} (T : Txt K w mg fa fd) : ∀ k, Alls P K w mg base fa fd k (Fs k)
  | 0 => ⟨⟨fn_none, T.g_is_whole, T.F_is_whole.kp⟩, ⟨fn_none, T.g_is_number, T.F_is_number.kp⟩, ⟨fn_none, T.g_is_name, T.F_is_name.kp⟩, ⟨fn_none, T.g_is_leaf, T.F_is_leaf.kp⟩, ⟨fn_none, T.g_is_mark, T.F_is_mark.kp⟩, ⟨fn_none, T.g_is_thing_with, T.F_is_thing_with.kp⟩, ⟨fn_none, T.g_count_of, T.F_count_of.kp⟩, ⟨fn_none, T.g_is_program, T.F_is_program.kp⟩, ⟨fn_none, T.g_law_hand, T.F_law_hand.kp⟩, ⟨fn_none, T.g_law_take, T.F_law_take.kp⟩, ⟨fn_none, T.g_law_pick, T.F_law_pick.kp⟩, ⟨fn_none, T.g_law_leaf, T.F_law_leaf.kp⟩, ⟨fn_none, T.g_law_sized, T.F_law_sized.kp⟩, ⟨fn_none, T.g_law_pack, T.F_law_pack.kp⟩, ⟨fn_none, T.g_law_tower, T.F_law_tower.kp⟩, ⟨fn_none, T.g_law_parts_right, T.F_law_parts_right.kp⟩, ⟨fn_none, T.g_law_marks_right, T.F_law_marks_right.kp⟩, ⟨fn_none, T.g_law_is, T.F_law_is.kp⟩, ⟨fn_none, T.g_law_far, T.F_law_far.kp⟩, ⟨fn_none, T.g_law, T.F_law.kp⟩⟩
  | k + 1 => by
    have ih := all (P := P) (base := base) T k
    exact ⟨⟨fn_ok (G := ⟨K, w, mg⟩) T.F_is_whole sc_is_whole (b_is_whole T), T.g_is_whole, T.F_is_whole.kp⟩,
      ⟨fn_ok (G := ⟨K, w, mg⟩) T.F_is_number sc_is_number (b_is_number T ih.c_is_whole), T.g_is_number, T.F_is_number.kp⟩,
      ⟨fn_ok (G := ⟨K, w, mg⟩) T.F_is_name sc_is_name (b_is_name T), T.g_is_name, T.F_is_name.kp⟩,
      ⟨fn_ok (G := ⟨K, w, mg⟩) T.F_is_leaf sc_is_leaf (b_is_leaf T ih.c_is_name ih.c_is_number), T.g_is_leaf, T.F_is_leaf.kp⟩,
      ⟨fn_ok (G := ⟨K, w, mg⟩) T.F_is_mark sc_is_mark (b_is_mark T ih.c_is_name), T.g_is_mark, T.F_is_mark.kp⟩,
      ⟨fn_ok (G := ⟨K, w, mg⟩) T.F_is_thing_with sc_is_thing_with (b_is_thing_with T ih.c_is_leaf ih.c_is_mark ih.c_is_thing_with), T.g_is_thing_with, T.F_is_thing_with.kp⟩,
      ⟨fn_ok (G := ⟨K, w, mg⟩) T.F_count_of sc_count_of (b_count_of T ih.c_count_of), T.g_count_of, T.F_count_of.kp⟩,
      ⟨fn_ok (G := ⟨K, w, mg⟩) T.F_is_program sc_is_program (b_is_program T ih.c_count_of ih.c_is_thing_with), T.g_is_program, T.F_is_program.kp⟩,
      ⟨fn_ok (G := ⟨K, w, mg⟩) T.F_law_hand sc_law_hand (b_law_hand T), T.g_law_hand, T.F_law_hand.kp⟩,
      ⟨fn_ok (G := ⟨K, w, mg⟩) T.F_law_take sc_law_take (b_law_take T), T.g_law_take, T.F_law_take.kp⟩,
      ⟨fn_ok (G := ⟨K, w, mg⟩) T.F_law_pick sc_law_pick (b_law_pick T ih.c_law_take), T.g_law_pick, T.F_law_pick.kp⟩,
      ⟨fn_ok (G := ⟨K, w, mg⟩) T.F_law_leaf sc_law_leaf (b_law_leaf T ih.c_law_pick), T.g_law_leaf, T.F_law_leaf.kp⟩,
      ⟨fn_ok (G := ⟨K, w, mg⟩) T.F_law_sized sc_law_sized (b_law_sized T ih.c_law_pack ih.c_law_take), T.g_law_sized, T.F_law_sized.kp⟩,
      ⟨fn_ok (G := ⟨K, w, mg⟩) T.F_law_pack sc_law_pack (b_law_pack T ih.c_law_leaf ih.c_law_pack ih.c_law_pick), T.g_law_pack, T.F_law_pack.kp⟩,
      ⟨fn_ok (G := ⟨K, w, mg⟩) T.F_law_tower sc_law_tower (b_law_tower T ih.c_law_leaf ih.c_law_pick), T.g_law_tower, T.F_law_tower.kp⟩,
      ⟨fn_ok (G := ⟨K, w, mg⟩) T.F_law_parts_right sc_law_parts_right (b_law_parts_right T ih.c_law_is ih.c_law_leaf ih.c_is_program), T.g_law_parts_right, T.F_law_parts_right.kp⟩,
      ⟨fn_ok (G := ⟨K, w, mg⟩) T.F_law_marks_right sc_law_marks_right (b_law_marks_right T ih.c_law_is ih.c_is_program), T.g_law_marks_right, T.F_law_marks_right.kp⟩,
      ⟨fn_ok (G := ⟨K, w, mg⟩) T.F_law_is sc_law_is (b_law_is T), T.g_law_is, T.F_law_is.kp⟩,
      ⟨fn_ok (G := ⟨K, w, mg⟩) T.F_law_far sc_law_far (b_law_far T ih.c_law_pick), T.g_law_far, T.F_law_far.kp⟩,
      ⟨fn_ok (G := ⟨K, w, mg⟩) T.F_law sc_law (b_law T ih.c_law_far ih.c_law_hand ih.c_law_is ih.c_law_marks_right ih.c_law_pack ih.c_law_parts_right ih.c_law_sized ih.c_law_tower ih.c_is_program), T.g_law, T.F_law.kp⟩⟩
end K02
set_option Elab.async false
set_option linter.all false
set_option maxRecDepth 100000
set_option maxHeartbeats 4000000
namespace K02
open PySem PySem.Spec PyProof.Rows L2 L3
def fdOf (d0 : FuncData) (d1 : FuncData) (d2 : FuncData) (d3 : FuncData) (d4 : FuncData) (d5 : FuncData) (d6 : FuncData) (d7 : FuncData) (d8 : FuncData) (d9 : FuncData) (d10 : FuncData) (d11 : FuncData) (d12 : FuncData) (d13 : FuncData) (d14 : FuncData) (d15 : FuncData) (d16 : FuncData) (d17 : FuncData) (d18 : FuncData) (d19 : FuncData) : Nat → FuncData
  | 0 => d0
  | 1 => d1
  | 2 => d2
  | 3 => d3
  | 4 => d4
  | 5 => d5
  | 6 => d6
  | 7 => d7
  | 8 => d8
  | 9 => d9
  | 10 => d10
  | 11 => d11
  | 12 => d12
  | 13 => d13
  | 14 => d14
  | 15 => d15
  | 16 => d16
  | 17 => d17
  | 18 => d18
  | 19 => d19
  | _ => d0
theorem all_mk {l : PySem.W.OpenLaw} {w : World} {K : PySem.W.Frag} {h : Heap} {mg : Str → Option Value} {fa : Addr} (X : K.In h) (G : h.Ns mainGlobals mg) (hfa : mg "law" = some (.ref fa)) (TT : ∀ ns : List Int, ns.length ≤ 63 → ∃ S, Fs 100 19 [.scr ns] [] = .ok (.bl true) S)
    {f1 f11 kd20 f23 f33 f43 f53 kd62 f64 f74 f84 f94 f104 f114 f124 f134 f144 f154 f164 f174 f184 f194 a212 a215 a223 a231 a239 a247 a255 a263 a271 a279 a287 a295 : Addr}
    {od2 an3 od12 an13 od24 an25 od34 an35 od44 an45 od54 an55 od65 an66 od75 an76 od85 an86 od95 an96 od105 an106 od115 an116 od125 an126 od135 an136 od145 an146 od155 an156 od165 an166 od175 an176 od185 an186 od195 an196 dd218 dd226 dd234 dd242 dd250 dd258 dd266 dd274 dd282 dd290 dd312 : Option Addr}
    {sl4 sl14 sl26 sl36 sl46 sl56 sl67 sl77 sl87 sl97 sl107 sl117 sl127 sl137 sl147 sl157 sl167 sl177 sl187 sl197 sl220 sl228 sl236 sl244 sl252 sl260 sl268 sl276 sl284 sl292 sl314 : Array (Option Value)}
    {oc5 dc6 pm7 cd8 ct9 kV10 oc15 dc16 pm17 cd18 ct19 oc27 dc28 pm29 cd30 ct31 kV32 oc37 dc38 pm39 cd40 ct41 kV42 oc47 dc48 pm49 cd50 ct51 kV52 oc57 dc58 pm59 cd60 ct61 oc68 dc69 pm70 cd71 ct72 kV73 oc78 dc79 pm80 cd81 ct82 kV83 oc88 dc89 pm90 cd91 ct92 kV93 oc98 dc99 pm100 cd101 ct102 kV103 oc108 dc109 pm110 cd111 ct112 kV113 oc118 dc119 pm120 cd121 ct122 kV123 oc128 dc129 pm130 cd131 ct132 kV133 oc138 dc139 pm140 cd141 ct142 kV143 oc148 dc149 pm150 cd151 ct152 kV153 oc158 dc159 pm160 cd161 ct162 kV163 oc168 dc169 pm170 cd171 ct172 kV173 oc178 dc179 pm180 cd181 ct182 kV183 oc188 dc189 pm190 cd191 ct192 kV193 oc198 dc199 pm200 cd201 ct202 kV203 : Value}
    {t21 t22 t63 t204 t205 t206 t207 t208 t209 t210 t211 t214 t216 t217 t222 t224 t225 t230 t232 t233 t238 t240 t241 t246 t248 t249 t254 t256 t257 t262 t264 t265 t270 t272 t273 t278 t280 t281 t286 t288 t289 t294 t296 t297 t298 t299 t300 t301 t302 t303 t304 t305 t306 t307 t308 t309 t310 t311 : PySem.Tok}
    {h213 h221 h229 h237 h245 h253 h261 h269 h277 h285 : Int}
    {n219 n227 n235 n243 n251 n259 n267 n275 n283 n291 n293 n313 : Nat}
    (a_is_whole : PySem.W.nsIn K mainGlobals "is_whole" = some (some (.ref f1)))
    (l_is_whole : K.lookup f1 = some ⟨oc5, od2, .func (PySem.W.fnOf "is_whole" "is_whole" (defArgs s_is_whole) (defBody s_is_whole) (defScope s_is_whole) .none kV10 dc6 pm7 an3 cd8 ct9), sl4⟩)
    (c_is_whole : PySem.W.codeIn K cd8 "is_whole" = true)
    (k_is_whole : PySem.W.keepIn K (.ref f1) = true)
    (a_is_number : PySem.W.nsIn K mainGlobals "is_number" = some (some (.ref f11)))
    (l_is_number : K.lookup f11 = some ⟨oc15, od12, .func (PySem.W.fnOf "is_number" "is_number" (defArgs s_is_number) (defBody s_is_number) (defScope s_is_number) .none (.ref kd20) dc16 pm17 an13 cd18 ct19), sl14⟩)
    (c_is_number : PySem.W.codeIn K cd18 "is_number" = true)
    (k_is_number : PySem.W.keepIn K (.ref f11) = true)
    (w_is_number_high : PySem.W.nsIn K kd20 "high" = some (some (.int 9972 t21)))
    (w_is_number_low : PySem.W.nsIn K kd20 "low" = some (some (.int 0 t22)))
    (a_is_name : PySem.W.nsIn K mainGlobals "is_name" = some (some (.ref f23)))
    (l_is_name : K.lookup f23 = some ⟨oc27, od24, .func (PySem.W.fnOf "is_name" "is_name" (defArgs s_is_name) (defBody s_is_name) (defScope s_is_name) .none kV32 dc28 pm29 an25 cd30 ct31), sl26⟩)
    (c_is_name : PySem.W.codeIn K cd30 "is_name" = true)
    (k_is_name : PySem.W.keepIn K (.ref f23) = true)
    (a_is_leaf : PySem.W.nsIn K mainGlobals "is_leaf" = some (some (.ref f33)))
    (l_is_leaf : K.lookup f33 = some ⟨oc37, od34, .func (PySem.W.fnOf "is_leaf" "is_leaf" (defArgs s_is_leaf) (defBody s_is_leaf) (defScope s_is_leaf) .none kV42 dc38 pm39 an35 cd40 ct41), sl36⟩)
    (c_is_leaf : PySem.W.codeIn K cd40 "is_leaf" = true)
    (k_is_leaf : PySem.W.keepIn K (.ref f33) = true)
    (a_is_mark : PySem.W.nsIn K mainGlobals "is_mark" = some (some (.ref f43)))
    (l_is_mark : K.lookup f43 = some ⟨oc47, od44, .func (PySem.W.fnOf "is_mark" "is_mark" (defArgs s_is_mark) (defBody s_is_mark) (defScope s_is_mark) .none kV52 dc48 pm49 an45 cd50 ct51), sl46⟩)
    (c_is_mark : PySem.W.codeIn K cd50 "is_mark" = true)
    (k_is_mark : PySem.W.keepIn K (.ref f43) = true)
    (a_is_thing_with : PySem.W.nsIn K mainGlobals "is_thing_with" = some (some (.ref f53)))
    (l_is_thing_with : K.lookup f53 = some ⟨oc57, od54, .func (PySem.W.fnOf "is_thing_with" "is_thing_with" (defArgs s_is_thing_with) (defBody s_is_thing_with) (defScope s_is_thing_with) .none (.ref kd62) dc58 pm59 an55 cd60 ct61), sl56⟩)
    (c_is_thing_with : PySem.W.codeIn K cd60 "is_thing_with" = true)
    (k_is_thing_with : PySem.W.keepIn K (.ref f53) = true)
    (w_is_thing_with_widest : PySem.W.nsIn K kd62 "widest" = some (some (.int 6 t63)))
    (a_count_of : PySem.W.nsIn K mainGlobals "count_of" = some (some (.ref f64)))
    (l_count_of : K.lookup f64 = some ⟨oc68, od65, .func (PySem.W.fnOf "count_of" "count_of" (defArgs s_count_of) (defBody s_count_of) (defScope s_count_of) .none kV73 dc69 pm70 an66 cd71 ct72), sl67⟩)
    (c_count_of : PySem.W.codeIn K cd71 "count_of" = true)
    (k_count_of : PySem.W.keepIn K (.ref f64) = true)
    (a_is_program : PySem.W.nsIn K mainGlobals "is_program" = some (some (.ref f74)))
    (l_is_program : K.lookup f74 = some ⟨oc78, od75, .func (PySem.W.fnOf "is_program" "is_program" (defArgs s_is_program) (defBody s_is_program) (defScope s_is_program) .none kV83 dc79 pm80 an76 cd81 ct82), sl77⟩)
    (c_is_program : PySem.W.codeIn K cd81 "is_program" = true)
    (k_is_program : PySem.W.keepIn K (.ref f74) = true)
    (a_law_hand : PySem.W.nsIn K mainGlobals "_law_hand" = some (some (.ref f84)))
    (l_law_hand : K.lookup f84 = some ⟨oc88, od85, .func (PySem.W.fnOf "_law_hand" "_law_hand" (defArgs s_law_hand) (defBody s_law_hand) (defScope s_law_hand) .none kV93 dc89 pm90 an86 cd91 ct92), sl87⟩)
    (c_law_hand : PySem.W.codeIn K cd91 "_law_hand" = true)
    (k_law_hand : PySem.W.keepIn K (.ref f84) = true)
    (a_law_take : PySem.W.nsIn K mainGlobals "_law_take" = some (some (.ref f94)))
    (l_law_take : K.lookup f94 = some ⟨oc98, od95, .func (PySem.W.fnOf "_law_take" "_law_take" (defArgs s_law_take) (defBody s_law_take) (defScope s_law_take) .none kV103 dc99 pm100 an96 cd101 ct102), sl97⟩)
    (c_law_take : PySem.W.codeIn K cd101 "_law_take" = true)
    (k_law_take : PySem.W.keepIn K (.ref f94) = true)
    (a_law_pick : PySem.W.nsIn K mainGlobals "_law_pick" = some (some (.ref f104)))
    (l_law_pick : K.lookup f104 = some ⟨oc108, od105, .func (PySem.W.fnOf "_law_pick" "_law_pick" (defArgs s_law_pick) (defBody s_law_pick) (defScope s_law_pick) .none kV113 dc109 pm110 an106 cd111 ct112), sl107⟩)
    (c_law_pick : PySem.W.codeIn K cd111 "_law_pick" = true)
    (k_law_pick : PySem.W.keepIn K (.ref f104) = true)
    (a_law_leaf : PySem.W.nsIn K mainGlobals "_law_leaf" = some (some (.ref f114)))
    (l_law_leaf : K.lookup f114 = some ⟨oc118, od115, .func (PySem.W.fnOf "_law_leaf" "_law_leaf" (defArgs s_law_leaf) (defBody s_law_leaf) (defScope s_law_leaf) .none kV123 dc119 pm120 an116 cd121 ct122), sl117⟩)
    (c_law_leaf : PySem.W.codeIn K cd121 "_law_leaf" = true)
    (k_law_leaf : PySem.W.keepIn K (.ref f114) = true)
    (a_law_sized : PySem.W.nsIn K mainGlobals "_law_sized" = some (some (.ref f124)))
    (l_law_sized : K.lookup f124 = some ⟨oc128, od125, .func (PySem.W.fnOf "_law_sized" "_law_sized" (defArgs s_law_sized) (defBody s_law_sized) (defScope s_law_sized) .none kV133 dc129 pm130 an126 cd131 ct132), sl127⟩)
    (c_law_sized : PySem.W.codeIn K cd131 "_law_sized" = true)
    (k_law_sized : PySem.W.keepIn K (.ref f124) = true)
    (a_law_pack : PySem.W.nsIn K mainGlobals "_law_pack" = some (some (.ref f134)))
    (l_law_pack : K.lookup f134 = some ⟨oc138, od135, .func (PySem.W.fnOf "_law_pack" "_law_pack" (defArgs s_law_pack) (defBody s_law_pack) (defScope s_law_pack) .none kV143 dc139 pm140 an136 cd141 ct142), sl137⟩)
    (c_law_pack : PySem.W.codeIn K cd141 "_law_pack" = true)
    (k_law_pack : PySem.W.keepIn K (.ref f134) = true)
    (a_law_tower : PySem.W.nsIn K mainGlobals "_law_tower" = some (some (.ref f144)))
    (l_law_tower : K.lookup f144 = some ⟨oc148, od145, .func (PySem.W.fnOf "_law_tower" "_law_tower" (defArgs s_law_tower) (defBody s_law_tower) (defScope s_law_tower) .none kV153 dc149 pm150 an146 cd151 ct152), sl147⟩)
    (c_law_tower : PySem.W.codeIn K cd151 "_law_tower" = true)
    (k_law_tower : PySem.W.keepIn K (.ref f144) = true)
    (a_law_parts_right : PySem.W.nsIn K mainGlobals "_law_parts_right" = some (some (.ref f154)))
    (l_law_parts_right : K.lookup f154 = some ⟨oc158, od155, .func (PySem.W.fnOf "_law_parts_right" "_law_parts_right" (defArgs s_law_parts_right) (defBody s_law_parts_right) (defScope s_law_parts_right) .none kV163 dc159 pm160 an156 cd161 ct162), sl157⟩)
    (c_law_parts_right : PySem.W.codeIn K cd161 "_law_parts_right" = true)
    (k_law_parts_right : PySem.W.keepIn K (.ref f154) = true)
    (a_law_marks_right : PySem.W.nsIn K mainGlobals "_law_marks_right" = some (some (.ref f164)))
    (l_law_marks_right : K.lookup f164 = some ⟨oc168, od165, .func (PySem.W.fnOf "_law_marks_right" "_law_marks_right" (defArgs s_law_marks_right) (defBody s_law_marks_right) (defScope s_law_marks_right) .none kV173 dc169 pm170 an166 cd171 ct172), sl167⟩)
    (c_law_marks_right : PySem.W.codeIn K cd171 "_law_marks_right" = true)
    (k_law_marks_right : PySem.W.keepIn K (.ref f164) = true)
    (a_law_is : PySem.W.nsIn K mainGlobals "_law_is" = some (some (.ref f174)))
    (l_law_is : K.lookup f174 = some ⟨oc178, od175, .func (PySem.W.fnOf "_law_is" "_law_is" (defArgs s_law_is) (defBody s_law_is) (defScope s_law_is) .none kV183 dc179 pm180 an176 cd181 ct182), sl177⟩)
    (c_law_is : PySem.W.codeIn K cd181 "_law_is" = true)
    (k_law_is : PySem.W.keepIn K (.ref f174) = true)
    (a_law_far : PySem.W.nsIn K mainGlobals "_law_far" = some (some (.ref f184)))
    (l_law_far : K.lookup f184 = some ⟨oc188, od185, .func (PySem.W.fnOf "_law_far" "_law_far" (defArgs s_law_far) (defBody s_law_far) (defScope s_law_far) .none kV193 dc189 pm190 an186 cd191 ct192), sl187⟩)
    (c_law_far : PySem.W.codeIn K cd191 "_law_far" = true)
    (k_law_far : PySem.W.keepIn K (.ref f184) = true)
    (a_law : PySem.W.nsIn K mainGlobals "law" = some (some (.ref f194)))
    (l_law : K.lookup f194 = some ⟨oc198, od195, .func (PySem.W.fnOf "law" "law" (defArgs s_law) (defBody s_law) (defScope s_law) .none kV203 dc199 pm200 an196 cd201 ct202), sl197⟩)
    (c_law : PySem.W.codeIn K cd201 "law" = true)
    (k_law : PySem.W.keepIn K (.ref f194) = true)
    (z_abs : PySem.W.nsIn K mainGlobals "abs" = some none)
    (z_all : PySem.W.nsIn K mainGlobals "all" = some none)
    (z_bool : PySem.W.nsIn K mainGlobals "bool" = some none)
    (z_int : PySem.W.nsIn K mainGlobals "int" = some none)
    (z_isinstance : PySem.W.nsIn K mainGlobals "isinstance" = some none)
    (z_len : PySem.W.nsIn K mainGlobals "len" = some none)
    (z_max : PySem.W.nsIn K mainGlobals "max" = some none)
    (z_min : PySem.W.nsIn K mainGlobals "min" = some none)
    (z_range : PySem.W.nsIn K mainGlobals "range" = some none)
    (z_str : PySem.W.nsIn K mainGlobals "str" = some none)
    (z_sum : PySem.W.nsIn K mainGlobals "sum" = some none)
    (z_tuple : PySem.W.nsIn K mainGlobals "tuple" = some none)
    (x_LETTERS : PySem.W.nsIn K mainGlobals "LETTERS" = some (some (.str "abcdefghijklmnopqrstuvwxyz" t204)))
    (x_MOST_DEEP : PySem.W.nsIn K mainGlobals "MOST_DEEP" = some (some (.int 10 t205)))
    (x_MOST_PASSES : PySem.W.nsIn K mainGlobals "MOST_PASSES" = some (some (.int 50 t206)))
    (x_MOST_SIGNS : PySem.W.nsIn K mainGlobals "MOST_SIGNS" = some (some (.int 8 t207)))
    (x_MOST_THINGS : PySem.W.nsIn K mainGlobals "MOST_THINGS" = some (some (.int 60 t208)))
    (x_NAME : PySem.W.nsIn K mainGlobals "NAME" = some (some (.str "name" t209)))
    (x_NUM : PySem.W.nsIn K mainGlobals "NUM" = some (some (.str "num" t210)))
    (x_ROW : PySem.W.nsIn K mainGlobals "ROW" = some (some (.str "row" t211)))
    (x_SHAPES : PySem.W.nsIn K mainGlobals "SHAPES" = some (some (.ref a212)))
    (l_SHAPES : K.lookup a212 = some ⟨.type "dict", none, .dict (List.toArray [⟨h213, .str "plus" t214, (.ref a215)⟩, ⟨h221, .str "times" t222, (.ref a223)⟩, ⟨h229, .str "most" t230, (.ref a231)⟩, ⟨h237, .str "row" t238, (.ref a239)⟩, ⟨h245, .str "say" t246, (.ref a247)⟩, ⟨h253, .str "less" t254, (.ref a255)⟩, ⟨h261, .str "below" t262, (.ref a263)⟩, ⟨h269, .str "if" t270, (.ref a271)⟩, ⟨h277, .str "let" t278, (.ref a279)⟩, ⟨h285, .str "each" t286, (.ref a287)⟩]) n293, #[]⟩)
    (l_SHAPES_0 : K.lookup a215 = some ⟨.type "tuple", dd218, .seq (List.toArray [(.int 1 t216), (.int 6 t217), (.bool false)]) n219, sl220⟩)
    (l_SHAPES_1 : K.lookup a223 = some ⟨.type "tuple", dd226, .seq (List.toArray [(.int 1 t224), (.int 6 t225), (.bool false)]) n227, sl228⟩)
    (l_SHAPES_2 : K.lookup a231 = some ⟨.type "tuple", dd234, .seq (List.toArray [(.int 1 t232), (.int 6 t233), (.bool false)]) n235, sl236⟩)
    (l_SHAPES_3 : K.lookup a239 = some ⟨.type "tuple", dd242, .seq (List.toArray [(.int 0 t240), (.int 6 t241), (.bool false)]) n243, sl244⟩)
    (l_SHAPES_4 : K.lookup a247 = some ⟨.type "tuple", dd250, .seq (List.toArray [(.int 1 t248), (.int 1 t249), (.bool false)]) n251, sl252⟩)
    (l_SHAPES_5 : K.lookup a255 = some ⟨.type "tuple", dd258, .seq (List.toArray [(.int 2 t256), (.int 2 t257), (.bool false)]) n259, sl260⟩)
    (l_SHAPES_6 : K.lookup a263 = some ⟨.type "tuple", dd266, .seq (List.toArray [(.int 2 t264), (.int 2 t265), (.bool false)]) n267, sl268⟩)
    (l_SHAPES_7 : K.lookup a271 = some ⟨.type "tuple", dd274, .seq (List.toArray [(.int 3 t272), (.int 3 t273), (.bool false)]) n275, sl276⟩)
    (l_SHAPES_8 : K.lookup a279 = some ⟨.type "tuple", dd282, .seq (List.toArray [(.int 2 t280), (.int 2 t281), (.bool true)]) n283, sl284⟩)
    (l_SHAPES_9 : K.lookup a287 = some ⟨.type "tuple", dd290, .seq (List.toArray [(.int 2 t288), (.int 2 t289), (.bool true)]) n291, sl292⟩)
    (m_SHAPES : (a212 == sysModules) = false)
    (h_SHAPES_9 : h285 = PyData.keyHash w.params "each")
    (h_SHAPES_8 : h277 = PyData.keyHash w.params "let")
    (h_SHAPES_7 : h269 = PyData.keyHash w.params "if")
    (h_SHAPES_6 : h261 = PyData.keyHash w.params "below")
    (h_SHAPES_5 : h253 = PyData.keyHash w.params "less")
    (h_SHAPES_4 : h245 = PyData.keyHash w.params "say")
    (h_SHAPES_3 : h237 = PyData.keyHash w.params "row")
    (h_SHAPES_2 : h229 = PyData.keyHash w.params "most")
    (h_SHAPES_1 : h221 = PyData.keyHash w.params "times")
    (h_SHAPES_0 : h213 = PyData.keyHash w.params "plus")
    (x_WHEEL : PySem.W.nsIn K mainGlobals "WHEEL" = some (some (.int 9973 t294)))
    (x_WORDS : PySem.W.nsIn K mainGlobals "WORDS" = some (some (.ref a295)))
    (l_WORDS : K.lookup a295 = some ⟨.type "tuple", dd312, .seq (List.toArray [(.str "plus" t296), (.str "times" t297), (.str "most" t298), (.str "row" t299), (.str "say" t300), (.str "less" t301), (.str "below" t302), (.str "if" t303), (.str "let" t304), (.str "each" t305), (.str "num" t306), (.str "name" t307), (.str "any" t308), (.str "rest" t309), (.str "called" t310), (.str "count" t311)]) n313, sl314⟩)
    : ∃ fd : FuncData, (∀ (s : Shared) (v : Value), BindsTo s fd ⟨[v], []⟩ [("_law_script", v)]) ∧ ∀ base : Heap, K.In base → base.Ns mainGlobals mg → FnOk l.prog w K mg base (L2.CX l.prog w) 100 fa fd ["_law_script"] (spLaw K) := by
  have e := hfa.symm.trans (PySem.W.mg_of X G a_law)
  cases e
  have F_is_whole := funD_mk (K := K) (kws := []) l_is_whole c_is_whole k_is_whole kw_none
  have F_is_number := funD_mk (K := K) (kws := [("low", .int 0), ("high", .int 9972)]) l_is_number c_is_number k_is_number (kw_some (kw_cons w_is_number_low ⟨_, rfl⟩ (kw_cons w_is_number_high ⟨_, rfl⟩ kw_nil)))
  have F_is_name := funD_mk (K := K) (kws := []) l_is_name c_is_name k_is_name kw_none
  have F_is_leaf := funD_mk (K := K) (kws := []) l_is_leaf c_is_leaf k_is_leaf kw_none
  have F_is_mark := funD_mk (K := K) (kws := []) l_is_mark c_is_mark k_is_mark kw_none
  have F_is_thing_with := funD_mk (K := K) (kws := [("widest", .int 6)]) l_is_thing_with c_is_thing_with k_is_thing_with (kw_some (kw_cons w_is_thing_with_widest ⟨_, rfl⟩ kw_nil))
  have F_count_of := funD_mk (K := K) (kws := []) l_count_of c_count_of k_count_of kw_none
  have F_is_program := funD_mk (K := K) (kws := []) l_is_program c_is_program k_is_program kw_none
  have F_law_hand := funD_mk (K := K) (kws := []) l_law_hand c_law_hand k_law_hand kw_none
  have F_law_take := funD_mk (K := K) (kws := []) l_law_take c_law_take k_law_take kw_none
  have F_law_pick := funD_mk (K := K) (kws := []) l_law_pick c_law_pick k_law_pick kw_none
  have F_law_leaf := funD_mk (K := K) (kws := []) l_law_leaf c_law_leaf k_law_leaf kw_none
  have F_law_sized := funD_mk (K := K) (kws := []) l_law_sized c_law_sized k_law_sized kw_none
  have F_law_pack := funD_mk (K := K) (kws := []) l_law_pack c_law_pack k_law_pack kw_none
  have F_law_tower := funD_mk (K := K) (kws := []) l_law_tower c_law_tower k_law_tower kw_none
  have F_law_parts_right := funD_mk (K := K) (kws := []) l_law_parts_right c_law_parts_right k_law_parts_right kw_none
  have F_law_marks_right := funD_mk (K := K) (kws := []) l_law_marks_right c_law_marks_right k_law_marks_right kw_none
  have F_law_is := funD_mk (K := K) (kws := []) l_law_is c_law_is k_law_is kw_none
  have F_law_far := funD_mk (K := K) (kws := []) l_law_far c_law_far k_law_far kw_none
  have F_law := funD_mk (K := K) (kws := []) l_law c_law k_law kw_none
  have T : Txt K w mg (fun i => ([f1, f11, f23, f33, f43, f53, f64, f74, f84, f94, f104, f114, f124, f134, f144, f154, f164, f174, f184, fa] : List Addr).getD i 0) (fdOf _ _ _ _ _ _ _ _ _ _ _ _ _ _ _ _ _ _ _ _) := {
    z_abs := PySem.W.mg_none_of X G z_abs,
    z_all := PySem.W.mg_none_of X G z_all,
    z_bool := PySem.W.mg_none_of X G z_bool,
    z_int := PySem.W.mg_none_of X G z_int,
    z_isinstance := PySem.W.mg_none_of X G z_isinstance,
    z_len := PySem.W.mg_none_of X G z_len,
    z_max := PySem.W.mg_none_of X G z_max,
    z_min := PySem.W.mg_none_of X G z_min,
    z_range := PySem.W.mg_none_of X G z_range,
    z_str := PySem.W.mg_none_of X G z_str,
    z_sum := PySem.W.mg_none_of X G z_sum,
    z_tuple := PySem.W.mg_none_of X G z_tuple,
    c_LETTERS := grep_of (PySem.W.mg_of X G x_LETTERS) kv_str,
    c_MOST_DEEP := grep_of (PySem.W.mg_of X G x_MOST_DEEP) kv_int,
    c_MOST_PASSES := grep_of (PySem.W.mg_of X G x_MOST_PASSES) kv_int,
    c_MOST_SIGNS := grep_of (PySem.W.mg_of X G x_MOST_SIGNS) kv_int,
    c_MOST_THINGS := grep_of (PySem.W.mg_of X G x_MOST_THINGS) kv_int,
    c_NAME := grep_of (PySem.W.mg_of X G x_NAME) kv_str,
    c_NUM := grep_of (PySem.W.mg_of X G x_NUM) kv_str,
    c_ROW := grep_of (PySem.W.mg_of X G x_ROW) kv_str,
    c_SHAPES := grep_of (PySem.W.mg_of X G x_SHAPES) (kv_kd l_SHAPES m_SHAPES (ke_cons h_SHAPES_0 (ke_cons h_SHAPES_1 (ke_cons h_SHAPES_2 (ke_cons h_SHAPES_3 (ke_cons h_SHAPES_4 (ke_cons h_SHAPES_5 (ke_cons h_SHAPES_6 (ke_cons h_SHAPES_7 (ke_cons h_SHAPES_8 (ke_cons h_SHAPES_9 ke_nil)))))))))) (kvs_cons (kv_tup l_SHAPES_0 (kvs_cons kv_int (kvs_cons kv_int (kvs_cons kv_bl kvs_nil)))) (kvs_cons (kv_tup l_SHAPES_1 (kvs_cons kv_int (kvs_cons kv_int (kvs_cons kv_bl kvs_nil)))) (kvs_cons (kv_tup l_SHAPES_2 (kvs_cons kv_int (kvs_cons kv_int (kvs_cons kv_bl kvs_nil)))) (kvs_cons (kv_tup l_SHAPES_3 (kvs_cons kv_int (kvs_cons kv_int (kvs_cons kv_bl kvs_nil)))) (kvs_cons (kv_tup l_SHAPES_4 (kvs_cons kv_int (kvs_cons kv_int (kvs_cons kv_bl kvs_nil)))) (kvs_cons (kv_tup l_SHAPES_5 (kvs_cons kv_int (kvs_cons kv_int (kvs_cons kv_bl kvs_nil)))) (kvs_cons (kv_tup l_SHAPES_6 (kvs_cons kv_int (kvs_cons kv_int (kvs_cons kv_bl kvs_nil)))) (kvs_cons (kv_tup l_SHAPES_7 (kvs_cons kv_int (kvs_cons kv_int (kvs_cons kv_bl kvs_nil)))) (kvs_cons (kv_tup l_SHAPES_8 (kvs_cons kv_int (kvs_cons kv_int (kvs_cons kv_bl kvs_nil)))) (kvs_cons (kv_tup l_SHAPES_9 (kvs_cons kv_int (kvs_cons kv_int (kvs_cons kv_bl kvs_nil)))) kvs_nil))))))))))),
    c_WHEEL := grep_of (PySem.W.mg_of X G x_WHEEL) kv_int,
    c_WORDS := grep_of (PySem.W.mg_of X G x_WORDS) (kv_tup l_WORDS (kvs_cons kv_str (kvs_cons kv_str (kvs_cons kv_str (kvs_cons kv_str (kvs_cons kv_str (kvs_cons kv_str (kvs_cons kv_str (kvs_cons kv_str (kvs_cons kv_str (kvs_cons kv_str (kvs_cons kv_str (kvs_cons kv_str (kvs_cons kv_str (kvs_cons kv_str (kvs_cons kv_str (kvs_cons kv_str kvs_nil))))))))))))))))),
    g_is_whole := PySem.W.mg_of X G a_is_whole,
    F_is_whole := F_is_whole,
    g_is_number := PySem.W.mg_of X G a_is_number,
    F_is_number := F_is_number,
    g_is_name := PySem.W.mg_of X G a_is_name,
    F_is_name := F_is_name,
    g_is_leaf := PySem.W.mg_of X G a_is_leaf,
    F_is_leaf := F_is_leaf,
    g_is_mark := PySem.W.mg_of X G a_is_mark,
    F_is_mark := F_is_mark,
    g_is_thing_with := PySem.W.mg_of X G a_is_thing_with,
    F_is_thing_with := F_is_thing_with,
    g_count_of := PySem.W.mg_of X G a_count_of,
    F_count_of := F_count_of,
    g_is_program := PySem.W.mg_of X G a_is_program,
    F_is_program := F_is_program,
    g_law_hand := PySem.W.mg_of X G a_law_hand,
    F_law_hand := F_law_hand,
    g_law_take := PySem.W.mg_of X G a_law_take,
    F_law_take := F_law_take,
    g_law_pick := PySem.W.mg_of X G a_law_pick,
    F_law_pick := F_law_pick,
    g_law_leaf := PySem.W.mg_of X G a_law_leaf,
    F_law_leaf := F_law_leaf,
    g_law_sized := PySem.W.mg_of X G a_law_sized,
    F_law_sized := F_law_sized,
    g_law_pack := PySem.W.mg_of X G a_law_pack,
    F_law_pack := F_law_pack,
    g_law_tower := PySem.W.mg_of X G a_law_tower,
    F_law_tower := F_law_tower,
    g_law_parts_right := PySem.W.mg_of X G a_law_parts_right,
    F_law_parts_right := F_law_parts_right,
    g_law_marks_right := PySem.W.mg_of X G a_law_marks_right,
    F_law_marks_right := F_law_marks_right,
    g_law_is := PySem.W.mg_of X G a_law_is,
    F_law_is := F_law_is,
    g_law_far := PySem.W.mg_of X G a_law_far,
    F_law_far := F_law_far,
    g_law := PySem.W.mg_of X G a_law,
    F_law := F_law }
  exact ⟨_, fun s v => .of_eq rfl, fun base _ _ => law_ok (G := ⟨K, w, mg⟩) (all (P := l.prog) (base := base) T 100).c_law.1 TT⟩
end K02
set_option Elab.async false
set_option linter.all false
set_option maxRecDepth 100000
set_option maxHeartbeats 4000000
namespace K02
open PySem L2 L3
/-! ### small -/
section
variable {S : Store}
@[simp] theorem isi_tup {l : List D} : isiD [.tup l, .ty "tuple"] S = .ok (.bl true) S := by kernel_rfl
@[simp] theorem isi_str {s : Str} : isiD [.str s, .ty "str"] S = .ok (.bl true) S := by kernel_rfl
@[simp] theorem isi_bl {b : Bool} : isiD [.bl b, .ty "bool"] S = .ok (.bl true) S := by kernel_rfl
theorem eq_bl {a b : Bool} : eqD (.bl a) (.bl b) S = .ok (.bl (a == b)) S := by cases a <;> cases b <;> kernel_rfl
/-! ### what the program says of a thing -/
theorem all_lst : ∀ bs : List Bool, allBls (bs.map D.bl) = some bs
  | [] => rfl
  | b :: bs => by simp [allBls, all_lst bs]
theorem all_bl (bs : List Bool) : allD [.lst (bs.map D.bl)] S = .ok (.bl (bs.all id)) S := by simp [allD, asL, all_lst]
theorem sum_lst : ∀ bs : List Int, allInts (bs.map D.int) = some bs
  | [] => rfl
  | b :: bs => by simp [allInts, sum_lst bs]
theorem sum_int (bs : List Int) : sumD [.lst (bs.map D.int)] S = .ok (.int bs.sum) S := by simp [sumD, asL, sum_lst]
/-- a word of the table, with its mark -/
structure WordOk (w m : Str) (f mo : Int) (g mk : Bool) : Prop where
  h1 : ∀ S, notInD (.str w) c_SHAPES S = .ok (.bl false) S
  h2 : ∀ S, ixD c_SHAPES (.str w) S = .ok (.tup [.int f, .int mo, .bl g]) S
  h3 : ∀ S, eqD (.str w) c_ROW S = .ok (.bl false) S ∨ eqD (.str w) c_ROW S = .ok (.bl true) S ∧ mo = 6
  h4 : ∀ k S, Fs (k + 2) 4 [.bl g, .str m] S = .ok (.bl mk) S
abbrev look (k : Nat) (d : D) (deep : Int) (S : Store) : R D := Fs k 5 [.glb "is_leaf", d, .int deep, .int 6] S
theorem thing_shut {k : Nat} {d : D} {deep : Int} (h : deep < 1) : look (k + 1) d deep S = .ok (.bl false) S := by
  apply of_sat
  rw [look, Fs_is_thing_with, sat_run]
  refine ⟨rfl, ?_⟩
  unfold m_is_thing_with
  simp [h]
theorem thing_node {k : Nat} {w m : Str} {f mo deep : Int} {g mk : Bool} {ps : List D} {bs : List Bool} (W : WordOk w m f mo g mk) (hk : 2 ≤ k) (hd : 1 ≤ deep) (hl : ps.length ≤ sizeLine)
    (hp : All2 (fun p b => look k p (deep - 1) S = .ok (.bl b) S) ps bs) :
    look (k + 1) (.tup [.str w, .str m, .tup ps]) deep S = .ok (.bl ((decide (f ≤ ps.length) && decide ((ps.length : Int) ≤ mo)) && mk && bs.all id)) S := by
  obtain ⟨h1, h2, h3, h4⟩ := W
  have h4 : ∀ S, Fs k 4 [.bl g, .str m] S = .ok (.bl mk) S := fun S => by
    obtain ⟨j, rfl⟩ : ∃ j, k = j + 2 := ⟨k - 2, by omega⟩
    exact h4 j S
  have h3 := h3 S
  apply of_sat
  rw [look, Fs_is_thing_with, sat_run]
  refine ⟨rfl, ?_⟩
  have hnd : ¬ deep < 1 := by omega
  have fin : ∀ mo' : Int, mo' = mo → ∀ e : EnvD, e = [some (.glb "is_leaf"), some (.tup [.str w, .str m, .tup ps]), some (.int deep), some (.int 6), some (.str w), some (.str m), some (.tup ps), some (.int f), some (.int mo'), some (.bl g), none] →
     ((sSeq (sIf (tOr (tNot (tOfE (eChain leD leD (eVar 7) (eN lenD (aCons (eVar 6) (aNil))) (eVar 8)))) (tNot (tTruth (eN (callK (Fs k 4) []) (aCons (eVar 9) (aCons (eVar 5) (aNil))))))) (sRet (eK (.bl false))) (sSkip))
    (sRet (eN allD (aCons (eLc (iSeq (eVar 6)) [10] (gName 10) (tYesD) (eKw (kwK (Fs k 5) 3 1 kbd_is_thing_with_3_widest_g) (aCons (eVar 0) (aCons (eVar 10) (aCons (e2 subD (eVar 2) (eK (.int 1))) (aNil)))) (aCons (eVar 3) (aNil)))) (aNil))))) e S).sat
       (fun _ S1 => D.non = .bl ((decide (f ≤ ps.length) && decide ((ps.length : Int) ≤ mo)) && mk && bs.all id) ∧ S1 = S) (fun d S' => d = .bl ((decide (f ≤ ps.length) && decide ((ps.length : Int) ≤ mo)) && mk && bs.all id) ∧ S' = S) (fun _ _ => False) fun _ _ => False := by
    intro mo' hmo e he
    subst hmo he
    simp [h4]
    by_cases c1 : f ≤ ps.length
    · by_cases c2 : (ps.length : Int) ≤ mo'
      · cases mk with
        | false => simp [c1, c2]
        | true =>
          simp [c1, c2, sat_eLc, hl]
          refine lc_two (ys := bs.map D.bl) (hp.imp fun x _ y h => ?_).map_r ?_
          · simp [wipeD, kwK, kbd_is_thing_with_3_widest_g]
            exact to_sat h ⟨rfl, rfl⟩
          · rw [all_bl]; simp
      · simp [c1, c2]
    · simp [c1]
  unfold m_is_thing_with
  simp [hnd, ne_int, h1, h2]
  rcases h3 with h3 | ⟨h3, h6⟩
  · rw [h3]
    simp only [sat_ok, blD_bl, Bool.false_eq_true, if_false, ssat_skip]
    simpa using fin mo rfl _ rfl
  · rw [h3]
    simp only [sat_ok, blD_bl, if_true]
    simpa using fin 6 h6.symm _ rfl
theorem thing_leaf {k : Nat} {w : Str} {m : D} {deep : Int} {b : Bool} (hd : 1 ≤ deep) (h1 : notInD (.str w) c_SHAPES S = .ok (.bl true) S) (h2 : Fs k 3 [.tup [.str w, m, .tup []]] S = .ok (.bl b) S) :
    look (k + 1) (.tup [.str w, m, .tup []]) deep S = .ok (.bl b) S := by
  apply of_sat
  rw [look, Fs_is_thing_with, sat_run]
  refine ⟨rfl, ?_⟩
  unfold m_is_thing_with
  simp [show ¬ deep < 1 by omega, ne_int, h1, h2]
theorem count_node {k : Nat} {w m : D} {ps : List D} {cs : List Int} (hl : ps.length ≤ sizeLine) (hp : All2 (fun p c => Fs k 6 [p] S = .ok (.int c) S) ps cs) :
    Fs (k + 1) 6 [.tup [w, m, .tup ps]] S = .ok (.int (1 + cs.sum)) S := by
  apply of_sat
  rw [Fs_count_of, sat_run]
  refine ⟨rfl, ?_⟩
  unfold m_count_of
  have e : ixD (.tup [w, m, .tup ps]) (.int 2) S = .ok (.tup ps) S := by simp [ixD, atI, ixN]
  simp [sat_eLc, e, hl]
  refine lc_two (ys := cs.map D.int) (hp.imp fun x _ y h => ?_).map_r ?_
  · simp [wipeD, h]
  · rw [sum_int]; simp
/-- a good thing: how deep, how many -/
structure Th (d : D) (dep cnt : Nat) : Prop where
  pos : 1 ≤ dep
  T : ∀ k deep S, dep + 3 ≤ k → look k d deep S = .ok (.bl (decide ((dep : Int) ≤ deep))) S
  C : ∀ k S, dep + 1 ≤ k → Fs k 6 [d] S = .ok (.int cnt) S
theorem th_leaf {w : Str} {m : D} (h1 : ∀ S, notInD (.str w) c_SHAPES S = .ok (.bl true) S) (h2 : ∀ k S, Fs (k + 3) 3 [.tup [.str w, m, .tup []]] S = .ok (.bl true) S) : Th (.tup [.str w, m, .tup []]) 1 1 where
  pos := Nat.le_refl _
  T k deep S hk := by
    obtain ⟨j, rfl⟩ : ∃ j, k = j + 4 := ⟨k - 4, by omega⟩
    by_cases hd : 1 ≤ deep
    · rw [thing_leaf hd (h1 S) (h2 j S)]; simp [hd]
    · rw [thing_shut (by omega)]; simp [hd]
  C k S hk := by
    obtain ⟨j, rfl⟩ : ∃ j, k = j + 1 := ⟨k - 1, by omega⟩
    exact count_node (by decide) .nil
theorem exM : ∀ dcs : List (Nat × Nat), ∃ M, (∀ dc ∈ dcs, dc.1 ≤ M) ∧ (M = 0 ∨ ∃ dc ∈ dcs, dc.1 = M)
  | [] => ⟨0, by simp, .inl rfl⟩
  | dc :: r => by
    obtain ⟨M, h1, h2⟩ := exM r
    by_cases h : dc.1 ≤ M
    · exact ⟨M, fun x hx => (List.mem_cons.mp hx).elim (fun e => e ▸ h) (h1 x), h2.imp id fun ⟨x, hx, e⟩ => ⟨x, List.mem_cons_of_mem _ hx, e⟩⟩
    · exact ⟨dc.1, fun x hx => (List.mem_cons.mp hx).elim (fun e => e ▸ Nat.le_refl _) fun hx => by have := h1 x hx; omega, .inr ⟨dc, List.mem_cons_self .., rfl⟩⟩
theorem th_node {w m : Str} {f mo : Int} {g : Bool} {ps : List D} {dcs : List (Nat × Nat)} (W : WordOk w m f mo g true) (hf : f ≤ ps.length) (hm : (ps.length : Int) ≤ mo) (hl : ps.length ≤ sizeLine) (hp : All2 (fun p dc => Th p dc.1 dc.2) ps dcs) :
    ∃ dep, Th (.tup [.str w, .str m, .tup ps]) dep (1 + (dcs.map (·.2)).sum) ∧ (∀ B, (∀ dc ∈ dcs, dc.1 ≤ B) → dep ≤ B + 1) ∧ ∀ dc ∈ dcs, dc.1 + 1 ≤ dep := by
  obtain ⟨M, h1, h2⟩ := exM dcs
  refine ⟨M + 1, ⟨by omega, fun k deep S hk => ?_, fun k S hk => ?_⟩, fun B hB => ?_, fun dc h => by have := h1 dc h; omega⟩
  · obtain ⟨j, rfl⟩ : ∃ j, k = j + 1 := ⟨k - 1, by omega⟩
    by_cases hd : 1 ≤ deep
    · have hq : ∀ p ∈ ps, ∀ dc, Th p dc.1 dc.2 → dc ∈ dcs → look j p (deep - 1) S = .ok (.bl (decide ((dc.1 : Int) ≤ deep - 1))) S := fun p _ dc t hdc => t.T j _ S (by have := h1 dc hdc; omega)
      have a2 : All2 (fun p (dc : Nat × Nat) => look j p (deep - 1) S = .ok (.bl (decide ((dc.1 : Int) ≤ deep - 1))) S) ps dcs := by
        clear hf hm hl hd hk h2
        induction hp with
        | nil => exact .nil
        | @cons x y xs ys p r ih => exact .cons (hq _ (List.mem_cons_self ..) _ p (List.mem_cons_self ..)) (ih (fun dc h => h1 dc (List.mem_cons_of_mem _ h)) fun p hp dc t hdc => hq p (List.mem_cons_of_mem _ hp) dc t (List.mem_cons_of_mem _ hdc))
      rw [thing_node (k := j) W (by omega) hd hl (All2.map_r (P := fun p b => look j p (deep - 1) S = .ok (.bl b) S) (f := fun dc : Nat × Nat => decide ((dc.1 : Int) ≤ deep - 1)) a2)]
      congr 2
      simp only [hf, hm, decide_true, Bool.and_self, Bool.true_and]
      rw [Bool.eq_iff_iff]
      simp only [List.all_map, List.all_eq_true, Function.comp, id, decide_eq_true_eq]
      constructor
      · intro h
        rcases h2 with rfl | ⟨dc, hdc, rfl⟩
        · simpa using hd
        · have := h dc hdc; omega
      · intro h dc hdc
        have := h1 dc hdc; omega
    · rw [thing_shut (by omega)]
      simp only [R.ok.injEq, D.bl.injEq, and_true]
      symm; rw [decide_eq_false_iff_not]; omega
  · obtain ⟨j, rfl⟩ : ∃ j, k = j + 1 := ⟨k - 1, by omega⟩
    have a2 : All2 (fun p (dc : Nat × Nat) => Fs j 6 [p] S = .ok (.int (dc.2 : Int)) S) ps dcs := by
      have hq : ∀ p ∈ ps, ∀ dc, Th p dc.1 dc.2 → dc ∈ dcs → Fs j 6 [p] S = .ok (.int (dc.2 : Int)) S := fun p _ dc t hdc => t.C j S (by have := h1 dc hdc; omega)
      clear hf hm hl hk h2
      induction hp with
      | nil => exact .nil
      | @cons x y xs ys p r ih => exact .cons (hq _ (List.mem_cons_self ..) _ p (List.mem_cons_self ..)) (ih (fun dc h => h1 dc (List.mem_cons_of_mem _ h)) fun p hp dc t hdc => hq p (List.mem_cons_of_mem _ hp) dc t (List.mem_cons_of_mem _ hdc))
    rw [count_node (k := j) hl (All2.map_r (P := fun p c => Fs j 6 [p] S = .ok (.int c) S) (f := fun dc : Nat × Nat => (dc.2 : Int)) a2)]
    congr 2
    have : ∀ l : List (Nat × Nat), (l.map fun dc => (dc.2 : Int)).sum = (((l.map (·.2)).sum : Nat) : Int) := fun l => by
      induction l with
      | nil => rfl
      | cons x l ih => simp [ih]
    rw [this]; simp
  · rcases h2 with rfl | ⟨dc, hdc, rfl⟩
    · omega
    · have := hB dc hdc; omega
/-- is_program -/
theorem prog {d : D} {dep cnt k : Nat} (h : Th d dep cnt) (hk : dep + 4 ≤ k) : Fs k 7 [d] S = .ok (.bl (decide (dep ≤ 10) && decide (cnt ≤ 60))) S := by
  obtain ⟨j, rfl⟩ : ∃ j, k = j + 1 := ⟨k - 1, by omega⟩
  apply of_sat
  rw [Fs_is_program, sat_run]
  refine ⟨rfl, ?_⟩
  unfold m_is_program
  have := h.T j 10 S (by omega)
  simp only [look] at this
  simp [c_MOST_DEEP, c_MOST_THINGS, this, h.C j S (by omega)]
  by_cases h1 : dep ≤ 10
  · have : (dep : Int) ≤ 10 := by omega
    simp [h1, this]
    omega
  · have : ¬ (dep : Int) ≤ 10 := by omega
    simp [h1, this]
theorem prog_not {d : D} {k : Nat} (h : look k d 10 S = .ok (.bl false) S) : Fs (k + 1) 7 [d] S = .ok (.bl false) S := by
  apply of_sat
  rw [Fs_is_program, sat_run]
  refine ⟨rfl, ?_⟩
  unfold m_is_program
  simp only [look] at h
  simp [c_MOST_DEEP, h]
end
end K02
set_option Elab.async false
set_option linter.all false
set_option maxRecDepth 100000
set_option maxHeartbeats 4000000
namespace K02
open PySem L2 L3
variable {S : Store} {n : Nat}
theorem tk (k : Nat) : IsTake (Fs (k + 1) 9) := isTake
theorem pk (k : Nat) : IsPick (Fs (k + 2) 10) := isPick (tk k)
theorem hd (k : Nat) : IsHand (Fs (k + 1) 8) := isHand
theorem is_ok (k : Nat) (a b : Bool) : Fs (k + 1) 17 [.bl a, .bl b] S = .ok (.bl (a == b)) S := by
  cases a <;> cases b <;> kernel_rfl
theorem marks (k : Nat) : Fs (k + 10) 16 [] S = .ok (.bl true) S := by kernel_rfl
theorem leaf (k : Nat) (h : Hand n S) : (Fs (k + 3) 11 [.obj n] S).sat fun d S' => Th d 1 1 ∧ FrH n S S' := by
  rw [Fs_law_leaf, sat_run]
  refine ⟨rfl, ?_⟩
  unfold m_law_leaf
  simp [show (3 : Nat) ≤ sizeLine by decide, show (0 : Nat) ≤ sizeLine by decide, show (4 : Nat) ≤ sizeLine by decide]
  refine sat_mono (((pk k) n S _ h (by simp) (by simp)).1) fun d S' q => ⟨?_, q.2⟩
  have := q.1
  simp at this
  rcases this with rfl | rfl | rfl | rfl
  all_goals exact th_leaf (fun S => by kernel_rfl) (fun k S => by kernel_rfl)
def lv (many : Nat) : Nat := if many ≤ 1 then 1 else if many < 8 then 2 else if many ≤ 43 then 3 else 4
theorem wRow : WordOk "row" "" 0 6 false true := ⟨fun S => by kernel_rfl, fun S => by kernel_rfl, fun S => .inr ⟨by kernel_rfl, rfl⟩, fun k S => by kernel_rfl⟩
theorem wPlus : WordOk "plus" "" 1 6 false true := ⟨fun S => by kernel_rfl, fun S => by kernel_rfl, fun S => .inl (by kernel_rfl), fun k S => by kernel_rfl⟩
theorem wTimes : WordOk "times" "" 1 6 false true := ⟨fun S => by kernel_rfl, fun S => by kernel_rfl, fun S => .inl (by kernel_rfl), fun k S => by kernel_rfl⟩
theorem wMost : WordOk "most" "" 1 6 false true := ⟨fun S => by kernel_rfl, fun S => by kernel_rfl, fun S => .inl (by kernel_rfl), fun k S => by kernel_rfl⟩
theorem wSay : WordOk "say" "" 1 1 false true := ⟨fun S => by kernel_rfl, fun S => by kernel_rfl, fun S => .inl (by kernel_rfl), fun k S => by kernel_rfl⟩
theorem wLess : WordOk "less" "" 2 2 false true := ⟨fun S => by kernel_rfl, fun S => by kernel_rfl, fun S => .inl (by kernel_rfl), fun k S => by kernel_rfl⟩
theorem wBelow : WordOk "below" "" 2 2 false true := ⟨fun S => by kernel_rfl, fun S => by kernel_rfl, fun S => .inl (by kernel_rfl), fun k S => by kernel_rfl⟩
theorem wIf : WordOk "if" "" 3 3 false true := ⟨fun S => by kernel_rfl, fun S => by kernel_rfl, fun S => .inl (by kernel_rfl), fun k S => by kernel_rfl⟩
theorem wLet : WordOk "let" "x" 2 2 true true := ⟨fun S => by kernel_rfl, fun S => by kernel_rfl, fun S => .inl (by kernel_rfl), fun k S => by kernel_rfl⟩
theorem wEachX : WordOk "each" "x" 2 2 true true := ⟨fun S => by kernel_rfl, fun S => by kernel_rfl, fun S => .inl (by kernel_rfl), fun k S => by kernel_rfl⟩
theorem wEach : WordOk "each" "y" 2 2 true true := ⟨fun S => by kernel_rfl, fun S => by kernel_rfl, fun S => .inl (by kernel_rfl), fun k S => by kernel_rfl⟩
theorem reps {ys : List D} (h : ∀ y ∈ ys, Th y 1 1) : All2 (fun p (dc : Nat × Nat) => Th p dc.1 dc.2) ys (List.replicate ys.length (1, 1)) := by
  induction ys with
  | nil => exact .nil
  | cons y ys ih => exact .cons (h y (List.mem_cons_self ..)) (ih fun y hy => h y (List.mem_cons_of_mem _ hy))
theorem sum_reps (m : Nat) : ((List.replicate m ((1, 1) : Nat × Nat)).map (·.2)).sum = m := by simp
theorem small {n : Nat} (h : n ≤ 1000) : n ≤ sizeLine := Nat.le_trans h (by decide)
theorem cd (j : Nat) (hj : j < 6) (left c : Int) (hc : c = 7 ∨ c = 10) (h1 : 6 - (j : Int) ≤ left) (h2 : left ≤ c * (6 - j)) :
    1 ≤ -(-left / (6 - (j : Int))) ∧ -(-left / (6 - (j : Int))) ≤ c ∧ 6 - ((j : Int) + 1) ≤ left - -(-left / (6 - (j : Int))) ∧ left - -(-left / (6 - (j : Int))) ≤ c * (6 - ((j : Int) + 1)) := by
  rcases (by omega : j = 0 ∨ j = 1 ∨ j = 2 ∨ j = 3 ∨ j = 4 ∨ j = 5) with rfl | rfl | rfl | rfl | rfl | rfl <;> rcases hc with rfl | rfl <;> simp at h1 h2 ⊢ <;> omega
def PackOk (n : Nat) (many : Nat) : Prop := ∀ k, many + 6 ≤ k → ∀ S, Hand n S → (Fs k 13 [.obj n, .int many] S).sat fun d S' => (∃ dep, Th d dep many ∧ dep ≤ lv many) ∧ FrH n S S'
theorem leaves (k m : Nat) (hm : m ≤ 1000) (h : Hand n S) (i : Nat) (env : EnvD) (hi : i ≠ 0) (h0 : env[0]? = some (some (.obj n))) {Q : List D → Store → Prop} (hQ : ∀ ys S', FrH n S S' → ys.length = m → (∀ y ∈ ys, Th y 1 1) → Q ys S') :
    lcSat (L3.gName i) tYesD (eN (callK (Fs (k + 3) 11) []) (aCons (eVar 0) aNil)) env (rangeD 0 m) S Q := by
  refine lc_rule (FrH n S) (fun _ y => Th y 1 1) (.refl h) (fun x _ S1 h1 => ?_) fun ys S' h1 h2 => hQ ys S' h1 (by have := h2.len; simp at this; exact this) (h2.all fun _ _ _ h => h)
  simp [List.getElem?_set_ne hi, h0]
  exact sat_mono (leaf k h1.hd) fun d S2 q => ⟨q.1, h1.trans q.2⟩
theorem pack : ∀ many, 1 ≤ many → many ≤ 61 → PackOk n many := by
  intro many
  induction many using Nat.strongRecOn with
  | _ many ih =>
  intro h1 h61 k hk S hS
  obtain ⟨k, rfl⟩ : ∃ j, k = j + 4 := ⟨k - 4, by omega⟩
  rw [Fs_law_pack, sat_run]
  refine ⟨rfl, ?_⟩
  unfold m_law_pack
  by_cases e1 : many = 1
  · subst e1
    simp [eq_int]
    exact sat_mono (leaf k hS) fun d S' q => ⟨⟨1, q.1, by decide⟩, q.2⟩
  · by_cases e8 : many < 8
    · simp [eq_int, e8, show ¬ (many : Int) = 1 by omega, show (many : Int) < 8 by omega, sat_eLc]
      refine ⟨by simp [okRng]; omega, by have := (show 1000 ≤ sizeLine by decide); omega, ?_⟩
      rw [show (many : Int) - 1 = ((many - 1 : Nat) : Int) by omega]
      refine leaves k (many - 1) (by omega) hS 2 _ (by decide) rfl fun ys S' fr hl ht => ?_
      refine ⟨by decide, ?_, fr⟩
      obtain ⟨dep, t, b, _⟩ := th_node (ps := ys) wRow (by omega) (by omega) (small (by omega)) (reps ht)
      rw [sum_reps, hl] at t
      refine ⟨dep, by rw [show 1 + (many - 1) = many by omega] at t; exact t, ?_⟩
      have := b 1 (fun dc h => by rw [List.mem_replicate] at h; rw [h.2]; exact Nat.le_refl _)
      simp [lv, e8]; split <;> omega
    · have n1 : ¬ (many : Int) = 1 := by omega
      have n8 : ¬ (many : Int) < 8 := by omega
      simp [eq_int, n1, n8, ssat_for]
      refine ⟨by decide, ?_⟩
      obtain ⟨c, hc, hcb, hcl⟩ : ∃ c : Nat, (c = 7 ∨ c = 10) ∧ many - 1 ≤ c * 6 ∧ (lv c + 1 ≤ lv many ∧ c < many) := by
        by_cases h43 : many ≤ 43
        · exact ⟨7, .inl rfl, by omega, by have : lv 7 = 2 := rfl; rw [this]; unfold lv; (repeat' split) <;> omega, by omega⟩
        · exact ⟨10, .inr rfl, by omega, by have : lv 10 = 3 := rfl; rw [this]; unfold lv; (repeat' split) <;> omega, by omega⟩
      refine for_rule (fun j env S' => ∃ (a b : Option D) (ps : List D) (dcs : List (Nat × Nat)) (left : Nat), env = [some (.obj n), some (.int many), a, some (.obj S.length), some (.int left), b] ∧ FrH n S S' ∧ S'[S.length]? = some (.lst ps) ∧
          All2 (fun p (dc : Nat × Nat) => Th p dc.1 dc.2) ps dcs ∧ (∀ dc ∈ dcs, dc.1 ≤ lv c) ∧ ps.length = j ∧ (dcs.map (·.2)).sum + left = many - 1 ∧ 6 - j ≤ left ∧ left ≤ c * (6 - j)) ?_ ?_ ?_
      · refine ⟨none, none, [], [], many - 1, by simp; omega, .app hS _, by simp, .nil, by simp, rfl, by simp, by omega, by omega⟩
      · rintro j hj e S1 ⟨a, b, ps, dcs, left, rfl, fr, hp, ha, hdc, hl, hs, hl1, hl2⟩
        have hj6 : j < 6 := by simpa using hj
        have C := cd j hj6 left c (by omega) (by omega) (by rcases hc with rfl | rfl <;> omega)
        obtain ⟨mn, hmn⟩ : ∃ mn : Nat, -(-(left : Int) / (6 - (j : Int))) = mn := ⟨(-(-(left : Int) / (6 - (j : Int)))).toNat, by omega⟩
        rw [hmn] at C
        have hlog : (6 - (j : Int)).natAbs.log2 < 9000 := lg_lt (m := 0) (by omega)
        simp [fdiv_int, hmn, hlog, mtD_obj hp]
        refine ⟨by omega, ?_⟩
        have := ih mn (by omega) (by omega) (by omega) (k + 3) (by omega) S1 fr.hd
        refine sat_mono this fun d S2 q => ?_
        obtain ⟨⟨dep, t, hdep⟩, fr2⟩ := q
        have hne : S.length ≠ n := by have := hS.lt; omega
        have hp2 := fr2.fr _ _ hne hp
        rw [append_obj hp2]
        refine ⟨Nat.lt_of_le_of_lt (m := 6) (by omega) (by decide), ?_⟩
        refine ⟨some (.int j), some (.int mn), ps ++ [d], dcs ++ [(dep, mn)], left - mn, by simp; omega, (fr.trans fr2).put hS (Nat.le_refl _) _, ?_, ha.app (.cons t .nil), ?_, by simp [hl], by simp; omega, by omega, ?_⟩
        · rw [List.getElem?_set_self (List.getElem?_eq_some_iff.mp hp2).1]
        · intro x y h
          rcases List.mem_append.mp h with h | h
          · exact hdc (x, y) h
          · simp at h; obtain ⟨rfl, rfl⟩ := h
            have : lv y ≤ lv c := by unfold lv; (repeat' split) <;> omega
            omega
        · rcases hc with rfl | rfl <;> omega
      · rintro e S1 ⟨a, b, ps, dcs, left, rfl, fr, hp, ha, hdc, hl, hs, hl1, hl2⟩
        simp at hl hl1 hl2
        simp
        refine ⟨by decide, sat_mono ((pk (k + 1)) n S1 _ fr.hd (by simp) (by simp)).1 fun d S2 q => ?_⟩
        have hne : S.length ≠ n := by have := hS.lt; omega
        have hp2 := q.2.fr _ _ hne hp
        rw [tuple_obj hp2]
        simp
        refine ⟨by decide, ?_, fr.trans q.2⟩
        have fin : ∀ {w : Str} {f : Int}, WordOk w "" f 6 false true → f ≤ 6 → ∃ dep, Th (.tup [.str w, .str "", .tup ps]) dep many ∧ dep ≤ lv many := fun W hf => by
          obtain ⟨dep, t, b, _⟩ := th_node (ps := ps) W (by omega) (by omega) (small (by omega)) ha
          refine ⟨dep, by rw [show 1 + (dcs.map (·.2)).sum = many by omega] at t; exact t, ?_⟩
          have := b (lv c) hdc
          omega
        have := q.1
        simp at this
        rcases this with rfl | rfl | rfl | rfl
        · exact fin wRow (by decide)
        · exact fin wPlus (by decide)
        · exact fin wTimes (by decide)
        · exact fin wMost (by decide)
end K02
set_option Elab.async false
set_option linter.all false
set_option maxRecDepth 100000
set_option maxHeartbeats 4000000
namespace K02
open PySem L2 L3
variable {S : Store} {n : Nat}
theorem add_lst {a b : List D} (h : a.length + b.length ≤ sizeLine) : addD (.lst a) (.lst b) S = .ok (.lst (a ++ b)) S := by simp [addD, asL, h]
theorem for_each {g : GD} {body : SD} {N B C : EnvD → Store → Prop} {T : D → Store → Prop} (I : EnvD → Store → Prop) {xs : List D} {env : EnvD} (h0 : I env S)
    (hs : ∀ x ∈ xs, ∀ e S, I e S → (g x e S).sat (fun e S => (body e S).sat I T N I) (fun _ _ => False) (fun _ _ => False) fun _ _ => False)
    (hN : ∀ e S, I e S → N e S) : (forL g body xs env S).sat N T B C :=
  for_rule (fun _ => I) h0 (fun j hj e S h => hs _ (List.getElem_mem hj) e S h) hN
theorem for_n {i : Nat} {body : SD} {N B C : EnvD → Store → Prop} {T : D → Store → Prop} (I : EnvD → Store → Prop) {xs : List D} {env : EnvD} (h0 : I env S)
    (hs : ∀ x ∈ xs, ∀ e S, I e S → (body (e.set i (some x)) S).sat I T N I) (hN : ∀ e S, I e S → N e S) : (forL (L3.gName i) body xs env S).sat N T B C :=
  for_each I h0 (fun x hx e S h => by rw [gName_eq, ssat_nx]; exact hs x hx e S h) hN
theorem seq_rule {a b : SD} {env : EnvD} {N B C : EnvD → Store → Prop} {T : D → Store → Prop} (M : EnvD → Store → Prop) (h : (a env S).sat M T B C) (k : ∀ e S, M e S → (b e S).sat N T B C) : (sSeq a b env S).sat N T B C := by
  rw [ssat_seq]; exact ssat_mono h k (fun _ _ h => h) (fun _ _ h => h) fun _ _ h => h
theorem lv4 (m : Nat) : lv m ≤ 4 := by unfold lv; (repeat' split) <;> omega
theorem sized (many : Nat) (h1 : 1 ≤ many) (h61 : many ≤ 61) (k : Nat) (hk : many + 6 ≤ k) (hS : Hand n S) : (Fs (k + 1) 12 [.obj n, .int many] S).sat fun d S' => (∃ dep, Th d dep many ∧ dep ≤ 5) ∧ FrH n S S' := by
  obtain ⟨k, rfl⟩ : ∃ j, k = j + 4 := ⟨k - 4, by omega⟩
  rw [Fs_law_sized, sat_run]
  refine ⟨rfl, ?_⟩
  unfold m_law_sized
  simp only [ssat_seq, ssat_par, sat_aCons, sat_eN, sat_aNil, sat_mkObj, sat_e2, sat_eVar, sat_eK]
  refine ⟨by decide, ?_⟩
  simp only [List.map_cons, List.map_nil, List.length_cons, List.length_nil, List.getElem?_cons_succ, List.getElem?_cons_zero, List.cons_append, List.nil_append, List.replicate, sub_int, sat_ok, gNames_cons, gNames_nil, ssat_nx, List.set_cons_succ, List.set_cons_zero]
  refine while_rule (fun m env S' => ∃ (a : Option D) (ps : List D) (dcs : List (Nat × Nat)), env = [some (.obj n), some (.int many), some (.obj S.length), some (.int m), a] ∧ FrH n S S' ∧ S'[S.length]? = some (.lst ps) ∧
      All2 (fun p (dc : Nat × Nat) => Th p dc.1 dc.2) ps dcs ∧ (∀ dc ∈ dcs, dc.1 ≤ 4) ∧ ps.length ≤ 6 ∧ (ps.length = 6 → m = 0) ∧ (dcs.map (·.2)).sum + m = many - 1) (m := many - 1) (by show many - 1 < 100000; omega) ?_ ?_
  · exact ⟨none, [], [], by rw [show (many : Int) - 1 = ((many - 1 : Nat) : Int) by omega], .app hS _, by simp, .nil, by simp, by simp, by simp, by simp⟩
  · rintro m e S1 ⟨a, ps, dcs, rfl, fr, hp, ha, hdc, hl, h6, hs⟩
    simp only [sat_tOfE, sat_e2, sat_eVar, sat_eK, List.getElem?_cons_succ, List.getElem?_cons_zero, gt_int, sat_ok, blD_bl]
    by_cases hm : m = 0
    · subst hm
      simp [tuple_obj hp]
      refine ⟨by decide, ?_, fr⟩
      obtain ⟨dep, t, b, _⟩ := th_node (ps := ps) wRow (by omega) (by omega) (small (by omega)) ha
      refine ⟨dep, by rw [show 1 + (dcs.map (·.2)).sum = many by omega] at t; exact t, ?_⟩
      exact b 4 hdc
    · have hm0 : (0 : Int) < m := by omega
      have hl5 : ps.length ≤ 5 := by
        rcases Nat.lt_or_ge ps.length 6 with h | h
        · omega
        · exact absurd (h6 (by omega)) hm
      have go : ∀ (mn : Nat) (S2 : Store), 1 ≤ mn → mn ≤ m → (ps.length = 5 → mn = m) → FrH n S1 S2 →
          ((sSeq (sExpr (eBM "list" appendD (eVar 2) (aCons (eN (callK (Fs (k + 4) 13) []) (aCons (eVar 0) (aCons (eVar 4) (aNil)))) (aNil))))
    (sAsg (e2 subD (eVar 3) (eVar 4)) (L3.gName 3))) [some (.obj n), some (.int many), some (.obj S.length), some (.int m), some (.int mn)] S2).sat (fun env S' => ∃ m' < m, ∃ (a : Option D) (ps : List D) (dcs : List (Nat × Nat)), env = [some (.obj n), some (.int many), some (.obj S.length), some (.int m'), a] ∧ FrH n S S' ∧ S'[S.length]? = some (.lst ps) ∧
      All2 (fun p (dc : Nat × Nat) => Th p dc.1 dc.2) ps dcs ∧ (∀ dc ∈ dcs, dc.1 ≤ 4) ∧ ps.length ≤ 6 ∧ (ps.length = 6 → m' = 0) ∧ (dcs.map (·.2)).sum + m' = many - 1) (fun d S' => (∃ dep, Th d dep many ∧ dep ≤ 5) ∧ FrH n S S') (fun _ _ => False) (fun _ _ => False) := fun mn S2 hn1 hn2 hn5 fr2 => by
        have hne : S.length ≠ n := by have := hS.lt; omega
        have hp1 := fr2.fr _ _ hne hp
        simp only [ssat_seq, ssat_sExpr, sat_eBM, sat_eVar, List.getElem?_cons_succ, List.getElem?_cons_zero, sat_aCons, sat_eN, sat_aNil, callK_eq, List.append_nil]
        refine ⟨mtD_obj hp1, sat_mono (pack mn hn1 (by omega) (k + 4) (by omega) S2 fr2.hd) fun d S3 q => ?_⟩
        obtain ⟨⟨dep, t, hdep⟩, fr3⟩ := q
        have hp2 := fr3.fr _ _ hne hp1
        rw [append_obj hp2]
        refine ⟨Nat.lt_of_le_of_lt (m := 6) (by omega) (by decide), ?_⟩
        simp only [ssat_asg, sat_e2, sat_eVar, List.getElem?_cons_succ, List.getElem?_cons_zero, sub_int, sat_ok, gName_eq, ssat_nx, List.set_cons_succ, List.set_cons_zero]
        refine ⟨m - mn, by omega, some (.int mn), ps ++ [d], dcs ++ [(dep, mn)], by rw [show (m : Int) - mn = ((m - mn : Nat) : Int) by omega], ((fr.trans fr2).trans fr3).put hS (Nat.le_refl _) _, ?_, ha.app (.cons t .nil), ?_, by simp; omega, ?_, by simp; omega⟩
        · rw [List.getElem?_set_self (List.getElem?_eq_some_iff.mp hp2).1]
        · intro dc h
          rcases List.mem_append.mp h with h | h
          · exact hdc dc h
          · simp only [List.mem_singleton] at h; subst h
            have := lv4 mn
            simp only; omega
        · intro h; simp at h; have := hn5 (by omega); omega
      simp only [hm0, decide_true, if_true]
      refine seq_rule (fun e S2 => ∃ mn : Nat, e = [some (.obj n), some (.int many), some (.obj S.length), some (.int m), some (.int mn)] ∧ 1 ≤ mn ∧ mn ≤ m ∧ (ps.length = 5 → mn = m) ∧ FrH n S1 S2) ?_ ?_
      · simp only [ssat_asg, sat_eIf, sat_tOfE, sat_e2, sat_eN, sat_aCons, sat_aNil, sat_eVar, sat_eK, List.getElem?_cons_succ, List.getElem?_cons_zero, len_obj hp, lt_int, sat_ok, blD_bl]
        by_cases h5 : ps.length < 5
        · have h5' : (ps.length : Int) < 5 := by omega
          simp only [h5', decide_true, if_true, callK_eq, List.append_nil]
          refine sat_mono ((tk (k + 3)) n S1 7 fr.hd (by decide) (by decide)) fun d S2 q => ?_
          obtain ⟨⟨i, rfl, i0, i7⟩, fr2⟩ := q
          simp only [add_int, sat_ok, minD, gName_eq, ssat_nx, List.set_cons_succ, List.set_cons_zero]
          obtain ⟨mn, hmn⟩ : ∃ mn : Nat, (if 1 + i < (m : Int) then 1 + i else (m : Int)) = mn := ⟨(if 1 + i < (m : Int) then 1 + i else (m : Int)).toNat, by split <;> omega⟩
          rw [hmn]
          exact ⟨mn, rfl, by split at hmn <;> omega, by split at hmn <;> omega, by omega, fr2⟩
        · have h5' : ¬ (ps.length : Int) < 5 := by omega
          simp only [h5', decide_false, Bool.false_eq_true, if_false, gName_eq, ssat_nx, List.set_cons_succ, List.set_cons_zero]
          exact ⟨m, rfl, by omega, Nat.le_refl _, fun _ => rfl, .refl fr.hd⟩
      · rintro e S2 ⟨mn, rfl, hn1, hn2, hn5, fr2⟩
        exact ssat_mono (go mn S2 hn1 hn2 hn5 fr2) (fun _ _ h => h) (fun _ _ h => h) (fun _ _ h => h.elim) fun _ _ h => h.elim
end K02
set_option Elab.async false
set_option linter.all false
set_option maxRecDepth 100000
set_option maxHeartbeats 4000000
namespace K02
open PySem L2 L3
variable {S : Store} {n : Nat}
theorem sz0 : (0 : Nat) ≤ sizeLine := by decide
theorem sz1 : (1 : Nat) ≤ sizeLine := by decide
theorem sz2 : (2 : Nat) ≤ sizeLine := by decide
theorem sz3 : (3 : Nat) ≤ sizeLine := by decide
theorem sz4 : (4 : Nat) ≤ sizeLine := by decide
theorem sz5 : (5 : Nat) ≤ sizeLine := by decide
theorem sz6 : (6 : Nat) ≤ sizeLine := by decide
theorem one {w m : Str} {f mo : Int} {g : Bool} {d : D} {j c : Nat} (W : WordOk w m f mo g true) (h1 : f ≤ 1) (h2 : 1 ≤ mo) (t : Th d (j + 1) c) (hc : c ≤ 1 + 2 * j) : ∃ c', Th (.tup [.str w, .str m, .tup [d]]) (j + 1 + 1) c' ∧ c' ≤ 1 + 2 * (j + 1) := by
  obtain ⟨dep, q, b1, b2⟩ := th_node (ps := [d]) (dcs := [(j + 1, c)]) W (by simpa using h1) (by simpa using h2) (small (by simp)) (.cons t .nil)
  have e1 := b1 (j + 1) (by simp)
  have e2 := b2 (j + 1, c) (by simp)
  have : dep = j + 1 + 1 := by simp only at e2; omega
  subst this
  exact ⟨_, q, by simp; omega⟩
theorem twoL {w m : Str} {f mo : Int} {g : Bool} {d l : D} {j c : Nat} (W : WordOk w m f mo g true) (h1 : f ≤ 2) (h2 : 2 ≤ mo) (tl : Th l 1 1) (t : Th d (j + 1) c) (hc : c ≤ 1 + 2 * j) : ∃ c', Th (.tup [.str w, .str m, .tup [l, d]]) (j + 1 + 1) c' ∧ c' ≤ 1 + 2 * (j + 1) := by
  obtain ⟨dep, q, b1, b2⟩ := th_node (ps := [l, d]) (dcs := [(1, 1), (j + 1, c)]) W (by simpa using h1) (by simpa using h2) (small (by simp)) (.cons tl (.cons t .nil))
  have e1 := b1 (j + 1) (by simp)
  have e2 := b2 (j + 1, c) (by simp)
  have : dep = j + 1 + 1 := by simp only at e2; omega
  subst this
  exact ⟨_, q, by simp; omega⟩
theorem twoR {w m : Str} {f mo : Int} {g : Bool} {d l : D} {j c : Nat} (W : WordOk w m f mo g true) (h1 : f ≤ 2) (h2 : 2 ≤ mo) (tl : Th l 1 1) (t : Th d (j + 1) c) (hc : c ≤ 1 + 2 * j) : ∃ c', Th (.tup [.str w, .str m, .tup [d, l]]) (j + 1 + 1) c' ∧ c' ≤ 1 + 2 * (j + 1) := by
  obtain ⟨dep, q, b1, b2⟩ := th_node (ps := [d, l]) (dcs := [(j + 1, c), (1, 1)]) W (by simpa using h1) (by simpa using h2) (small (by simp)) (.cons t (.cons tl .nil))
  have e1 := b1 (j + 1) (by simp)
  have e2 := b2 (j + 1, c) (by simp)
  have : dep = j + 1 + 1 := by simp only at e2; omega
  subst this
  exact ⟨_, q, by simp; omega⟩
theorem tower (deep k : Nat) (h1 : 1 ≤ deep) (h11 : deep ≤ 11) (hS : Hand n S) : (Fs (k + 4) 14 [.obj n, .int deep] S).sat fun d S' => (∃ c, Th d deep c ∧ c ≤ 2 * deep) ∧ FrH n S S' := by
  rw [Fs_law_tower, sat_run]
  refine ⟨rfl, ?_⟩
  unfold m_law_tower
  simp only [ssat_seq, ssat_asg, sat_aCons, sat_eN, sat_aNil, sat_eVar, callK_eq, List.append_nil, List.map_cons, List.map_nil, List.length_cons, List.length_nil, List.getElem?_cons_succ, List.getElem?_cons_zero, List.cons_append, List.nil_append, List.replicate]
  refine sat_mono (leaf k hS) fun l0 S0 q0 => ?_
  simp only [gName_eq, ssat_nx, ssat_for, sat_iArgs, sat_aCons, sat_aNil, sat_e2, sat_eVar, sat_eK, List.getElem?_cons_succ, List.getElem?_cons_zero, List.set_cons_succ, List.set_cons_zero, sub_int, sat_ok, sat_range1]
  refine ⟨by simp [okRng]; omega, ?_⟩
  refine for_rule (fun j env S' => ∃ (a b : Option D) (d : D) (c : Nat), env = [some (.obj n), some (.int deep), some d, a, b] ∧ Th d (j + 1) c ∧ c ≤ 1 + 2 * j ∧ FrH n S S') ⟨_, _, l0, 1, rfl, q0.1, by omega, q0.2⟩ ?_ ?_
  · rintro j hj e S1 ⟨a, b, d, c, rfl, t, hc, fr⟩
    simp [sz1, sz2, sz3]
    refine sat_mono (leaf k fr.hd) fun l1 S2 q1 => sat_mono (leaf k q1.2.hd) fun l2 S3 q2 => sat_mono (leaf k q2.2.hd) fun l3 S4 q3 => ?_
    rw [add_lst (small (by simp))]
    simp
    have fr4 := ((fr.trans q1.2).trans q2.2).trans q3.2
    refine sat_mono ((pk (k + 1)) n S4 _ fr4.hd (by simp) (by simp)).1 fun x S5 q => ?_
    have key : ∃ c', Th x (j + 1 + 1) c' ∧ c' ≤ 1 + 2 * (j + 1) := by
      have := q.1
      simp at this
      rcases this with rfl | rfl | rfl | rfl | rfl | rfl
      · exact one wSay (by decide) (by decide) t hc
      · exact twoL wLess (by decide) (by decide) q1.1 t hc
      · exact twoR wLet (by decide) (by decide) q2.1 t hc
      · exact twoL wEach (by decide) (by decide) q3.1 t hc
      · exact one wRow (by decide) (by decide) t hc
      · exact one wPlus (by decide) (by decide) t hc
    obtain ⟨c', t', hc'⟩ := key
    exact ⟨_, _, x, ⟨rfl, rfl, rfl⟩, c', t', hc', fr4.trans q.2⟩
  · rintro e S1 ⟨a, b, d, c, rfl, t, hc, fr⟩
    simp at t hc ⊢
    rw [show deep - 1 + 1 = deep by omega] at t
    exact ⟨⟨c, t, by omega⟩, fr⟩
theorem prog_leaves {w m : Str} {f mo : Int} {g mk : Bool} {ys : List D} {k : Nat} (W : WordOk w m f mo g mk) (h : ∀ y ∈ ys, Th y 1 1) (hl : ys.length ≤ 1000) (hk : 10 ≤ k) (h60 : (ys.length : Int) ≤ mo → ys.length < 60) :
    Fs k 7 [.tup [.str w, .str m, .tup ys]] S = .ok (.bl ((decide (f ≤ ys.length) && decide ((ys.length : Int) ≤ mo)) && mk)) S := by
  obtain ⟨j, rfl⟩ : ∃ j, k = j + 2 := ⟨k - 2, by omega⟩
  have a2 : All2 (fun p b => look j p (10 - 1) S = .ok (.bl b) S) ys (List.replicate ys.length true) := by
    clear hl h60
    induction ys with
    | nil => exact .nil
    | cons y ys ih => exact .cons (by rw [(h y (List.mem_cons_self ..)).T j (10 - 1) S (by omega)]; rfl) (ih fun y hy => h y (List.mem_cons_of_mem _ hy))
  have L := thing_node (k := j) (deep := 10) (S := S) W (by omega) (by decide) (small hl) a2
  have ha : (List.replicate ys.length true).all id = true := by simp
  rw [ha, Bool.and_true] at L
  cases hb : ((decide (f ≤ ys.length) && decide ((ys.length : Int) ≤ mo)) && mk) with
  | false => rw [hb] at L; exact prog_not L
  | true =>
    simp only [Bool.and_eq_true, decide_eq_true_eq] at hb
    obtain ⟨⟨c1, c2⟩, rfl⟩ := hb
    obtain ⟨dep, t, b, _⟩ := th_node (ps := ys) W c1 c2 (small hl) (reps h)
    rw [sum_reps] at t
    have hd := b 1 (fun dc h => by rw [List.mem_replicate] at h; rw [h.2]; exact Nat.le_refl _)
    rw [prog t (by omega)]
    have := h60 c2
    simp [show dep ≤ 10 by omega, show 1 + ys.length ≤ 60 by omega]
end K02
set_option Elab.async false
set_option linter.all false
set_option maxRecDepth 100000
set_option maxHeartbeats 4000000
namespace K02
open PySem L2 L3
variable {S : Store} {n : Nat}
/-- one row of the table of parts: the right mark, the wrong one -/
structure Row (w : Str) (f mo : Nat) (m m' : Str) : Prop where
  good : ∃ g, WordOk w m f mo g true
  odd : ∃ g, WordOk w m' f mo g false
  mark : (∀ S, inD (.str w) (.tup [.str "let", .str "each"]) S = .ok (.bl true) S) ∧ m = "x" ∧ m' = "" ∨ (∀ S, inD (.str w) (.tup [.str "let", .str "each"]) S = .ok (.bl false) S) ∧ m = "" ∧ m' = "x"
  le : mo ≤ 6
  lf : f ≤ 6
theorem odd_of {w : Str} {f mo : Int} {g : Bool} {m m' : Str} (W : WordOk w m f mo g true) (h : ∀ k S, Fs (k + 2) 4 [.bl g, .str m'] S = .ok (.bl false) S) : WordOk w m' f mo g false := ⟨W.h1, W.h2, W.h3, h⟩
theorem rows : ∀ x ∈ [D.tup [.str "plus", .int 1, .int 6], .tup [.str "times", .int 1, .int 6], .tup [.str "most", .int 1, .int 6], .tup [.str "row", .int 0, .int 6], .tup [.str "say", .int 1, .int 1], .tup [.str "less", .int 2, .int 2], .tup [.str "below", .int 2, .int 2], .tup [.str "if", .int 3, .int 3], .tup [.str "let", .int 2, .int 2], .tup [.str "each", .int 2, .int 2]],
    ∃ (w : Str) (f mo : Nat) (m m' : Str), x = .tup [.str w, .int f, .int mo] ∧ Row w f mo m m' := by
  have plain : ∀ {w : Str} {f mo : Nat}, WordOk w "" f mo false true → (∀ S, inD (.str w) (.tup [.str "let", .str "each"]) S = .ok (.bl false) S) → mo ≤ 6 → f ≤ 6 → Row w f mo "" "x" := fun W h l l2 => ⟨⟨_, W⟩, ⟨_, odd_of W fun k S => by kernel_rfl⟩, .inr ⟨h, rfl, rfl⟩, l, l2⟩
  have names : ∀ {w : Str} {f mo : Nat}, WordOk w "x" f mo true true → (∀ S, inD (.str w) (.tup [.str "let", .str "each"]) S = .ok (.bl true) S) → mo ≤ 6 → f ≤ 6 → Row w f mo "x" "" := fun W h l l2 => ⟨⟨_, W⟩, ⟨_, odd_of W fun k S => by kernel_rfl⟩, .inl ⟨h, rfl, rfl⟩, l, l2⟩
  intro x hx
  simp only [List.mem_cons, List.not_mem_nil, or_false] at hx
  rcases hx with rfl | rfl | rfl | rfl | rfl | rfl | rfl | rfl | rfl | rfl
  · exact ⟨_, 1, 6, _, _, rfl, plain wPlus (fun S => by kernel_rfl) (by decide) (by decide)⟩
  · exact ⟨_, 1, 6, _, _, rfl, plain wTimes (fun S => by kernel_rfl) (by decide) (by decide)⟩
  · exact ⟨_, 1, 6, _, _, rfl, plain wMost (fun S => by kernel_rfl) (by decide) (by decide)⟩
  · exact ⟨_, 0, 6, _, _, rfl, plain wRow (fun S => by kernel_rfl) (by decide) (by decide)⟩
  · exact ⟨_, 1, 1, _, _, rfl, plain wSay (fun S => by kernel_rfl) (by decide) (by decide)⟩
  · exact ⟨_, 2, 2, _, _, rfl, plain wLess (fun S => by kernel_rfl) (by decide) (by decide)⟩
  · exact ⟨_, 2, 2, _, _, rfl, plain wBelow (fun S => by kernel_rfl) (by decide) (by decide)⟩
  · exact ⟨_, 3, 3, _, _, rfl, plain wIf (fun S => by kernel_rfl) (by decide) (by decide)⟩
  · exact ⟨_, 2, 2, _, _, rfl, names wLet (fun S => by kernel_rfl) (by decide) (by decide)⟩
  · exact ⟨_, 2, 2, _, _, rfl, names wEachX (fun S => by kernel_rfl) (by decide) (by decide)⟩
theorem mem_range {lo hi : Int} {x : D} (h : x ∈ rangeD lo hi) : ∃ i : Int, x = .int i ∧ lo ≤ i ∧ i < hi := by
  simp only [rangeD, List.mem_map, List.mem_range] at h
  obtain ⟨a, ha, rfl⟩ := h
  exact ⟨_, rfl, by omega, by omega⟩
theorem eq_x : eqD (.str "x") (.str "x") S = .ok (.bl true) S := by kernel_rfl
theorem eq_e : eqD (.str "") (.str "x") S = .ok (.bl false) S := by kernel_rfl
theorem max0 (i : Int) (h : i ≤ 100) : ∃ lo : Int, (0 ≤ lo ∧ lo ≤ 100) ∧ ∀ S, maxD [.int 0, .int i] S = .ok (.int lo) S :=
  ⟨if i > 0 then i else 0, by split <;> omega, fun S => rfl⟩
theorem parts_row (k : Nat) {S : Store} {w : Str} {f mo : Nat} {m m' : Str} {g g' : Bool} {b a4 a5 a6 : Option D} (W : WordOk w m f mo g true) (W' : WordOk w m' f mo g' false) (hmk : (∀ S, inD (.str w) (.tup [.str "let", .str "each"]) S = .ok (.bl true) S) ∧ m = "x" ∧ m' = "" ∨ (∀ S, inD (.str w) (.tup [.str "let", .str "each"]) S = .ok (.bl false) S) ∧ m = "" ∧ m' = "x") (hle : mo ≤ 6) (hlf : f ≤ 6) : ∀ S2, FrH n S S2 → ((sSeq (sFor (iArgs range2 (aCons (eN maxD (aCons (eK (.int 0)) (aCons (e2 subD (eVar 3) (eK (.int 1))) (aNil)))) (aCons (e2 addD (eVar 4) (eK (.int 2))) (aNil)))) (L3.gName 6) (sSeq (sAsg (eN mkTup (aCons (eVar 2) (aCons (eVar 5) (aCons (eN tupleD (aCons (eLc (iArgs range1 (aCons (eVar 6) (aNil))) [8] (L3.gName 8) (tYesD) (eN (callK (Fs (k + 11) 11) []) (aCons (eVar 0) (aNil)))) (aNil))) (aNil))))) (L3.gName 7))
(sIf (tNot (tTruth (eN (callK (Fs (k + 11) 17) []) (aCons (eN (callK (Fs (k + 11) 7) []) (aCons (eVar 7) (aNil))) (aCons (eChain leD leD (eVar 3) (eVar 6) (eVar 4)) (aNil)))))) (sRet (eK (.bl false))) (sSkip))))
(sSeq (sAsg (eN mkTup (aCons (eVar 2) (aCons (eIf (tOfE (e2 eqD (eVar 5) (eK (.str "x")))) (eK (.str "")) (eK (.str "x"))) (aCons (eN tupleD (aCons (eLc (iArgs range1 (aCons (eVar 4) (aNil))) [8] (L3.gName 8) (tYesD) (eN (callK (Fs (k + 11) 11) []) (aCons (eVar 0) (aNil)))) (aNil))) (aNil))))) (L3.gName 7))
(sIf (tNot (tTruth (eN (callK (Fs (k + 11) 17) []) (aCons (eN (callK (Fs (k + 11) 7) []) (aCons (eVar 7) (aNil))) (aCons (eK (.bl false)) (aNil)))))) (sRet (eK (.bl false))) (sSkip)))) [some (.obj n), b, some (.str w), some (.int f), some (.int mo), some (.str m), a4, a5, a6] S2).sat
   (fun env S' => ∃ (b a0 a1 a2 a3 a4 a5 a6 : Option D), env = [some (.obj n), b, a0, a1, a2, a3, a4, a5, a6] ∧ FrH n S S') (fun d S' => d = .bl true ∧ FrH n S S') (fun _ _ => False) (fun env S' => ∃ (b a0 a1 a2 a3 a4 a5 a6 : Option D), env = [some (.obj n), b, a0, a1, a2, a3, a4, a5, a6] ∧ FrH n S S') := fun S2 fr2 => by
  refine seq_rule (fun e S' => ∃ (a4 a5 a6 : Option D), e = [some (.obj n), b, some (.str w), some (.int f), some (.int mo), some (.str m), a4, a5, a6] ∧ FrH n S S') ?_ ?_
  · obtain ⟨lo, hlo, elo⟩ := max0 ((f : Int) - 1) (by omega)
    simp only [ssat_for, sat_iArgs, sat_aCons, sat_aNil, sat_eN, sat_eK, sat_e2, sat_eVar, List.getElem?_cons_succ, List.getElem?_cons_zero, sub_int, sat_ok, elo, add_int, sat_range2]
    refine ⟨by simp [okRng]; omega, ?_⟩
    refine for_n (fun env S' => ∃ (a4 a5 a6 : Option D), env = [some (.obj n), b, some (.str w), some (.int f), some (.int mo), some (.str m), a4, a5, a6] ∧ FrH n S S') ⟨_, _, _, rfl, fr2⟩ ?_ fun _ _ h => h
    rintro x hx e S3 ⟨a4, a5, a6, rfl, fr3⟩
    obtain ⟨c, rfl, c0, c1⟩ := mem_range hx
    have c0' : 0 ≤ c := by omega
    obtain ⟨c, rfl⟩ : ∃ q : Nat, c = q := ⟨c.toNat, by omega⟩
    simp only [List.set_cons_succ, List.set_cons_zero]
    refine seq_rule (fun e S4 => ∃ (a6 : Option D) (ys : List D), e = [some (.obj n), b, some (.str w), some (.int f), some (.int mo), some (.str m), some (.int c), some (.tup [.str w, .str m, .tup ys]), a6] ∧ FrH n S S4 ∧ ys.length = c ∧ ∀ y ∈ ys, Th y 1 1) ?_ ?_
    · simp only [ssat_asg, sat_eN, sat_aCons, sat_aNil, sat_eVar, List.getElem?_cons_succ, List.getElem?_cons_zero, sat_eLc, sat_iArgs, sat_range1]
      have hc8 : c ≤ 8 := by omega
      clear c0 c1 hx c0'
      refine ⟨by simp [okRng]; omega, by rw [rangeD_len]; exact small (by omega), ?_⟩
      refine leaves (k + 8) c (by omega) fr3.hd 8 _ (by decide) rfl fun ys S4 fr4 hl ht => ?_
      simp only [tuple_lst, sat_ok, sat_mkTup, gName_eq, ssat_nx, List.set_cons_succ, List.set_cons_zero]
      exact ⟨sz3, _, ys, rfl, fr3.trans fr4, hl, ht⟩
    · rintro e S4 ⟨a6, ys, rfl, fr4, hl, ht⟩
      have P := prog_leaves (S := S4) (k := k + 11) W ht (by omega) (by omega) (fun _ => by omega)
      rw [hl, Bool.and_true] at P
      have I := fun a b => is_ok (S := S4) (k + 10) a b
      clear c0 c1 hx c0'
      have fin : (Fs (k + 11) 17 [.bl (decide ((f : Int) ≤ c) && decide ((c : Int) ≤ mo)), .bl (decide ((f : Int) ≤ c) && decide ((c : Int) ≤ mo))] S4) = .ok (.bl true) S4 := by
        rw [I]; simp
      by_cases c2 : (f : Int) ≤ c
      · simp only [c2, decide_true, Bool.true_and] at P fin
        simp only [ssat_if, sat_tNot, sat_tTruth, sat_eN, sat_eChain, sat_aCons, sat_aNil, sat_eVar, sat_eK, List.getElem?_cons_succ, List.getElem?_cons_zero, callK_eq, List.append_nil, P, le_int, c2, decide_true, fin, sat_ok, truthD_bl, blD_bl, if_true, Bool.not_true, Bool.false_eq_true, if_false, ssat_skip]
        exact ⟨_, _, _, rfl, fr4⟩
      · simp only [c2, decide_false, Bool.false_and] at P fin
        simp only [ssat_if, sat_tNot, sat_tTruth, sat_eN, sat_eChain, sat_aCons, sat_aNil, sat_eVar, sat_eK, List.getElem?_cons_succ, List.getElem?_cons_zero, callK_eq, List.append_nil, P, le_int, c2, decide_false, fin, sat_ok, truthD_bl, blD_bl, if_false, Bool.false_eq_true, Bool.not_true, ssat_skip]
        exact ⟨_, _, _, rfl, fr4⟩
  · rintro e S3 ⟨a4, a5, a6, rfl, fr3⟩
    refine seq_rule (fun e S4 => ∃ (a4 a6 : Option D) (ys : List D), e = [some (.obj n), b, some (.str w), some (.int f), some (.int mo), some (.str m), a4, some (.tup [.str w, .str m', .tup ys]), a6] ∧ FrH n S S4 ∧ ys.length = mo ∧ ∀ y ∈ ys, Th y 1 1) ?_ ?_
    · have hm : ∀ Q : D → Store → Prop, Q (.str m') S3 → (eIf (tOfE (e2 eqD (eVar 5) (eK (.str "x")))) (eK (.str "")) (eK (.str "x")) [some (.obj n), b, some (.str w), some (.int f), some (.int mo), some (.str m), a4, a5, a6] S3).sat Q := fun Q h => by
        rcases hmk with ⟨_, rfl, rfl⟩ | ⟨_, rfl, rfl⟩
        · simp [eq_x, h]
        · simp [eq_e, h]
      simp only [ssat_asg, sat_eN, sat_aCons, sat_aNil, sat_eVar, List.getElem?_cons_succ, List.getElem?_cons_zero]
      refine hm _ ?_
      simp only [sat_eLc, sat_iArgs, sat_range1, sat_aCons, sat_aNil, sat_eVar, List.getElem?_cons_succ, List.getElem?_cons_zero]
      refine ⟨by simp [okRng]; omega, by rw [rangeD_len]; exact small (by omega), ?_⟩
      refine leaves (k + 8) mo (by omega) fr3.hd 8 _ (by decide) rfl fun ys S4 fr4 hl ht => ?_
      simp only [tuple_lst, sat_ok, sat_mkTup, gName_eq, ssat_nx, List.set_cons_succ, List.set_cons_zero]
      exact ⟨sz3, _, _, ys, rfl, fr3.trans fr4, hl, ht⟩
    · rintro e S4 ⟨a4, a6, ys, rfl, fr4, hl, ht⟩
      have P := prog_leaves (S := S4) (k := k + 11) W' ht (by omega) (by omega) (fun _ => by omega)
      have I := is_ok (S := S4) (k + 10) false false
      rw [Bool.and_false] at P
      simp only [ssat_if, sat_tNot, sat_tTruth, sat_eN, sat_aCons, sat_aNil, sat_eVar, sat_eK, List.getElem?_cons_succ, List.getElem?_cons_zero, callK_eq, List.append_nil, P, I, sat_ok, truthD_bl]
      simp
      exact fr4
theorem parts (k : Nat) (hS : Hand n S) : (Fs (k + 12) 15 [.obj n] S).sat fun d S' => d = .bl true ∧ FrH n S S' := by
  rw [Fs_law_parts_right, sat_run]
  refine ⟨rfl, ?_⟩
  unfold m_law_parts_right
  simp only [ssat_seq, ssat_asg, sat_aCons, sat_eN, sat_aNil, sat_eVar, sat_eK, sat_mkTup, sat_mkLst, sat_e2, List.map_cons, List.map_nil, List.length_cons, List.length_nil, List.getElem?_cons_succ, List.getElem?_cons_zero, List.cons_append, List.nil_append, List.replicate, gName_eq, ssat_nx, List.set_cons_succ, List.set_cons_zero, sz3, sz4, sz6, true_and, Nat.zero_add, Nat.reduceAdd]
  rw [add_lst (small (by simp))]
  simp only [sat_ok, ssat_nx, gName_eq, List.set_cons_succ, List.set_cons_zero, ssat_for, sat_iSeq, sat_eVar, List.getElem?_cons_succ, List.getElem?_cons_zero, itemsD_lst, List.cons_append, List.nil_append]
  refine for_each (fun env S' => ∃ (b a0 a1 a2 a3 a4 a5 a6 : Option D), env = [some (.obj n), b, a0, a1, a2, a3, a4, a5, a6] ∧ FrH n S S') ⟨_, _, _, _, _, _, _, _, rfl, .refl hS⟩ ?_ ?_
  · rintro x hx e S1 ⟨b, a0, a1, a2, a3, a4, a5, a6, rfl, fr⟩
    obtain ⟨w, f, mo, m, m', rfl, R⟩ := rows x hx
    obtain ⟨⟨g, W⟩, ⟨g', W'⟩, hmk, hle, hlf⟩ := R
    simp only [gTup_tup, gNames_cons, gNames_nil, ssat_nx, List.set_cons_succ, List.set_cons_zero]
    refine seq_rule (fun e S2 => e = [some (.obj n), b, some (.str w), some (.int f), some (.int mo), some (.str m), a4, a5, a6] ∧ S2 = S1) ?_ ?_
    · simp only [ssat_asg, sat_eIf, sat_tOfE, sat_e2, sat_eVar, sat_eN, sat_aCons, sat_aNil, sat_eK, sat_mkTup, List.getElem?_cons_succ, List.getElem?_cons_zero, List.length_cons, List.length_nil, Nat.zero_add, Nat.reduceAdd, sz2, true_and]
      rcases hmk with ⟨hin, rfl, rfl⟩ | ⟨hin, rfl, rfl⟩
      · simp [hin]
      · simp [hin]
    · rintro e S2 ⟨rfl, rfl⟩
      exact ssat_mono (parts_row k W W' hmk hle hlf S2 fr) (fun _ _ h => h) (fun _ _ h => h) (fun _ _ h => h.elim) fun _ _ h => h
  · rintro e S1 ⟨b, a0, a1, a2, a3, a4, a5, a6, rfl, fr⟩
    simp
    exact fr
end K02
set_option Elab.async false
set_option linter.all false
set_option maxRecDepth 100000
set_option maxHeartbeats 4000000
namespace K02
open PySem L2 L3
variable {S : Store} {n : Nat}
/-- what has not three parts, whatever it is -/
def Odd (d : D) : Prop := (∃ l, d = .tup l ∧ l.length ≠ 3) ∨ ∀ S, isiD [d, .ty "tuple"] S = .ok (.bl false) S
theorem odd_not {d : D} (h : Odd d) (k : Nat) (S : Store) : Fs (k + 2) 7 [d] S = .ok (.bl false) S := by
  apply prog_not
  apply of_sat
  rw [look, Fs_is_thing_with, sat_run]
  refine ⟨rfl, ?_⟩
  unfold m_is_thing_with
  rcases h with ⟨l, rfl, hl⟩ | h
  · have : ¬ (l.length : Int) = 3 := by omega
    simp [ne_int, this]
  · simp [h]
theorem odd_lst {l : List D} : Odd (.lst l) := .inr fun S => by kernel_rfl
theorem odd_dic {ks : List Key} {l : List D} : Odd (.dic ks l) := .inr fun S => by kernel_rfl
theorem odd_non : Odd .non := .inr fun S => by kernel_rfl
theorem odd_int {i : Int} : Odd (.int i) := .inr fun S => by kernel_rfl
theorem odd_str {i : Str} : Odd (.str i) := .inr fun S => by kernel_rfl
theorem odd_tup {l : List D} (h : l.length ≠ 3) : Odd (.tup l) := .inl ⟨l, rfl, h⟩
def wide : List D := (List.replicate 700 [.tup [.str "num", .int 1, .tup []]]).flatten
theorem wide_len : wide.length = 700 := by decide +kernel
theorem mul_wide : mulD (.lst [.tup [.str "num", .int 1, .tup []]]) (.int 700) S = .ok (.lst wide) S := by kernel_rfl
theorem mul_a : ∃ z, ∀ S, mulD (.str "a") (.int 4900) S = .ok (.str z) S := ⟨repS "a" 4900, fun S => by
  have h : -(2 ^ 63) ≤ (4900 : Int) ∧ (4900 : Int) < 2 ^ 63 ∧ Str.length "a" * (4900 : Int).toNat ≤ sizeLine := by decide +kernel
  simp only [mulD]
  rw [if_pos h]⟩
theorem mul_60 : mulD (.int T60) (.int T60) S = .ok (.int (T60 * T60)) S := by
  have h : mulOk T60 T60 = true := by decide +kernel
  simp only [mulD]
  rw [if_pos h]
theorem row_not (k : Nat) (S : Store) : Fs (k + 10) 7 [.tup [.str "row", .str "", .tup wide]] S = .ok (.bl false) S := by
  apply prog_not
  have := thing_node (k := k + 8) (S := S) (deep := 10) (ps := wide) (bs := List.replicate 700 true) wRow (by omega) (by decide) (small (by rw [wide_len]; decide)) (by
    have : ∀ m : Nat, All2 (fun p b => look (k + 8) p (10 - 1) S = .ok (.bl b) S) (List.replicate m [D.tup [.str "num", .int 1, .tup []]]).flatten (List.replicate m true) := fun m => by
      induction m with
      | zero => exact .nil
      | succ m ih => exact .cons (by kernel_rfl) ih
    exact this 700)
  rw [this, wide_len]
  rfl
theorem num_not (k : Nat) (S : Store) : Fs (k + 10) 7 [.tup [.str "num", .int T60, .tup []]] S = .ok (.bl false) S := by kernel_rfl
theorem far (k : Nat) (hS : Hand n S) : (Fs (k + 10) 18 [.obj n] S).sat fun d S' => (∀ S, Fs (k + 10) 7 [d] S = .ok (.bl false) S) ∧ FrH n S S' := by
  rw [Fs_law_far, sat_run]
  refine ⟨rfl, ?_⟩
  unfold m_law_far
  refine seq_rule (fun e S1 => ∃ (d : D) (a b : Option D), e = [some (.obj n), some d, a, b] ∧ Odd d ∧ FrH n S S1) ?_ ?_
  · simp [eDic0, sz0, sz5]
    refine sat_mono ((pk (k + 7)) n S _ hS (by simp) (by simp)).1 fun d S1 q => ?_
    refine ⟨?_, q.2⟩
    have := q.1
    simp at this
    rcases this with rfl | rfl | rfl | rfl | rfl
    · exact odd_tup (by simp)
    · exact odd_lst
    · exact odd_dic
    · exact odd_non
    · exact odd_int
  · rintro e S1 ⟨d, a, b, rfl, o, fr⟩
    refine seq_rule (fun e S1 => ∃ (d : D) (a b : Option D), e = [some (.obj n), some d, a, b] ∧ Odd d ∧ FrH n S S1) ?_ ?_
    · simp only [ssat_for, sat_iArgs, sat_aCons, sat_aNil, sat_eK, sat_range1]
      refine ⟨by decide, ?_⟩
      refine for_each (fun e S1 => ∃ (d : D) (a b : Option D), e = [some (.obj n), some d, a, b] ∧ Odd d ∧ FrH n S S1) ⟨_, _, _, rfl, o, fr⟩ ?_ fun _ _ h => h
      rintro x hx e S2 ⟨d, a, b, rfl, o, fr⟩
      have hdic : ∀ (env : EnvD) (S : Store) (Q : D → Store → Prop), env[1]? = some (some d) → Q (.dic [.inr "a"] [d]) S → (eDic [(eK (.str "a"), eVar 1)] env S).sat Q := fun env S Q h hq => by
        have e : eDic [(eK (.str "a"), eVar 1)] env S = .ok (.dic [.inr "a"] [d]) S := by
          simp only [eDic, pairsD, R.bind, eK, eVar, h, R.nox, keyed, keyOf]
          kernel_rfl
        rw [e]
        exact .mk hq
      simp only [gName_eq, ssat_nx, List.set_cons_succ, List.set_cons_zero, ssat_asg, sat_eN, sat_aCons, sat_aNil, sat_eVar, List.getElem?_cons_succ, List.getElem?_cons_zero, sat_mkTup, sat_mkLst, List.length_cons, List.length_nil, Nat.zero_add, Nat.reduceAdd, sz1, sz3, true_and]
      refine hdic _ _ _ rfl ?_
      simp only [callK_eq, List.append_nil, sz3, sz1, true_and]
      refine sat_mono ((pk (k + 7)) n S2 _ fr.hd (by simp) (by simp)).1 fun d' S3 q => ?_
      refine ⟨d', _, _, rfl, ?_, fr.trans q.2⟩
      have := q.1
      simp at this
      rcases this with rfl | rfl | rfl
      · exact odd_tup (by simp)
      · exact odd_lst
      · exact odd_dic
    · rintro e S2 ⟨d, a, b, rfl, o, fr⟩
      obtain ⟨za, hza⟩ := mul_a
      simp only [ssat_seq, ssat_asg, ssat_sRet, sat_eN, sat_aCons, sat_aNil, sat_e2, sat_eK, sat_eVar, List.getElem?_cons_succ, List.getElem?_cons_zero, sat_mkTup, sat_mkLst, sat_ok, List.length_cons, List.length_nil, Nat.zero_add, Nat.reduceAdd, sz0, sz1, sz3, sz6, true_and, mul_wide, tuple_lst, gName_eq, ssat_nx, List.set_cons_succ, List.set_cons_zero, hza, pw1, mul_60, callK_eq, List.append_nil]
      refine sat_mono ((pk (k + 7)) n S2 _ fr.hd (by simp) (by simp)).1 fun d' S3 q => ⟨?_, fr.trans q.2⟩
      have := q.1
      simp at this
      rcases this with rfl | rfl | rfl | rfl | rfl | rfl
      · exact fun S => odd_not o (k + 8) S
      · exact row_not k
      · exact fun S => odd_not (odd_tup (by rw [wide_len]; decide)) (k + 8) S
      · exact fun S => odd_not odd_str (k + 8) S
      · exact fun S => odd_not odd_int (k + 8) S
      · exact num_not k
end K02
set_option Elab.async false
set_option linter.all false
set_option maxRecDepth 100000
set_option maxHeartbeats 4000000
namespace K02
open PySem L2 L3
variable {S : Store} {n : Nat}
theorem chk {c t : ED} {env : EnvD} {S : Store} {P : Store → Prop} {N B C : EnvD → Store → Prop} {T : D → Store → Prop}
    (hc : (c env S).sat fun d S' => (∃ b, (∀ S, Fs 99 7 [d] S = .ok (.bl b) S) ∧ t env S' = .ok (.bl b) S') ∧ P S') (hN : ∀ S', P S' → N env S') :
    (sIf (tNot (tTruth (eN (callK (Fs 99 17) []) (aCons (eN (callK (Fs 99 7) []) (aCons c aNil)) (aCons t aNil))))) (sRet (eK (.bl false))) sSkip env S).sat N T B C := by
  simp only [ssat_if, sat_tNot, sat_tTruth, sat_eN, sat_aCons, sat_aNil, callK_eq, List.append_nil]
  refine sat_mono hc fun d S' ⟨⟨b, h1, h2⟩, p⟩ => ?_
  have := is_ok (S := S') 98 b b
  simp only [h1, h2, sat_ok, this, beq_self_eq_true, truthD_bl, Bool.not_true, Bool.false_eq_true, if_false, ssat_skip]
  exact hN S' p
theorem ne_w : neD (.lst [c_WHEEL, c_MOST_THINGS, c_MOST_PASSES]) (.lst [.int 9973, .int 60, .int 50]) S = .ok (.bl false) S := by kernel_rfl
theorem all_true : ∀ {xs ys : List D}, All2 (fun _ y => y = .bl true) xs ys → allD [.lst ys] S = .ok (.bl true) S := fun {xs ys} h => by
  have : ys = (List.replicate xs.length true).map D.bl := by
    induction h with
    | nil => rfl
    | cons p _ ih => rw [p, ih]; rfl
  rw [this, all_bl]; simp
theorem law_true (ns : List Int) (hns : ns.length ≤ 63) : ∃ S, Fs 100 19 [.scr ns] [] = .ok (.bl true) S := by
  have key : (Fs 100 19 [.scr ns] []).sat fun d _ => d = .bl true := by
    rw [show (100 : Nat) = 99 + 1 from rfl, Fs_law, sat_run]
    refine ⟨rfl, ?_⟩
    unfold m_law
    refine seq_rule (fun e S => ∃ a1 a2 a3 a4 a5 : Option D, e = [some (.scr ns), a1, a2, a3, a4, a5]) ?_ ?_
    · have M := fun S => marks (S := S) 89
      simp [ne_w, M, sz3]
    rintro e S ⟨a1, a2, a3, a4, a5, rfl⟩
    refine seq_rule (fun e S => True) ?_ fun e S _ => by simp
    obtain ⟨m, hm, em⟩ : ∃ m : Nat, m ≤ 3 ∧ ∀ S, (eN maxD (aCons (eK (.int 1)) (aCons (eN minD (aCons (eK (.int 3)) (aCons (eN lenD (aCons (eVar 0) (aNil))) (aNil)))) (aNil))) [some (.scr ns), a1, a2, a3, a4, a5] S) = .ok (.int m) S := by
      refine ⟨max 1 (min 3 ns.length), by omega, fun S => ?_⟩
      apply of_sat
      simp [minD, maxD]
      repeat' split
      all_goals omega
    simp only [ssat_for, sat_iArgs, sat_aCons, sat_aNil, em, sat_ok, sat_range1]
    refine ⟨by simp [okRng]; omega, ?_⟩
    refine for_each (fun e S => ∃ a1 a2 a3 a4 a5 : Option D, e = [some (.scr ns), a1, a2, a3, a4, a5]) ⟨_, _, _, _, _, rfl⟩ ?_ fun _ _ _ => trivial
    rintro x hx e S ⟨a1, a2, a3, a4, a5, rfl⟩
    obtain ⟨i, rfl, i0, i1⟩ := mem_range hx
    simp only [gName_eq, ssat_nx, List.set_cons_succ, List.set_cons_zero]
    refine seq_rule (fun e S => ∃ n, (∃ a3 a4 a5 : Option D, e = [some (.scr ns), some (.int i), some (.obj n), a3, a4, a5]) ∧ Hand n S) ?_ ?_
    · simp only [ssat_asg, sat_eN, sat_aCons, sat_aNil, sat_eVar, List.getElem?_cons_succ, List.getElem?_cons_zero, callK_eq, List.append_nil]
      refine sat_mono (hd 98 S ns i i0 (by omega)) fun d S' ⟨e, g, s, eS⟩ => ?_
      subst e eS
      simp only [gName_eq, ssat_nx, List.set_cons_succ, List.set_cons_zero]
      exact ⟨_, ⟨_, _, _, rfl⟩, g, s, by simp⟩
    rintro e S ⟨n, ⟨a3, a4, a5, rfl⟩, hS⟩
    refine seq_rule (fun e S => (∃ a3 a4 a5 : Option D, e = [some (.scr ns), some (.int i), some (.obj n), a3, a4, a5]) ∧ Hand n S) ?_ ?_
    · simp only [ssat_for, sat_iSeq, sat_eN, sat_aCons, sat_aNil, sat_eK, sat_mkTup, List.length_cons, List.length_nil, Nat.zero_add, Nat.reduceAdd, sz3, true_and, itemsD_tup, sat_ok]
      refine for_each (fun e S => (∃ a3 a4 a5 : Option D, e = [some (.scr ns), some (.int i), some (.obj n), a3, a4, a5]) ∧ Hand n S) ⟨⟨_, _, _, rfl⟩, hS⟩ ?_ fun _ _ h => h
      rintro x hx e S ⟨⟨a3, a4, a5, rfl⟩, hS⟩
      obtain ⟨many, rfl, h1, h61⟩ : ∃ many : Nat, x = .int many ∧ 1 ≤ many ∧ many ≤ 61 := by
        simp only [List.mem_cons, List.not_mem_nil, or_false] at hx
        rcases hx with rfl | rfl | rfl
        · exact ⟨59, rfl, by decide, by decide⟩
        · exact ⟨60, rfl, by decide, by decide⟩
        · exact ⟨61, rfl, by decide, by decide⟩
      simp only [gName_eq, ssat_nx, List.set_cons_succ, List.set_cons_zero]
      have lt : ∀ {dep : Nat} {d : D}, Th d dep many → dep ≤ 5 → ∀ S', (∃ b, (∀ S, Fs 99 7 [d] S = .ok (.bl b) S) ∧ e2 ltD (eVar 3) (eK (.int 61)) [some (.scr ns), some (.int i), some (.obj n), some (.int many), a4, a5] S' = .ok (.bl b) S') := fun {dep d} t h5 S' => by
        refine ⟨decide (many < 61), fun S => ?_, of_sat (by simp; omega)⟩
        rw [prog t (by omega)]
        simp only [show dep ≤ 10 by omega, decide_true, Bool.true_and]
        congr 3
        exact propext ⟨fun h => by omega, fun h => by omega⟩
      refine seq_rule (fun e S => e = [some (.scr ns), some (.int i), some (.obj n), some (.int many), a4, a5] ∧ Hand n S) ?_ ?_
      · refine chk (P := fun S => Hand n S) ?_ fun S' h => ⟨rfl, h⟩
        simp only [sat_eN, sat_aCons, sat_aNil, sat_eVar, List.getElem?_cons_succ, List.getElem?_cons_zero, callK_eq, List.append_nil]
        refine sat_mono (pack many h1 h61 99 (by omega) S hS) fun d S' ⟨⟨dep, t, hd⟩, fr⟩ => ⟨lt t (by have := lv4 many; omega) S', fr.hd⟩
      · rintro e S ⟨rfl, hS⟩
        refine chk (P := fun S => Hand n S) ?_ fun S' h => ⟨⟨_, _, _, rfl⟩, h⟩
        simp only [sat_eN, sat_aCons, sat_aNil, sat_eVar, List.getElem?_cons_succ, List.getElem?_cons_zero, callK_eq, List.append_nil]
        refine sat_mono (sized many h1 h61 98 (by omega) hS) fun d S' ⟨⟨dep, t, hd⟩, fr⟩ => ⟨lt t hd S', fr.hd⟩
    rintro e S ⟨⟨a3, a4, a5, rfl⟩, hS⟩
    refine seq_rule (fun e S => (∃ a3 a4 a5 : Option D, e = [some (.scr ns), some (.int i), some (.obj n), a3, a4, a5]) ∧ Hand n S) ?_ ?_
    · simp only [ssat_for, sat_iSeq, sat_eN, sat_aCons, sat_aNil, sat_eK, sat_mkTup, List.length_cons, List.length_nil, Nat.zero_add, Nat.reduceAdd, sz3, true_and, itemsD_tup, sat_ok]
      refine for_each (fun e S => (∃ a3 a4 a5 : Option D, e = [some (.scr ns), some (.int i), some (.obj n), a3, a4, a5]) ∧ Hand n S) ⟨⟨_, _, _, rfl⟩, hS⟩ ?_ fun _ _ h => h
      rintro x hx e S ⟨⟨a3, a4, a5, rfl⟩, hS⟩
      obtain ⟨deep, rfl, h1, h11⟩ : ∃ deep : Nat, x = .int deep ∧ 1 ≤ deep ∧ deep ≤ 11 := by
        simp only [List.mem_cons, List.not_mem_nil, or_false] at hx
        rcases hx with rfl | rfl | rfl
        · exact ⟨9, rfl, by decide, by decide⟩
        · exact ⟨10, rfl, by decide, by decide⟩
        · exact ⟨11, rfl, by decide, by decide⟩
      simp only [gName_eq, ssat_nx, List.set_cons_succ, List.set_cons_zero, ssat_for, sat_iArgs, sat_aCons, sat_aNil, sat_eK, sat_range1]
      refine ⟨by decide, ?_⟩
      refine for_each (fun e S => (∃ a3 a5 : Option D, e = [some (.scr ns), some (.int i), some (.obj n), a3, some (.int deep), a5]) ∧ Hand n S) ⟨⟨_, _, rfl⟩, hS⟩ ?_ fun _ _ ⟨⟨a3, a5, e⟩, h⟩ => ⟨⟨_, _, _, e⟩, h⟩
      rintro x hx e S ⟨⟨a3, a5, rfl⟩, hS⟩
      simp only [gName_eq, ssat_nx, List.set_cons_succ, List.set_cons_zero]
      refine chk (P := fun S => Hand n S) ?_ fun S' h => ⟨⟨_, _, rfl⟩, h⟩
      simp only [sat_eN, sat_aCons, sat_aNil, sat_eVar, List.getElem?_cons_succ, List.getElem?_cons_zero, callK_eq, List.append_nil]
      refine sat_mono (tower deep 95 h1 h11 hS) fun d S' ⟨⟨c, t, hc⟩, fr⟩ => ⟨⟨decide (deep < 11), fun S => ?_, of_sat (by simp; omega)⟩, fr.hd⟩
      rw [prog t (by omega)]
      simp only [show c ≤ 60 by omega, decide_true, Bool.and_true]
      congr 3
      exact propext ⟨fun h => by omega, fun h => by omega⟩
    rintro e S ⟨⟨a3, a4, a5, rfl⟩, hS⟩
    simp only [ssat_if, sat_tOr, sat_tNot, sat_tTruth, sat_eN, sat_aCons, sat_aNil, sat_eVar, List.getElem?_cons_succ, List.getElem?_cons_zero, callK_eq, List.append_nil]
    refine sat_mono (parts 87 hS) fun d S' ⟨ed, fr⟩ => ?_
    subst ed
    simp only [truthD_bl, sat_ok, Bool.not_true, Bool.false_eq_true, if_false, sat_eLc, sat_iArgs, sat_aCons, sat_aNil, sat_eK, sat_range1]
    refine ⟨by decide, by rw [rangeD_len]; exact sz5, ?_⟩
    refine lc_rule (Hand n) (fun _ y => y = .bl true) fr.hd (fun x hx S1 h1 => ?_) fun ys S2 h2 ha => ?_
    · simp only [wipeD, List.set_cons_succ, List.set_cons_zero, sat_eN, sat_aCons, sat_aNil, sat_eVar, sat_eK, List.getElem?_cons_succ, List.getElem?_cons_zero, callK_eq, List.append_nil]
      refine sat_mono (far 89 h1) fun d S3 ⟨h7, fr⟩ => ?_
      have h7 := h7 S3
      have := is_ok (S := S3) 98 false false
      simp only [h7, sat_ok]
      refine to_sat this ⟨rfl, fr.hd⟩
    · rw [all_true ha]
      simp only [sat_ok, truthD_bl, Bool.not_true, Bool.false_eq_true, if_false, ssat_skip]
      exact ⟨_, _, _, _, _, rfl⟩
  obtain ⟨d, S, e, rfl⟩ := sat_ex.mp key
  exact ⟨S, e⟩
end K02
set_option Elab.async false
set_option linter.all false
set_option maxRecDepth 100000
set_option maxHeartbeats 4000000
open PySem PySem.W PyProof.Rows in
set_option maxRecDepth 100000 in
set_option maxHeartbeats 0 in
theorem PySem.Challenge.cw_holepatterns_k02_programs_at_their_bound_holds : PySem.Challenge.rw_holepatterns_k02_programs_at_their_bound.Holds := by
  w_on; o_law; k_head; (case hw => w_witness2)
  k_fill
  refine L3.walk (l := PySem.Challenge.rw_holepatterns_k02_programs_at_their_bound) (k := 100) (x := "_law_script") rfl rfl ⟨rfl, by decide, by decide⟩ (fun w h Y => PySem.W.kIn_of Y) ?F
  case F =>
    intro w mg fa h KX G hmg
    refine' K02.all_mk KX G hmg K02.law_true ?a_is_whole ?l_is_whole ?c_is_whole ?k_is_whole ?a_is_number ?l_is_number ?c_is_number ?k_is_number ?w_is_number_high ?w_is_number_low ?a_is_name ?l_is_name ?c_is_name ?k_is_name ?a_is_leaf ?l_is_leaf ?c_is_leaf ?k_is_leaf ?a_is_mark ?l_is_mark ?c_is_mark ?k_is_mark ?a_is_thing_with ?l_is_thing_with ?c_is_thing_with ?k_is_thing_with ?w_is_thing_with_widest ?a_count_of ?l_count_of ?c_count_of ?k_count_of ?a_is_program ?l_is_program ?c_is_program ?k_is_program ?a_law_hand ?l_law_hand ?c_law_hand ?k_law_hand ?a_law_take ?l_law_take ?c_law_take ?k_law_take ?a_law_pick ?l_law_pick ?c_law_pick ?k_law_pick ?a_law_leaf ?l_law_leaf ?c_law_leaf ?k_law_leaf ?a_law_sized ?l_law_sized ?c_law_sized ?k_law_sized ?a_law_pack ?l_law_pack ?c_law_pack ?k_law_pack ?a_law_tower ?l_law_tower ?c_law_tower ?k_law_tower ?a_law_parts_right ?l_law_parts_right ?c_law_parts_right ?k_law_parts_right ?a_law_marks_right ?l_law_marks_right ?c_law_marks_right ?k_law_marks_right ?a_law_is ?l_law_is ?c_law_is ?k_law_is ?a_law_far ?l_law_far ?c_law_far ?k_law_far ?a_law ?l_law ?c_law ?k_law ?z_abs ?z_all ?z_bool ?z_int ?z_isinstance ?z_len ?z_max ?z_min ?z_range ?z_str ?z_sum ?z_tuple ?x_LETTERS ?x_MOST_DEEP ?x_MOST_PASSES ?x_MOST_SIGNS ?x_MOST_THINGS ?x_NAME ?x_NUM ?x_ROW ?x_SHAPES ?l_SHAPES ?l_SHAPES_0 ?l_SHAPES_1 ?l_SHAPES_2 ?l_SHAPES_3 ?l_SHAPES_4 ?l_SHAPES_5 ?l_SHAPES_6 ?l_SHAPES_7 ?l_SHAPES_8 ?l_SHAPES_9 ?m_SHAPES ?h_SHAPES_9 ?h_SHAPES_8 ?h_SHAPES_7 ?h_SHAPES_6 ?h_SHAPES_5 ?h_SHAPES_4 ?h_SHAPES_3 ?h_SHAPES_2 ?h_SHAPES_1 ?h_SHAPES_0 ?x_WHEEL ?x_WORDS ?l_WORDS
    (case a_is_whole => k_is)
    (case l_is_whole => k_is)
    (case c_is_whole => k_is)
    (case k_is_whole => k_is)
    (case a_is_number => k_is)
    (case l_is_number => k_is)
    (case c_is_number => k_is)
    (case k_is_number => k_is)
    (case w_is_number_high => k_is)
    (case w_is_number_low => k_is)
    (case a_is_name => k_is)
    (case l_is_name => k_is)
    (case c_is_name => k_is)
    (case k_is_name => k_is)
    (case a_is_leaf => k_is)
    (case l_is_leaf => k_is)
    (case c_is_leaf => k_is)
    (case k_is_leaf => k_is)
    (case a_is_mark => k_is)
    (case l_is_mark => k_is)
    (case c_is_mark => k_is)
    (case k_is_mark => k_is)
    (case a_is_thing_with => k_is)
    (case l_is_thing_with => k_is)
    (case c_is_thing_with => k_is)
    (case k_is_thing_with => k_is)
    (case w_is_thing_with_widest => k_is)
    (case a_count_of => k_is)
    (case l_count_of => k_is)
    (case c_count_of => k_is)
    (case k_count_of => k_is)
    (case a_is_program => k_is)
    (case l_is_program => k_is)
    (case c_is_program => k_is)
    (case k_is_program => k_is)
    (case a_law_hand => k_is)
    (case l_law_hand => k_is)
    (case c_law_hand => k_is)
    (case k_law_hand => k_is)
    (case a_law_take => k_is)
    (case l_law_take => k_is)
    (case c_law_take => k_is)
    (case k_law_take => k_is)
    (case a_law_pick => k_is)
    (case l_law_pick => k_is)
    (case c_law_pick => k_is)
    (case k_law_pick => k_is)
    (case a_law_leaf => k_is)
    (case l_law_leaf => k_is)
    (case c_law_leaf => k_is)
    (case k_law_leaf => k_is)
    (case a_law_sized => k_is)
    (case l_law_sized => k_is)
    (case c_law_sized => k_is)
    (case k_law_sized => k_is)
    (case a_law_pack => k_is)
    (case l_law_pack => k_is)
    (case c_law_pack => k_is)
    (case k_law_pack => k_is)
    (case a_law_tower => k_is)
    (case l_law_tower => k_is)
    (case c_law_tower => k_is)
    (case k_law_tower => k_is)
    (case a_law_parts_right => k_is)
    (case l_law_parts_right => k_is)
    (case c_law_parts_right => k_is)
    (case k_law_parts_right => k_is)
    (case a_law_marks_right => k_is)
    (case l_law_marks_right => k_is)
    (case c_law_marks_right => k_is)
    (case k_law_marks_right => k_is)
    (case a_law_is => k_is)
    (case l_law_is => k_is)
    (case c_law_is => k_is)
    (case k_law_is => k_is)
    (case a_law_far => k_is)
    (case l_law_far => k_is)
    (case c_law_far => k_is)
    (case k_law_far => k_is)
    (case a_law => k_is)
    (case l_law => k_is)
    (case c_law => k_is)
    (case k_law => k_is)
    (case z_abs => k_is)
    (case z_all => k_is)
    (case z_bool => k_is)
    (case z_int => k_is)
    (case z_isinstance => k_is)
    (case z_len => k_is)
    (case z_max => k_is)
    (case z_min => k_is)
    (case z_range => k_is)
    (case z_str => k_is)
    (case z_sum => k_is)
    (case z_tuple => k_is)
    (case x_LETTERS => k_is)
    (case x_MOST_DEEP => k_is)
    (case x_MOST_PASSES => k_is)
    (case x_MOST_SIGNS => k_is)
    (case x_MOST_THINGS => k_is)
    (case x_NAME => k_is)
    (case x_NUM => k_is)
    (case x_ROW => k_is)
    (case x_SHAPES => k_is)
    (case l_SHAPES => k_is)
    (case l_SHAPES_0 => k_is)
    (case l_SHAPES_1 => k_is)
    (case l_SHAPES_2 => k_is)
    (case l_SHAPES_3 => k_is)
    (case l_SHAPES_4 => k_is)
    (case l_SHAPES_5 => k_is)
    (case l_SHAPES_6 => k_is)
    (case l_SHAPES_7 => k_is)
    (case l_SHAPES_8 => k_is)
    (case l_SHAPES_9 => k_is)
    (case m_SHAPES => rfl)
    (case h_SHAPES_9 => rfl)
    (case h_SHAPES_8 => rfl)
    (case h_SHAPES_7 => rfl)
    (case h_SHAPES_6 => rfl)
    (case h_SHAPES_5 => rfl)
    (case h_SHAPES_4 => rfl)
    (case h_SHAPES_3 => rfl)
    (case h_SHAPES_2 => rfl)
    (case h_SHAPES_1 => rfl)
    (case h_SHAPES_0 => rfl)
    (case x_WHEEL => k_is)
    (case x_WORDS => k_is)
    (case l_WORDS => k_is)
