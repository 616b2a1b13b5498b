import PyProof.Rows.All
import Wide.All
import OpenK.AllK
import Wide.FinOn
import KE.KStateDown
import KE.KDictKeyed
import Lean
import HandS.ForMost
import HandS.WordsExc
import HandS.Defaults
import HandS.Style
import HandS.Wide
import HandS.Lambda
import HandS.ExcInit
import HandS.IsInst
import HandS.NestedK
import HandS.ClsMeth
import KE.KSuper
import KE.GoesMore
import HandS.Star
import HandS.Head0
import HandS.Head1
import HandS.Head2
import HandS.HeadEnd
import HandS.HeadHook1
import HandS.HeadHook2
import HandS.OwnEq
import OpenK.KOps
import HandS.TupAny
import HandS.Deep
import HandS.TupLe
import KE.KCallOwn
import HandS.FStr
import HandS.WrittenGet
import HandS.HeadHook3
import HandS.TryMany
import HandS.ExcField
import HandS.ExcIs
import HandS.CallSlots
import HandS.ExcSuper
import KE.KExcIs
import HandS.SetFor
import HandS.SortInts
import HandS.Strs
import HandS.More
import HandS.Text
import HandS.HeadNt
import HandS.MakeKw
import HandS.MakeKwOnly
import HandS.HotCalls
import PySem.Challenge.RW_waystaken_k01_errors
set_option Elab.async false
set_option linter.all false
set_option maxRecDepth 100000
set_option maxHeartbeats 1000000
namespace DL
open PySem PySem.Spec PyProof.Rows L2

/-- a value as a tree; ref: a thing that is known by its address alone -/
inductive D where
  | non | bl (b : Bool) | int (i : Int) | str (s : Str) | ref (a : Addr) | ty (n : String)
  | tup (ds : List D) | lst (ds : List D) | lstK (ds : List D) | obj (C : Addr) (ns : List Str) (ds : List D)
  | dct (hs : PySem.NestedKey → Int) (ks ds : List D)

mutual
/-- a key of a dict that is a tuple -/
def nkD : D → PySem.NestedKey
  | .bl b => .num (if b = true then 1 else 0)
  | .int i => .num i
  | .str s => .text s
  | .tup ds => .tup (nkDs ds)
  | .non => .none
  | .ref _ => .none
  | .ty _ => .none
  | .lst _ => .none
  | .lstK _ => .none
  | .obj _ _ _ => .none
  | .dct _ _ _ => .none
def nkDs : List D → List PySem.NestedKey
  | [] => []
  | d :: ds => nkD d :: nkDs ds
end
mutual
/-- what may be a key, or stand in one -/
def okN : D → Bool
  | .non => true
  | .bl _ => true
  | .int _ => true
  | .str _ => true
  | .tup ds => okNs ds
  | .ref _ => false
  | .ty _ => false
  | .lst _ => false
  | .lstK _ => false
  | .obj _ _ _ => false
  | .dct _ _ _ => false
def okNs : List D → Bool
  | [] => true
  | d :: ds => okN d && okNs ds
end
/-- a dict with tuples as keys: its entries, by key, the key's address and the value -/
def DictFx (hs : PySem.NestedKey → Int) (a : Addr) (ep : Nat) (xs : List (PySem.NestedKey × Addr × Value)) : Heap → Prop := fun h =>
  (a == PySem.sysModules) = false ∧ xs.length ≤ sizeLine ∧ (xs.map (·.1)).Nodup ∧ ∃ o es, h.get? a = some o ∧ o.ExactDict ∧ o.data = .dict es ep ∧ es.toList = xs.map fun x => (⟨hs x.1, .ref x.2.1, x.2.2⟩ : DictEntry)
mutual
def Rep (K : PySem.W.Frag) (S : Hp) : D → V → Prop
  | .non, v => v = .non
  | .bl b, v => v = .bl b
  | .int i, v => v = .int i
  | .str s, v => v = .str s
  | .ref a, v => v = .ref a
  | .ty n, v => v = .ty n
  | .tup ds, v => ∃ a xs, v = .ref a ∧ SqT K S a xs ∧ Reps K S ds xs
  | .lst ds, v => ∃ a xs, v = .ref a ∧ S a = some (.lst xs) ∧ Reps K S ds xs
  | .lstK ds, v => ∃ a xs, v = .ref a ∧ SqL K S a xs ∧ Reps K S ds xs
  | .obj C ns ds, v => ∃ a dx xs, v = .ref a ∧ S a = some (.ins C dx (ns.zip xs)) ∧ xs.length = ns.length ∧ Reps K S ds xs
  | .dct hs ks ds, v => ∃ (a : Addr) (ep : Nat) (xs : List (PySem.NestedKey × Addr × Value)) (vs : List V), v = .ref a ∧ S a = some (.ext (DictFx hs a ep xs)) ∧ xs.map (·.1) = nkDs ks ∧ Reps K S ks (xs.map fun x => V.ref x.2.1) ∧ Vals vs (xs.map (·.2.2)) ∧ Reps K S ds vs ∧ okNs ks = true ∧ ∀ x ∈ xs, x.1.depth ≤ 8
def Reps (K : PySem.W.Frag) (S : Hp) : List D → List V → Prop
  | [], [] => True
  | d :: ds, v :: vs => Rep K S d v ∧ Reps K S ds vs
  | _, _ => False
end
theorem Same.tup {K : PySem.W.Frag} {H H' : Hp} {a : Addr} {xs : List V} (e : Same H H') (h : SqT K H a xs) : SqT K H' a xs := by
  rcases h with (h | ⟨o, h⟩) | h
  · exact .inl (.inl (e _ _ h))
  · exact .inl (.inr ⟨o, e _ _ h⟩)
  · exact .inr h

end DL
namespace DL
open PySem PySem.Spec PyProof.Rows L2

section
variable {K : PySem.W.Frag} {S S' : Hp}
mutual
theorem Rep.mono (e : Same S S') : ∀ {d : D} {v : V}, Rep K S d v → Rep K S' d v
  | .non, _, h => h
  | .bl _, _, h => h
  | .int _, _, h => h
  | .str _, _, h => h
  | .ref _, _, h => h
  | .ty _, _, h => h
  | .tup ds, v, h => by
    obtain ⟨a, xs, r, q, t⟩ := h
    exact ⟨a, xs, r, Same.tup e q, Reps.mono e t⟩
  | .lst ds, v, h => by
    obtain ⟨a, xs, r, q, t⟩ := h
    exact ⟨a, xs, r, e _ _ q, Reps.mono e t⟩
  | .lstK ds, v, h => by
    obtain ⟨a, xs, r, q, t⟩ := h
    exact ⟨a, xs, r, L2.Same.seq e q, Reps.mono e t⟩
  | .obj C ns ds, v, h => by
    obtain ⟨a, dx, xs, r, q, l, t⟩ := h
    exact ⟨a, dx, xs, r, e _ _ q, l, Reps.mono e t⟩
  | .dct hs ks ds, v, h => by
    obtain ⟨a, ep, xs, vs, r, q, l, t1, t2, t3, z⟩ := h
    exact ⟨a, ep, xs, vs, r, e _ _ q, l, Reps.mono e t1, t2, Reps.mono e t3, z⟩
theorem Reps.mono (e : Same S S') : ∀ {ds : List D} {vs : List V}, Reps K S ds vs → Reps K S' ds vs
  | [], [], _ => trivial
  | d :: ds, v :: vs, h => ⟨Rep.mono e h.1, Reps.mono e h.2⟩
  | [], _ :: _, h => h
  | _ :: _, [], h => h
end
theorem Reps.length : ∀ {ds : List D} {vs : List V}, Reps K S ds vs → ds.length = vs.length
  | [], [], _ => rfl
  | _ :: _, _ :: _, h => congrArg Nat.succ (Reps.length h.2)
  | [], _ :: _, h => h.elim
  | _ :: _, [], h => h.elim
theorem Reps.get : ∀ {ds : List D} {vs : List V} {i : Nat} {d : D}, Reps K S ds vs → ds[i]? = some d → ∃ v, vs[i]? = some v ∧ Rep K S d v
  | [], [], _, _, _, e => by simp at e
  | _ :: _, v :: _, 0, _, h, e => by
    simp at e
    subst e
    exact ⟨v, rfl, h.1⟩
  | _ :: _, _ :: _, i + 1, _, h, e => by
    obtain ⟨v, e1, r⟩ := Reps.get (i := i) h.2 (by simpa using e)
    exact ⟨v, by simpa using e1, r⟩
  | [], _ :: _, _, _, h, _ => h.elim
  | _ :: _, [], _, _, h, _ => h.elim
theorem Reps.one {d : D} {vs : List V} (h : Reps K S [d] vs) : ∃ v, vs = [v] ∧ Rep K S d v := by
  cases vs with
  | nil => exact h.elim
  | cons v r =>
    cases r with
    | nil => exact ⟨v, rfl, h.1⟩
    | cons _ _ => exact h.2.elim
theorem Reps.two {d e : D} {vs : List V} (h : Reps K S [d, e] vs) : ∃ v u, vs = [v, u] ∧ Rep K S d v ∧ Rep K S e u := by
  cases vs with
  | nil => exact h.elim
  | cons v r =>
    obtain ⟨u, rfl, q⟩ := Reps.one h.2
    exact ⟨v, u, rfl, h.1, q⟩
end
end DL
namespace DL
open PySem PySem.Spec PyProof.Rows L2

/-- what is mutable and known by its address -/
inductive MO where
  | lst (ds : List D)
  | dK (ks : List Key) (ds : List D)
  | dN (hs : PySem.NestedKey → Int) (ks ds : List D)
  | ins (C : Addr) (ns : List Str) (ds : List D)
  | tab (q : Str)
  | exc (C : Addr) (ns : List Str) (ds : List D)
abbrev Mem := Addr → Option MO
def mset (M : Mem) (a : Addr) (o : MO) : Mem := fun b => if b = a then some o else M b
theorem mset_same {M : Mem} {a : Addr} {o : MO} : mset M a o a = some o := by unfold mset; rw [if_pos rfl]
theorem mset_mset {M : Mem} {a : Addr} {o u : MO} : mset (mset M a o) a u = mset M a u := by
  funext b
  unfold mset
  split <;> rfl
def MOk (K : PySem.W.Frag) (S H : Hp) (a : Addr) : MO → Prop
  | .lst ds => ∃ xs, H a = some (.lst xs) ∧ Reps K S ds xs
  | .dK ks ds => ∃ xs, H a = some (.dK (ks.zip xs)) ∧ xs.length = ks.length ∧ Reps K S ds xs
  | .dN hs ks ds => ∃ (ep : Nat) (xs : List (PySem.NestedKey × Addr × Value)) (vs : List V), H a = some (.ext (DictFx hs a ep xs)) ∧ xs.map (·.1) = nkDs ks ∧ Reps K S ks (xs.map fun x => V.ref x.2.1) ∧ Vals vs (xs.map (·.2.2)) ∧ Reps K S ds vs ∧ okNs ks = true ∧ ∀ x ∈ xs, x.1.depth ≤ 8
  | .ins C ns ds => ∃ dx xs, H a = some (.ins C dx (ns.zip xs)) ∧ xs.length = ns.length ∧ Reps K S ds xs
  | .tab q => ∃ ps : Array Value, H a = some (.tbl ps) ∧ TriplesOk ps.toList ∧ ∀ (pos : Pos) (cv : Value), codeAmong pos ps.toList = some cv → ∃ c, cv = .ref c ∧ S c = some (LamX.CodeO c q)
  | .exc C ns ds => ∃ od : Option Addr, H a = some (exo a C od) ∧ ((od = none ∧ ns = [] ∧ ds = []) ∨ ∃ d xs, od = some d ∧ S d = some (exd d (ns.zip xs)) ∧ xs.length = ns.length ∧ Reps K S ds xs)
theorem MOk.some {K : PySem.W.Frag} {S H : Hp} {a : Addr} {o : MO} (h : MOk K S H a o) : ∃ u, H a = some u := by
  cases o with
  | lst ds => obtain ⟨xs, e, _⟩ := h; exact ⟨_, e⟩
  | dK ks ds => obtain ⟨xs, e, _⟩ := h; exact ⟨_, e⟩
  | dN hs ks ds => obtain ⟨ep, xs, vs, e, _⟩ := h; exact ⟨_, e⟩
  | ins C ns ds => obtain ⟨dx, xs, e, _⟩ := h; exact ⟨_, e⟩
  | tab q => obtain ⟨ps, e, _⟩ := h; exact ⟨_, e⟩
  | exc C ns ds => obtain ⟨od, e, _⟩ := h; exact ⟨_, e⟩
theorem MOk.mono {K : PySem.W.Frag} {S S' H H' : Hp} {a : Addr} {o : MO} (h : MOk K S H a o) (e : Same S S') (q : H' a = H a) : MOk K S' H' a o := by
  cases o with
  | lst ds => obtain ⟨xs, e1, r⟩ := h; exact ⟨xs, q.trans e1, r.mono e⟩
  | dK ks ds => obtain ⟨xs, e1, l, r⟩ := h; exact ⟨xs, q.trans e1, l, r.mono e⟩
  | dN hs ks ds => obtain ⟨ep, xs, vs, e1, l, rk, rv, r, z⟩ := h; exact ⟨ep, xs, vs, q.trans e1, l, rk.mono e, rv, r.mono e, z⟩
  | ins C ns ds => obtain ⟨dx, xs, e1, l, r⟩ := h; exact ⟨dx, xs, q.trans e1, l, r.mono e⟩
  | exc C ns ds =>
    obtain ⟨od, e1, h⟩ := h
    refine ⟨od, q.trans e1, ?_⟩
    rcases h with h | ⟨d, xs, h1, h2, h3, h4⟩
    · exact .inl h
    · exact .inr ⟨d, xs, h1, e _ _ h2, h3, h4.mono e⟩
  | tab n => obtain ⟨ps, e1, l, r⟩ := h; exact ⟨ps, q.trans e1, l, fun pos cv hc => by
      obtain ⟨c, e2, e3⟩ := r pos cv hc
      exact ⟨c, e2, e _ _ e3⟩⟩

/-- the heap's parts: S never changes, M is mutable, F is the callers' -/
structure RelC (K : PySem.W.Frag) (F S H : Hp) (M : Mem) : Prop where
  same : Same S H
  fr : ∀ a o, F a = some o → H a = some o ∧ S a = none ∧ M a = none
  mem : ∀ a o, M a = some o → S a = none ∧ MOk K S H a o
/-- a slot of a def: unset, a value, a list of one's own -/
inductive Sl where
  | no | val (d : D) | own (ds : List D)
abbrev Ev := List Sl
@[reducible] def look : Ev → Nat → Sl
  | [], _ => .no
  | s :: _, 0 => s
  | _ :: r, n + 1 => look r n
@[reducible] def put : Ev → Nat → Sl → Ev
  | [], _, _ => []
  | _ :: r, 0, x => x :: r
  | s :: r, n + 1, x => s :: put r n x
/-- what every state of a body bears: things of the frame, and things that never change, as they were at some place -/
class Gh where
  f : Hp
  s : Hp
instance (priority := low) gh0 : Gh := ⟨fun _ => none, fun _ => none⟩
structure GhOk [Gh] (F S : Hp) : Prop where
  f : Same Gh.f F
  s : Same Gh.s S
theorem GhOk.up [Gh] {F S S' : Hp} (g : GhOk F S) (e : Same S S') : GhOk F S' := ⟨g.f, g.s.trans e⟩
theorem GhOk.no [Gh] {F S : Hp} {a : Addr} (g : GhOk F S) (h : F a = none) : Gh.f a = none := by
  cases e : Gh.f a with
  | none => rfl
  | some o => rw [g.f a o e] at h; cases h
theorem GhOk.set [Gh] {F S : Hp} {a : Addr} {o o' : HO} (g : GhOk (upd F a o) S) (h : Gh.f a = none) : GhOk (upd F a o') S := ⟨fun b u e => by
  have q := g.f b u e
  have n : b ≠ a := fun z => by rw [z, h] at e; cases e
  rw [upd_ne n] at q ⊢; exact q, g.s⟩
structure Rel [Gh] (K : PySem.W.Frag) (F S : Hp) (σ : L2.St) (H : Hp) (env : Ev) (M : Mem) : Prop where
  c : RelC K F S H M
  len : env.length = σ.length
  val : ∀ i d, look env i = .val d → ∃ v, σ[i]? = some (some v) ∧ Rep K S d v
  own : ∀ i ds, look env i = .own ds → ∃ a xs, σ[i]? = some (some (.ref a)) ∧ H a = some (.lst xs) ∧ S a = none ∧ M a = none ∧ F a = none ∧ Reps K S ds xs
  dis : ∀ i j a ds es, i ≠ j → look env i = .own ds → look env j = .own es → σ[i]? = some (some (.ref a)) → σ[j]? ≠ some (some (.ref a))
  g : GhOk F S

/-- .. by something that nobody names -/
theorem RelC.more {K : PySem.W.Frag} {F S H H' : Hp} {M : Mem} (R : RelC K F S H M) (k : Same H H') : RelC K F S H' M := by
  refine ⟨R.same.trans k, fun b u e => ⟨k _ _ (R.fr b u e).1, (R.fr b u e).2⟩, fun b u e => ?_⟩
  obtain ⟨h1, h2⟩ := R.mem b u e
  obtain ⟨o, ho⟩ := h2.some
  exact ⟨h1, h2.mono (Same.refl _) ((k _ _ ho).trans ho.symm)⟩
end DL
namespace DL
open PySem PySem.Spec PyProof.Rows L2

variable [Gh]
section
variable {K : PySem.W.Frag} {F S H : Hp} {M : Mem} {σ : L2.St} {env : Ev}
/-- the def's slots stay, the heap's parts move on -/
theorem Rel.grow {S' H' : Hp} {M' : Mem} (R : Rel K F S σ H env M) (c : RelC K F S' H' M') (ss : Same S S')
    (ko : ∀ i a, σ[i]? = some (some (.ref a)) → (∃ ds, look env i = .own ds) → H' a = H a ∧ S' a = none ∧ M' a = none) : Rel K F S' σ H' env M' := by
  refine ⟨c, R.len, fun i d e => ?_, fun i ds e => ?_, R.dis, R.g.up ss⟩
  · obtain ⟨v, e1, r⟩ := R.val i d e
    exact ⟨v, e1, r.mono ss⟩
  · obtain ⟨a, xs, e1, e2, e3, e4, e5, r⟩ := R.own i ds e
    obtain ⟨k1, k2, k3⟩ := ko i a e1 ⟨ds, e⟩
    exact ⟨a, xs, e1, k1.trans e2, k2, k3, e5, r.mono ss⟩
theorem Rel.more (R : Rel K F S σ H env M) {H' : Hp} (k : Same H H') : Rel K F S σ H' env M := by
  refine R.grow (R.c.more k) (Same.refl _) fun i a e hi => ?_
  obtain ⟨ds, hi⟩ := hi
  obtain ⟨b, xs, e1, e2, e3, e4, _⟩ := R.own i ds hi
  rw [e] at e1
  cases e1
  exact ⟨(k _ _ e2).trans e2.symm, e3, e4⟩
end
end DL
namespace DL
open PySem PySem.Spec PyProof.Rows L2

variable [Gh]
/-- not -/
@[reducible] def nb : Bool → Bool
  | true => false
  | false => true
abbrev KD := D → Ev → Mem → Prop
def PostE (K : PySem.W.Frag) (F S : Hp) (σ : L2.St) (Qd : KD) (Q : VK) : Prop :=
  ∀ v H' S' env' M' d, Same S S' → Rel K F S' σ H' env' M' → Rep K S' d v → Qd d env' M' → Q v H'
theorem PostE.up {K : PySem.W.Frag} {F S S1 : Hp} {σ : L2.St} {Qd : KD} {Q : VK} (p : PostE K F S σ Qd Q) (s : Same S S1) : PostE K F S1 σ Qd Q := fun v H' S' env' M' d s' R r q => p v H' S' env' M' d (s.trans s') R r q
/-- statements -/
structure DEnds where
  nx : Ev → Mem → Prop
  rt : D → Mem → Prop
  bk : Ev → Mem → Prop := fun _ _ => False
  ct : Ev → Mem → Prop := fun _ _ => False
structure PostS (K : PySem.W.Frag) (F S : Hp) (Ed : DEnds) (E : Ends) : Prop where
  nx : ∀ σ H' S' env' M', Same S S' → Rel K F S' σ H' env' M' → Ed.nx env' M' → E.nx σ H'
  rt : ∀ v H' S' M' d, Same S S' → RelC K F S' H' M' → Rep K S' d v → Ed.rt d M' → E.rt v H'
  bk : ∀ σ H' S' env' M', Same S S' → Rel K F S' σ H' env' M' → Ed.bk env' M' → E.bk σ H'
  ct : ∀ σ H' S' env' M', Same S S' → Rel K F S' σ H' env' M' → Ed.ct env' M' → E.ct σ H'
theorem PostS.up {K : PySem.W.Frag} {F S S1 : Hp} {Ed : DEnds} {E : Ends} (p : PostS K F S Ed E) (s : Same S S1) : PostS K F S1 Ed E :=
  ⟨fun σ H' S' env' M' s' => p.nx σ H' S' env' M' (s.trans s'), fun v H' S' M' d s' => p.rt v H' S' M' d (s.trans s'), fun σ H' S' env' M' s' => p.bk σ H' S' env' M' (s.trans s'), fun σ H' S' env' M' s' => p.ct σ H' S' env' M' (s.trans s')⟩
end DL
namespace DL
open PySem PySem.Spec PyProof.Rows L2
variable [Gh]

mutual
def pd : D → PyData
  | .non => .none
  | .bl b => .bool b
  | .int i => .int i
  | .str s => .str s
  | .tup ds => .tuple (pds ds)
  | .lst ds => .list (pds ds)
  | .lstK ds => .list (pds ds)
  | .ref _ => .none
  | .ty _ => .none
  | .obj _ _ _ => .none
  | .dct _ _ _ => .none
def pds : List D → List PyData
  | [] => []
  | d :: r => pd d :: pds r
end
mutual
/-- data: nested lists and tuples of None, bools, ints, texts of fewer than so many signs -/
def isData : D → Bool
  | .non => true
  | .bl _ => true
  | .int _ => true
  | .str s => PyData.strOk s
  | .tup ds => areData ds
  | .lst ds => areData ds
  | .lstK ds => areData ds
  | .ref _ => false
  | .ty _ => false
  | .obj _ _ _ => false
  | .dct _ _ _ => false
def areData : List D → Bool
  | [] => true
  | d :: r => isData d && areData r
end
mutual
def depD : D → Nat
  | .tup ds => depDs ds + 1
  | .lst ds => depDs ds + 1
  | .lstK ds => depDs ds + 1
  | .non => 0
  | .bl _ => 0
  | .int _ => 0
  | .str _ => 0
  | .ref _ => 0
  | .ty _ => 0
  | .obj _ _ _ => 0
  | .dct _ _ _ => 0
def depDs : List D → Nat
  | [] => 0
  | d :: r => max (depD d) (depDs r)
end
end DL
namespace DL
open PySem PySem.Spec PyProof.Rows L2
variable [Gh]

section
variable {K : PySem.W.Frag} {S : Hp}
mutual
theorem Dp.mono {S' : Hp} (e : Same S S') : ∀ {v : V} {d : PyData}, Dp K S v d → Dp K S' v d
  | _, _, .non => .non
  | _, _, .bl b => .bl b
  | _, _, .int b => .int b
  | _, _, .str b => .str b
  | _, _, .lst q t => .lst (L2.Same.seq e q) (DpAll.mono e t)
  | _, _, .tup q t => .tup (DL.Same.tup e q) (DpAll.mono e t)
theorem DpAll.mono {S' : Hp} (e : Same S S') : ∀ {v : List V} {d : List PyData}, DpAll K S v d → DpAll K S' v d
  | _, _, .nil => .nil
  | _, _, .cons h t => .cons (Dp.mono e h) (DpAll.mono e t)
end
end
end DL
namespace DL
open PySem PySem.Spec PyProof.Rows L2
variable [Gh]

/-- == of data -/
def deq (d e : D) : Bool := PyData.eqv (pd d) (pd e)
def okEq (d : D) : Prop := isData d = true ∧ depD d ≤ 64
def eqF : D → D → Bool
  | .non, .non => true
  | .bl a, .bl b => a == b
  | .bl a, .int b => (if a then 1 else 0) == b
  | .int a, .bl b => a == (if b then 1 else 0)
  | .int a, .int b => a == b
  | .str a, .str b => a == b
  | _, _ => false
def inF (d : D) (ds : List D) : Bool := ds.any fun e => eqF e d
end DL
namespace DL
open PySem PySem.Spec PyProof.Rows L2
variable [Gh]

def fget (f : Str) (ns : List Str) (ds : List D) : Option D := (ns.zip ds).lookup f
/-- the fields of a thing -/
@[reducible] def insD (d : D) (M : Mem) : Option (Addr × List Str × List D) := match d with
  | .obj C ns ds => some (C, ns, ds)
  | .ref a => (match M a with
    | some (.ins C ns ds) => some (C, ns, ds)
    | _ => none)
  | _ => none
def XRep (K : PySem.W.Frag) (S : Hp) (od : Option Addr) (ns : List Str) (ds : List D) : Prop :=
  (ns = [] ∧ ds = [] ∧ od = none) ∨ ∃ d xs, od = some d ∧ S d = some (.xd (ns.zip xs)) ∧ xs.length = ns.length ∧ Reps K S ds xs
end DL
namespace DL
open PySem PySem.Spec PyProof.Rows L2
variable [Gh]

@[reducible] def wipeD (e : Ev) : List Nat → Ev
  | [] => e
  | v :: vs => put (wipeD e vs) v .no
/-- the block's own names as they were -/
@[reducible] def unw (env be : Ev) : List Nat → Ev
  | [] => be
  | v :: vs => put (unw env be vs) v (look env v)
@[reducible] def notOwn : Sl → Bool
  | .own _ => false
  | _ => true
end DL
namespace DL
open PySem PySem.Spec PyProof.Rows L2
variable [Gh]

section
variable {X : Cx}
@[reducible] def ownIx : List (Str × Nat) → List Nat
  | [] => []
  | q :: r => q.2 :: ownIx r
end
end DL
namespace DL
open PySem PySem.Spec PyProof.Rows L2
variable [Gh]

def kget (k : Key) : List Key → List D → Option D
  | k' :: ks, d :: ds => if k' = k then some d else kget k ks ds
  | _, _ => none
def kputN (k : Key) (ks : List Key) : List Key := if ks.any (fun k' => decide (k' = k)) then ks else ks ++ [k]
def kputD {α : Type} (k : Key) (d : α) (ks : List Key) (ds : List α) : List α := if ks.any (fun k' => decide (k' = k)) then List.zipWith (fun k' x => if k' = k then d else x) ks ds else ds ++ [d]
end DL
namespace DL
open PySem PySem.Spec PyProof.Rows L2
variable [Gh]

def penK : List Key := [.inr "cells", .inr "at", .inr "left"]
@[reducible] def penMO (c : List Int) (a l : Int) : MO := .dK penK [.lst (c.map D.int), .int a, .int l]
def PenO (o : MO) (n : Int) : Prop := ∃ c a l, o = penMO c a l ∧ c.length ≤ 63 ∧ 0 ≤ a ∧ a ≤ n
theorem PenO.mono {o : MO} {n m : Int} (h : PenO o n) (l : n ≤ m) : PenO o m := by
  obtain ⟨c, a, l', e, h1, h2, h3⟩ := h
  exact ⟨c, a, l', e, h1, h2, by omega⟩
theorem sk_ca : ¬ (Sum.inr "cells" : Key) = .inr "at" := by decide +kernel
theorem sk_cl : ¬ (Sum.inr "cells" : Key) = .inr "left" := by decide +kernel
theorem sk_al : ¬ (Sum.inr "at" : Key) = .inr "left" := by decide +kernel
theorem sk_la : ¬ (Sum.inr "left" : Key) = .inr "at" := by decide +kernel
theorem pen_cells {x y z : D} : kget (.inr "cells") penK [x, y, z] = some x := by
  unfold penK kget
  rw [if_pos rfl]
theorem pen_at {x y z : D} : kget (.inr "at") penK [x, y, z] = some y := by
  unfold penK kget kget
  rw [if_neg sk_ca, if_pos rfl]
theorem pen_left {x y z : D} : kget (.inr "left") penK [x, y, z] = some z := by
  unfold penK kget kget kget
  rw [if_neg sk_cl, if_neg sk_al, if_pos rfl]
theorem penN (k : Key) (h : penK.any (fun k' => decide (k' = k)) = true) : kputN k penK = penK := by
  unfold kputN
  rw [if_pos h]
theorem penN_at : kputN (.inr "at") penK = penK := penN _ (by decide +kernel)
theorem penN_left : kputN (.inr "left") penK = penK := penN _ (by decide +kernel)
theorem penD_at {x y z d : D} : kputD (.inr "at") d penK [x, y, z] = [x, d, z] := by
  unfold kputD
  rw [if_pos (by decide +kernel)]
  unfold penK
  simp only [List.zipWith_cons_cons, List.zipWith_nil_left, if_neg sk_ca, if_pos, if_neg sk_la]
theorem penD_left {x y z d : D} : kputD (.inr "left") d penK [x, y, z] = [x, y, d] := by
  unfold kputD
  rw [if_pos (by decide +kernel)]
  unfold penK
  simp only [List.zipWith_cons_cons, List.zipWith_nil_left, if_neg sk_cl, if_neg sk_al, if_pos]
end DL
namespace DL
open PySem PySem.Spec PyProof.Rows L2
variable [Gh]
theorem mulW {i j : Int} (h1 : i.natAbs < 2 ^ 200) (h2 : j.natAbs < 2 ^ 200) : CMulW i j := wide_mul h1 h2 (by decide) (by decide) (by decide)
end DL
namespace DL
open PySem PySem.Spec PyProof.Rows L2
variable [Gh]

theorem atI_k {α : Type} (l : List α) (k : Nat) : atI l (k : Int) = l[k]? := by
  unfold atI ixN
  by_cases h : (k : Int) < l.length
  · rw [if_pos (by omega), if_pos h]
    rfl
  · have h2 : ¬ k < l.length := by omega
    rw [if_pos (by omega), if_neg h, List.getElem?_eq_none_iff.mpr (by omega)]
    rfl
theorem ofString_inj {a b : String} (h : Str.ofString a = Str.ofString b) : a = b := by
  rw [Str.ofString_eq_toList, Str.ofString_eq_toList] at h
  have h2 : (a.toList.map Char.toNat) = b.toList.map Char.toNat := congrArg (fun z : Str => z.cps.toList) h
  have h3 : a.toList = b.toList := by
    generalize a.toList = x at h2
    generalize b.toList = y at h2
    induction x generalizing y with
    | nil => cases y with
      | nil => rfl
      | cons _ _ => cases h2
    | cons c x ih => cases y with
      | nil => cases h2
      | cons d y =>
        rw [List.map_cons, List.map_cons] at h2
        injection h2 with e1 e2
        rw [ih y e2]
        congr 1
        exact Char.ext (UInt32.toNat_inj.mp e1)
  exact String.toList_inj.mp h3
theorem lit_beq (a b : String) : (Str.ofString a == Str.ofString b) = (a == b) := by
  by_cases h : a = b
  · rw [h, beq_self_eq_true, beq_self_eq_true]
  · rw [beq_eq_false_iff_ne.mpr h, beq_eq_false_iff_ne.mpr fun z => h (ofString_inj z)]
def flatOk : D → Bool
  | .non => true
  | .bl _ => true
  | .int _ => true
  | .str z => PyData.strOk z
  | _ => false
theorem okEq_flat {d : D} (h : flatOk d = true) : okEq d := by
  cases d <;> first | (exact ⟨rfl, by unfold depD; decide⟩) | (exact ⟨h, by unfold depD; decide⟩) | cases h
theorem deq_int (i j : Int) : deq (.int i) (.int j) = decide (i = j) := rfl
theorem deq_str (a b : Str) : deq (.str a) (.str b) = (a == b) := rfl
theorem deq_NI (i : Int) : deq .non (.int i) = false := rfl
theorem deq_IN (i : Int) : deq (.int i) .non = false := rfl
theorem deq_NN : deq .non .non = true := rfl
theorem inF_cons (d e : D) (ds : List D) : inF d (e :: ds) = (eqF e d || inF d ds) := rfl
theorem inF_nil (d : D) : inF d [] = false := rfl
theorem eqF_lit (a b : String) : eqF (.str (Str.ofString a)) (.str (Str.ofString b)) = (a == b) := lit_beq a b
inductive Un where
  | again | maybe | ahead | unless
  deriving DecidableEq
inductive WT where
  | nothing | one | letter (s : Str) | call (s : Str) | un (k : Un) (w : WT) | many (c : Bool) (ws : List WT)
@[reducible] def Un.s : Un → Str
  | .again => "again" | .maybe => "maybe" | .ahead => "ahead" | .unless => "unless"
@[reducible] def manyS : Bool → Str
  | true => "choice" | false => "row"
mutual
def WT.d : WT → D
  | .nothing => .tup [.str "nothing"]
  | .one => .tup [.str "one"]
  | .letter s => .tup [.str "letter", .str s]
  | .call s => .tup [.str "call", .str s]
  | .un k w => .tup [.str k.s, w.d]
  | .many c ws => .tup [.str (manyS c), .lst (WT.dOf ws)]
def WT.dOf : List WT → List D
  | [] => []
  | w :: ws => w.d :: WT.dOf ws
end
mutual
/-- what the laws' ways keep: signs from a text, two parts or more -/
def WT.ok (P : Str → Prop) : WT → Prop
  | .letter s => P s
  | .call _ => False
  | .un _ w => w.ok P
  | .many _ ws => 2 ≤ ws.length ∧ WT.oks P ws
  | _ => True
def WT.oks (P : Str → Prop) : List WT → Prop
  | [] => True
  | w :: ws => w.ok P ∧ WT.oks P ws
end
/-- the parts of a way -/
@[reducible] def WT.inner : WT → List WT
  | .un _ w => [w]
  | .many _ ws => ws
  | _ => []
end DL
namespace DL
open PySem PySem.Spec PyProof.Rows L2
variable [Gh]

/-- the object at f: a def whose text names its class -/
structure SupD (K : PySem.W.Frag) (x qual : Str) (params : Arguments) (body : List Stmt) (scope : Scope) (cc cda f : Addr) (fd : FuncData) : Prop where
  ex : ∃ (oc : Value) (od : Option Addr) (dV kV doc pm : Value) (an : Option Addr) (ct : Value) (osl : Array (Option Value)),
    fd = PySem.W.fnX x qual params body scope [(("__class__" : Str), cc)] dV kV doc pm an (.ref cda) ct ∧ K.lookup f = some ⟨oc, od, .func fd, osl⟩
  cd : PySem.W.codeIn K (.ref cda) qual = true
end DL
namespace DL
open PySem PySem.Spec PyProof.Rows L2
variable [Gh]

def wayN : List Str := ["word", "sign", "inner"]
/-- the classes of ways -/
structure WA where
  nothing : Addr
  one : Addr
  letter : Addr
  call : Addr
  un : Un → Addr
  many : Bool → Addr
mutual
/-- a way as a thing of the package -/
def WT.o (W : WA) : WT → D
  | .nothing => .obj W.nothing wayN [.str "nothing", .str "", .tup []]
  | .one => .obj W.one wayN [.str "one", .str "", .tup []]
  | .letter s => .obj W.letter (wayN ++ [("letter" : Str)]) [.str "letter", .str s, .tup [], .str s]
  | .call s => .obj W.call (wayN ++ [("name" : Str)]) [.str "call", .str s, .tup [], .str s]
  | .un k w => .obj (W.un k) (wayN ++ [("part" : Str)]) [.str k.s, .str "", .tup [w.o W], w.o W]
  | .many c ws => .obj (W.many c) (wayN ++ [("ways" : Str)]) [.str (manyS c), .str "", .tup (WT.oOf W ws), .tup (WT.oOf W ws)]
def WT.oOf (W : WA) : List WT → List D
  | [] => []
  | w :: ws => w.o W :: WT.oOf W ws
end
@[reducible] def WT.word : WT → Str
  | .nothing => "nothing" | .one => "one" | .letter _ => "letter" | .call _ => "call" | .un k _ => k.s | .many c _ => manyS c
@[reducible] def WT.sign : WT → Str
  | .letter s => s | .call s => s | _ => ""
end DL
namespace DL
open PySem PySem.Spec PyProof.Rows L2
variable [Gh]
theorem insD_ref {M : Mem} {a C : Addr} {ns : List Str} {ds : List D} (h : M a = some (.ins C ns ds)) : insD (.ref a) M = some (C, ns, ds) := by
  unfold insD
  simp only [h]
end DL
namespace DL
open PySem PySem.Spec PyProof.Rows L2
variable [Gh]

mutual
def WT.parts (p : List Nat) : WT → List (List Nat × WT)
  | .un k v => (p, .un k v) :: WT.parts (p ++ [0]) v
  | .many c ws => (p, .many c ws) :: WT.partsL p 0 ws
  | .nothing => [(p, .nothing)]
  | .one => [(p, .one)]
  | .letter s => [(p, .letter s)]
  | .call s => [(p, .call s)]
def WT.partsL (p : List Nat) (i : Nat) : List WT → List (List Nat × WT)
  | [] => []
  | w :: ws => WT.parts (p ++ [i]) w ++ WT.partsL p (i + 1) ws
end
end DL
namespace DL
open PySem PySem.Spec PyProof.Rows L2
variable [Gh]
theorem okEq_word (v : WT) : okEq (.str v.word) := by
  refine okEq_flat ?_
  cases v with
  | nothing => exact (by decide +kernel : flatOk (.str ("nothing" : Str)) = true)
  | one => exact (by decide +kernel : flatOk (.str ("one" : Str)) = true)
  | letter s => exact (by decide +kernel : flatOk (.str ("letter" : Str)) = true)
  | call s => exact (by decide +kernel : flatOk (.str ("call" : Str)) = true)
  | un k w =>
    cases k
    · exact (by decide +kernel : flatOk (.str ("again" : Str)) = true)
    · exact (by decide +kernel : flatOk (.str ("maybe" : Str)) = true)
    · exact (by decide +kernel : flatOk (.str ("ahead" : Str)) = true)
    · exact (by decide +kernel : flatOk (.str ("unless" : Str)) = true)
  | many c ws =>
    cases c
    · exact (by decide +kernel : flatOk (.str ("row" : Str)) = true)
    · exact (by decide +kernel : flatOk (.str ("choice" : Str)) = true)
end DL
namespace DL
open PySem PySem.Spec PyProof.Rows L2
variable [Gh]
theorem deq_bf (b : Bool) : deq (.bl b) (.bl false) = nb b := by cases b <;> rfl
theorem deq_bt (b : Bool) : deq (.bl b) (.bl true) = b := by cases b <;> rfl
end DL
namespace DL
open PySem PySem.Spec PyProof.Rows L2
variable [Gh]

structure Nd where
  word : Str
  sign : Str
  below : List Nat
@[reducible] def natsD (l : List Nat) : D := .lst (l.map fun n => .int (n : Nat))
@[reducible] def Nd.d (n : Nd) : D := .tup [.str n.word, .str n.sign, natsD n.below]
def Nd.up (k : Nat) (n : Nd) : Nd := ⟨n.word, n.sign, n.below.map (· + k)⟩
end DL
namespace DL
open PySem PySem.Spec PyProof.Rows L2
variable [Gh]
theorem atI_zero {α : Type} (d : α) (ds : List α) : atI (d :: ds) 0 = some d := atI_k (d :: ds) 0
end DL
namespace DL
open PySem PySem.Spec PyProof.Rows L2
variable [Gh]
theorem atI_one {α : Type} (a b : α) (r : List α) : atI (a :: b :: r) 1 = some b := atI_k (a :: b :: r) 1
theorem atI_two {α : Type} (a b c : α) (r : List α) : atI (a :: b :: c :: r) 2 = some c := atI_k (a :: b :: c :: r) 2
end DL
namespace DL
open PySem PySem.Spec PyProof.Rows L2 He

abbrev FnY : Type := Option (Str × Str × Arguments × FuncBody × Scope × Addr × List Str × Addr)
def fnY (K : PySem.W.Frag) (p : Str × Option Str) : FnY := match K.lookup (fAd K p) with
  | some ⟨_, _, .func fd, _⟩ => some (fd.name, fd.qualname, fd.params, fd.body, fd.scope, fd.globals, fd.closure.map (·.1), fd.builtins)
  | _ => none
def valY (d : DefD) : FnY := some (d.name, d.qual, d.params, .stmts d.body, d.scope, mainGlobals, ["__class__"], builtinsNs)
/-- what stands of a def with super() at its class: f2 the base's method -/
def supB (file : Str) (K : PySem.W.Frag) (d : DefD) : Bool := match K.lookup (fAd K d.at_) with
  | some ⟨_, _, .func fd, _⟩ => (match fd.closure, fd.code, fd.defaults with
    | [(_, cc)], .ref cda, .none => PySem.W.codeIn K (.ref cda) d.qual && ((match K.lookup cda with
        | some ⟨_, _, .fields vs, _⟩ => (match (vs[2]? : Option Value) with
          | some (Value.str fl _) => file == fl
          | _ => false)
        | _ => false) && (match K.lookup cc with
        | some ⟨_, _, .cell (some (.ref D)), _⟩ => decide (D = ga K d.at_.1)
        | _ => false))
    | _, _, _ => false)
  | _ => false
/-- .. and of the base's method -/
def baseB (K : PySem.W.Frag) (C f2 : Addr) : Bool := (PySem.W.clsIn K C).isSome && (decide (PySem.W.mroIn K C (.ref C) = some true) && (eqO (PySem.W.ks_superIn K C C "__init__") (some (some (.ref f2))) && (decide (PySem.W.typeIn K (.ref f2) = some (.type "function")) && (PySem.W.fnIn K f2 && eqO (PySem.W.nsIn K cStatics "thirdparty.any") (some none)))))
abbrev AlY : Type := AlD × (Bool × List FnY)
def obsY (fa : List Fa) (fn sn : List DefD) (ex : PySem.W.Frag → Bool) (K : PySem.W.Frag) : AlY := (obsD fa fn K, (ex K, sn.map fun d => fnY K d.at_))
def valYs (fn sn : List DefD) : AlY := (valD fn, (true, sn.map valY))
def SaysY (fa : List Fa) (fn sn : List DefD) (ex : PySem.W.Frag → Bool) (K : PySem.W.Frag) : Prop := obsY fa fn sn ex K = valYs fn sn
end DL
namespace DL
open PySem PySem.Spec PyProof.Rows L2 He

section
variable {fa : List Fa} {fn sn : List DefD} {ex : PySem.W.Frag → Bool} {K : PySem.W.Frag}
theorem SaysY.d (c : SaysY fa fn sn ex K) : SaysD fa fn K := congrArg (fun z : AlY => z.1) c
theorem SaysY.more (c : SaysY fa fn sn ex K) : ex K = true := congrArg (fun z : AlY => z.2.1) c
end
end DL
namespace DL
open PySem PySem.Spec PyProof.Rows PySem.W PySem.Calls HandSHeadRun in
def RunA (r : OpenRow) (q : Program) (M : Nat) (loose : List PySem.Str) (w : World) : Prop :=
  ∀ os : OsState, (endF (stepQ (denQ tabQ) r.prog w) M r.prog w os).map (fun s => (looksF r.prog (boot_heap w.params) s.abs, seenQ q loose (importedModules r.prog.main.body) (fun s => xlAt q [] s && recOk r.toRowW.records s) s.abs)) = some (true, openGood q loose)
open PySem PySem.Spec PyProof.Rows PySem.W PySem.Calls HandSHeadRun in
def RunB (r : OpenRow) (H : Hook) (ob : SharedT → H.α) (M : Nat) (w : World) : Prop :=
  ∀ os : OsState, (endF (stepQ (denQ tabQ) r.prog w) M r.prog w os).map (fun s => ob s) = some (H.val w)
open PySem PySem.Spec PyProof.Rows PySem.W PySem.Calls HandSHeadRun in
theorem run_ab {r : OpenRow} {q : Program} {H : Hook} {ob : SharedT → H.α} {M : Nat} {loose : List PySem.Str} {w : World} (a : RunA r q M loose w) (b : RunB r H ob M w) : RunEq r q H ob M loose w := fun os => by
  have ha := a os
  have hb := b os
  cases e : endF (stepQ (denQ tabQ) r.prog w) M r.prog w os with
  | none => rw [e] at ha; cases ha
  | some s =>
    rw [e] at ha hb
    have h1 := Option.some.inj ha
    have h2 := Option.some.inj hb
    show some (_, _, ob s) = _
    rw [show ob s = H.val w from h2]
    have h3 := congrArg Prod.fst h1
    have h4 := congrArg Prod.snd h1
    show some (looksF r.prog (boot_heap w.params) s.abs, seenQ q loose (importedModules r.prog.main.body) (fun s => xlAt q [] s && recOk r.toRowW.records s) s.abs, H.val w) = _
    rw [show looksF r.prog (boot_heap w.params) s.abs = true from h3, show seenQ q loose (importedModules r.prog.main.body) (fun s => xlAt q [] s && recOk r.toRowW.records s) s.abs = openGood q loose from h4]
end DL
namespace DL
open PySem PySem.Spec PyProof.Rows L2
variable [Gh]
/-- the part with a path -/
def WT.at : WT → List Int → Option WT
  | v, [] => some v
  | v, i :: p => if 0 ≤ i ∧ i < v.inner.length then (match v.inner[i.toNat]? with
    | some u => u.at p
    | none => none) else none
end DL
namespace DL
open PySem PySem.Spec PyProof.Rows L2 He
abbrev AlZ : Type := AlY × List (Option (List (Option (Str × Int))))
def obsZ (fa : List Fa) (fn sn : List DefD) (ex : PySem.W.Frag → Bool) (ts : List Tab) (K : PySem.W.Frag) : AlZ := (obsY fa fn sn ex K, ts.map fun t => dicW K (t.1 K))
def valZ (fn sn : List DefD) (ts : List Tab) (w : World) : AlZ := (valYs fn sn, ts.map fun t => some (keysIn w.params t.2))
def SaysZ (fa : List Fa) (fn sn : List DefD) (ex : PySem.W.Frag → Bool) (ts : List Tab) (w : World) (K : PySem.W.Frag) : Prop := obsZ fa fn sn ex ts K = valZ fn sn ts w
end DL
namespace DL
open PySem PySem.Spec PyProof.Rows L2

theorem XRep.mono {K : PySem.W.Frag} {S S' : Hp} {od : Option Addr} {ns : List Str} {ds : List D} (e : Same S S') (h : XRep K S od ns ds) : XRep K S' od ns ds := by
  rcases h with h | ⟨d, xs, h1, h2, h3, h4⟩
  · exact .inl h
  · exact .inr ⟨d, xs, h1, e _ _ h2, h3, h4.mono e⟩
theorem RelC.sub {K : PySem.W.Frag} {F F' S H : Hp} {M : Mem} (c : RelC K F' S H M) (e : Same F F') : RelC K F S H M := ⟨c.same, fun a o q => c.fr a o (e a o q), c.mem⟩
/-- what an own __init__ of an exception class does: its arguments are kept under these names -/
def spXI (C : Addr) (ns : List Str) : Sp := fun vs H Q _ => ∃ a ws, vs = .ref a :: ws ∧ ws.length = ns.length ∧ H a = some (exo a C none) ∧ ∀ d, H d = none → d ≠ a → Q .non (upd (upd H d (exd d (ns.reverse.zip ws.reverse))) a (exo a C (some d)))
structure ExCl (P : Program) (w : World) (K : PySem.W.Frag) (mg : Str → Option Value) (base : Heap) (k : Nat) (x : Str) (C : Addr) (ns : List Str) : Prop where
  oex : OexC K C
  gm : mg x = some (.ref C)
  ex : ∃ fI fd ps, PySem.W.findIn K (.ref C) "__init__" = some (some (.ref fI)) ∧ PySem.W.typeIn K (.ref fI) = some (.type "function") ∧ FnOk P w K mg base CX0 k fI fd ps (spXI C ns) ∧ Binds K fd ps []
end DL
namespace DL
open PySem PySem.Spec PyProof.Rows L2

/-- what super().__init__ asks of the text's kept part, where ValueError's is meant -/
structure SupXK (P : Program) (K : PySem.W.Frag) (cc cda C : Addr) : Prop where
  code : ∃ ccl cdd vs ccs file tf, K.lookup cda = some ⟨ccl, cdd, .fields vs, ccs⟩ ∧ vs[2]? = some (.str file tf) ∧ ((P.main.file : Str) == file) = true
  cell : ∃ cl cld csl, K.lookup cc = some ⟨cl, cld, .cell (some (.ref C)), csl⟩
  cls : ∃ cdD, PySem.W.clsIn K C = some cdD
  sub : PySem.W.mroIn K C (.ref C) = some true
  subV : PySem.W.subIn K (.ref C) (.type "ValueError") = some true
  find : PySem.W.ks_superIn K C C "__init__" = some (some (.builtin "ValueError.__init__"))
  st : PySem.W.nsIn K cStatics "thirdparty.any" = some none
  top : (P.main.scope.names.lookup ("super" : Str)).isSome = false
  oex : OexC K C
end DL
namespace DL
open PySem PySem.Spec PyProof.Rows L2
/-- an exception's __init__ of the text as it stands behind the top -/
structure SupXAt (P : Program) (K : PySem.W.Frag) (C : Addr) (nm qual : Str) (ps : List Str) (st : Stmt) (f : Addr) : Prop where
  ex : ∃ cc cda fd, SupD K nm qual (defArgs st) (defBody st) (defScope st) cc cda f fd ∧ SupXK P K cc cda C ∧ Binds K fd ps []
theorem ExCl.mono {P : Program} {w : World} {K : PySem.W.Frag} {mg : Str → Option Value} {base : Heap} {j k : Nat} {x : Str} {C : Addr} {ns : List Str} (h : ExCl P w K mg base j x C ns) (l : j ≤ k) : ExCl P w K mg base k x C ns := by
  obtain ⟨fI, fd, ps, h1, h2, h3, h4⟩ := h.ex
  exact ⟨h.oex, h.gm, fI, fd, ps, h1, h2, h3.mono l, h4⟩
theorem ExCl.of {P : Program} {w : World} {K : PySem.W.Frag} {mg : Str → Option Value} {base : Heap} {k : Nat} {x nm qual : Str} {C f : Addr} {ps ns : List Str} {st : Stmt} (D : SupXAt P K C nm qual ps st f) (hm : mg x = some (.ref C)) (hi : PySem.W.findIn K (.ref C) "__init__" = some (some (.ref f))) (ht : PySem.W.typeIn K (.ref f) = some (.type "function"))
    (h : ∃ fd, FnOk P w K mg base CX0 k f fd ps (spXI C ns) ∧ Binds K fd ps []) : ExCl P w K mg base k x C ns := by
  obtain ⟨cc, cda, fd, G, Sk, hb⟩ := D.ex
  obtain ⟨fd, F, hb⟩ := h
  exact ⟨Sk.oex, hm, f, fd, ps, hi, ht, F, hb⟩
end DL
namespace DL
open PySem PySem.Spec PyProof.Rows L2 He
def excB (K : PySem.W.Frag) (C : Addr) : Bool := match K.lookup C with
  | some ⟨.type "type", _, .cls cd, sl⟩ => (match cd.mro, sl.toList with
    | .ref C' :: bm, [_, _, _, _, some (.builtin n), _] => decide (C' = C) && (decide (n = "ValueError.__new__") && (!cd.hasDel && (cd.hasDict && PySem.HandSPX.refsVE bm)))
    | _, _ => false)
  | _ => false
/-- an exception class with an own __init__ -/
def exB (file : Str) (K : PySem.W.Frag) (d : DefD) (fl : List Str) : Bool := supB file K d && ((PySem.W.clsIn K (ga K d.at_.1)).isSome && (decide (PySem.W.mroIn K (ga K d.at_.1) (.ref (ga K d.at_.1)) = some true) && (decide (PySem.W.subIn K (.ref (ga K d.at_.1)) (.type "ValueError") = some true) &&
  (eqO (PySem.W.ks_superIn K (ga K d.at_.1) (ga K d.at_.1) "__init__") (some (some (.builtin "ValueError.__init__"))) && (eqO (PySem.W.nsIn K cStatics "thirdparty.any") (some none) && (excB K (ga K d.at_.1) && (eqO (PySem.W.findIn K (.ref (ga K d.at_.1)) "__setattr__") (some (some (.builtin "object.__setattr__"))) &&
  (decide (PySem.W.subIn K (.ref (ga K d.at_.1)) (.type "BaseException") = some true) && (decide (PySem.W.typeIn K (.ref (ga K d.at_.1)) = some (.type "type")) && (PySem.W.keepIn K (.ref (ga K d.at_.1)) && (eqO (PySem.W.findIn K (.ref (ga K d.at_.1)) "__getattribute__") (some (some (.builtin "BaseException.__getattribute__"))) &&
  (eqO (PySem.W.findIn K (.ref (ga K d.at_.1)) "__getattr__") (some none) && (PySem.W.hasDictIn K (ga K d.at_.1) && (eqO (PySem.W.findIn K (.ref (ga K d.at_.1)) "__class__") (some (some (.builtin "object.__class__"))) && (eqO (PySem.W.specialIn K (.builtin "object.__class__") "__get__") (some (some (.builtin "getset_descriptor.__get__"))) &&
  (decide (PySem.W.takesIn K (.builtin "object.__class__") = some true) && (decide (PySem.W.mroIn K (ga K d.at_.1) (.type "object") = some true) && (eqO (PySem.W.findIn K (.ref (ga K d.at_.1)) "__init__") (some (some (.ref (fAd K d.at_)))) && (decide (PySem.W.typeIn K (.ref (fAd K d.at_)) = some (.type "function")) &&
  (fl.all fun f => eqO (PySem.W.findIn K (.ref (ga K d.at_.1)) f) (some none)))))))))))))))))))))
/-- x is caught by except c -/
def exmB (K : PySem.W.Frag) (x c : Str) : Bool := decide (PySem.W.exmOne K (.ref (ga K x)) (.ref (ga K c)) = some true)
def kitB (K : PySem.W.Frag) (x c : Str) : Bool := decide (PySem.W.kitOne K (.ref (ga K x)) (.ref (ga K c)) = some true)
end DL
namespace DL
open PySem PySem.Spec PyProof.Rows L2
/-- a reader: t its text, mk the def that makes ways, p its place -/
@[reducible] def rdN : List Str := ["text", "line", "make", "place"]
theorem insD_set {M : Mem} {a C : Addr} {ns : List Str} {ds : List D} : insD (.ref a) (mset M a (.ins C ns ds)) = some (C, ns, ds) := insD_ref mset_same
theorem lk_ne {f g : Str} {d : D} {l : List (Str × D)} (h : (f == g) = false) : List.lookup f ((g, d) :: l) = List.lookup f l := by rw [List.lookup_cons, h]
theorem fg_text {x y z u : D} : fget "text" rdN [x, y, z, u] = some x := by
  show List.lookup _ (((("text" : Str)), x) :: _) = _
  rw [List.lookup_cons_self]
theorem fg_line {x y z u : D} : fget "line" rdN [x, y, z, u] = some y := by
  show List.lookup _ (((("text" : Str)), x) :: ((("line" : Str)), y) :: _) = _
  rw [lk_ne (by decide +kernel), List.lookup_cons_self]
theorem fg_make {x y z u : D} : fget "make" rdN [x, y, z, u] = some z := by
  show List.lookup _ (((("text" : Str)), x) :: ((("line" : Str)), y) :: ((("make" : Str)), z) :: _) = _
  rw [lk_ne (by decide +kernel), lk_ne (by decide +kernel), List.lookup_cons_self]
theorem fg_place {x y z u : D} : fget "place" rdN [x, y, z, u] = some u := by
  show List.lookup _ (((("text" : Str)), x) :: ((("line" : Str)), y) :: ((("make" : Str)), z) :: ((("place" : Str)), u) :: _) = _
  rw [lk_ne (by decide +kernel), lk_ne (by decide +kernel), lk_ne (by decide +kernel), List.lookup_cons_self]
theorem fg_no {m : Str} {x y z u : D} (h1 : (m == ("text" : Str)) = false) (h2 : (m == ("line" : Str)) = false) (h3 : (m == ("make" : Str)) = false) (h4 : (m == ("place" : Str)) = false) : fget m rdN [x, y, z, u] = none := by
  show List.lookup _ (((("text" : Str)), x) :: ((("line" : Str)), y) :: ((("make" : Str)), z) :: ((("place" : Str)), u) :: []) = _
  rw [lk_ne h1, lk_ne h2, lk_ne h3, lk_ne h4]
  rfl
end DL
namespace DL
open PySem PySem.Spec PyProof.Rows L2 He
/-- one part of what the Hook looks at -/
def RunP {β : Type} (r : PySem.W.OpenRow) (f : (Addr → Option Obj) → β) (v : β) (M : Nat) (w : World) : Prop :=
  ∀ os : OsState, (HandSHeadRun.endF (HandSHeadRun.stepQ (HandSHeadRun.denQ HandSHeadRun.tabQ) r.prog w) M r.prog w os).map (fun s => f (HandSHeadRun.getT s)) = some v
theorem RunP.pair {β γ : Type} {r : PySem.W.OpenRow} {f : (Addr → Option Obj) → β} {g : (Addr → Option Obj) → γ} {v : β} {u : γ} {M : Nat} {w : World} (a : RunP r f v M w) (b : RunP r g u M w) : RunP r (fun s => (f s, g s)) (v, u) M w := fun os => by
  have ha := a os
  have hb := b os
  cases e : HandSHeadRun.endF (HandSHeadRun.stepQ (HandSHeadRun.denQ HandSHeadRun.tabQ) r.prog w) M r.prog w os with
  | none => rw [e] at ha; cases ha
  | some s =>
    rw [e] at ha hb
    have h1 : f (HandSHeadRun.getT s) = v := Option.some.inj ha
    have h2 : g (HandSHeadRun.getT s) = u := Option.some.inj hb
    show some (f _, g _) = _
    rw [h1, h2]
abbrev AlP : Type := (Bool × (Bool × Bool)) × ((Bool × (List FnW × List FnY)) × (List FnW × List (Option (List (Option (Str × Int))))))
/-- the parts: two lists of facts, the defs, what they are, further facts, defs at other places, tables -/
def oFa (as : List Addr) (fa : List Fa) (g : Addr → Option Obj) : Bool := fa.all fun f => f.ok (frG g as)
def oFn (as : List Addr) (fn : List DefD) (g : Addr → Option Obj) : Bool := fn.all fun d => d.ok (frG g as)
def oEx (as : List Addr) (ex : PySem.W.Frag → Bool) (g : Addr → Option Obj) : Bool := ex (frG g as)
def oVal (as : List Addr) (fn sn : List DefD) (g : Addr → Option Obj) : List FnW × List FnY := (fn.map (fun d => fnW (frG g as) d.at_), sn.map fun d => fnY (frG g as) d.at_)
def oCs (as : List Addr) (cs : List He5.DefA) (ts : List Tab) (g : Addr → Option Obj) : List FnW × List (Option (List (Option (Str × Int)))) := (cs.map (fun d => He5.fnA (frG g as) (d.at_ (frG g as))), ts.map fun t => dicW (frG g as) (t.1 (frG g as)))
def obsP (as : List Addr) (fa fa2 : List Fa) (fn sn : List DefD) (ex : PySem.W.Frag → Bool) (cs : List He5.DefA) (ts : List Tab) (g : Addr → Option Obj) : AlP :=
  ((oFa as fa g, (oFa as fa2 g, oFn as fn g)), ((oEx as ex g, oVal as fn sn g), oCs as cs ts g))
def valP (fn sn : List DefD) (cs : List He5.DefA) (ts : List Tab) (w : World) : AlP := ((true, (true, true)), ((true, (fn.map DefD.val, sn.map valY)), (cs.map He5.DefA.val, ts.map fun t => some (keysIn w.params t.2))))
structure SaysP (fa fa2 : List Fa) (fn sn : List DefD) (ex : PySem.W.Frag → Bool) (cs : List He5.DefA) (ts : List Tab) (w : World) (K : PySem.W.Frag) : Prop where
  f1 : (fa.all fun f => f.ok K) = true
  f2 : (fa2.all fun f => f.ok K) = true
  f3 : (fn.all fun d => d.ok K) = true
  f4 : ex K = true
  fv : fn.map (fun d => fnW K d.at_) = fn.map DefD.val
  sv : sn.map (fun d => fnY K d.at_) = sn.map valY
  cv : cs.map (fun d => He5.fnA K (d.at_ K)) = cs.map He5.DefA.val
  tv : ts.map (fun t => dicW K (t.1 K)) = ts.map fun t => some (keysIn w.params t.2)
def hookP (as : List Addr) (fa fa2 : List Fa) (fn sn : List DefD) (ex : PySem.W.Frag → Bool) (cs : List He5.DefA) (ts : List Tab) : PySem.W.Hook where
  α := AlP
  obs := fun s => obsP as fa fa2 fn sn ex cs ts s.heap.get?
  val := fun w => valP fn sn cs ts w
  says := fun w h => ∃ K : PySem.W.Frag, K.In h ∧ SaysP fa fa2 fn sn ex cs ts w K
  of := fun _ _ e => ⟨_, frG_in (as := as), congrArg (fun z : AlP => z.1.1) e, congrArg (fun z : AlP => z.1.2.1) e, congrArg (fun z : AlP => z.1.2.2) e, congrArg (fun z : AlP => z.2.1.1) e, congrArg (fun z : AlP => z.2.1.2.1) e, congrArg (fun z : AlP => z.2.1.2.2) e, congrArg (fun z : AlP => z.2.2.1) e, congrArg (fun z : AlP => z.2.2.2) e⟩
  keeps := fun _ _ _ ⟨K, hK, c⟩ k => ⟨K, PySem.W.Frag.In.keeps hK k, c⟩
theorem obsP_eq {as : List Addr} {fa fa2 : List Fa} {fn sn : List DefD} {ex : PySem.W.Frag → Bool} {cs : List He5.DefA} {ts : List Tab} {g : Addr → Option Obj} {s : Shared} (h : ∀ a, g a = s.heap.get? a) : obsP as fa fa2 fn sn ex cs ts g = (hookP as fa fa2 fn sn ex cs ts).obs s := by
  have e : g = s.heap.get? := funext h
  rw [e] <;> rfl
theorem runB_of {r : PySem.W.OpenRow} {as : List Addr} {fa fa2 : List Fa} {fn sn : List DefD} {ex : PySem.W.Frag → Bool} {cs : List He5.DefA} {ts : List Tab} {M : Nat} {w : World}
    (h1 : RunP r (fun g => (oFa as fa g, (oFa as fa2 g, oFn as fn g))) (true, (true, true)) M w) (h2 : RunP r (fun g => (oEx as ex g, oVal as fn sn g)) (true, (fn.map DefD.val, sn.map valY)) M w) (h3 : RunP r (oCs as cs ts) (cs.map He5.DefA.val, ts.map fun t => some (keysIn w.params t.2)) M w) :
    RunB r (hookP as fa fa2 fn sn ex cs ts) (fun s => obsP as fa fa2 fn sn ex cs ts (HandSHeadRun.getT s)) M w := h1.pair (h2.pair h3)
end DL
namespace DL
open PySem PySem.Spec PyProof.Rows L2 He
section
variable {fa fa2 : List Fa} {fn sn : List DefD} {ex : PySem.W.Frag → Bool} {cs : List He5.DefA} {ts : List Tab} {w : World} {K : PySem.W.Frag}
theorem SaysP.d (c : SaysP fa fa2 fn sn ex cs ts w K) : SaysD (fa ++ fa2) fn K := by
  unfold SaysD obsD valD
  rw [List.all_append, c.f1, c.f2, c.f3, c.fv]
  rfl
theorem SaysP.y (c : SaysP fa fa2 fn sn ex cs ts w K) : SaysY (fa ++ fa2) fn sn ex K := by
  unfold SaysY obsY valYs
  rw [show obsD (fa ++ fa2) fn K = valD fn from c.d, c.f4, c.sv]
theorem SaysP.z (c : SaysP fa fa2 fn sn ex cs ts w K) : SaysZ (fa ++ fa2) fn sn ex ts w K := by
  unfold SaysZ obsZ valZ
  rw [show obsY (fa ++ fa2) fn sn ex K = valYs fn sn from c.y, c.tv]
end
end DL
namespace DL
open PySem PySem.Spec PyProof.Rows L2 He
def ecAt (K : PySem.W.Frag) : Nat → Addr
  | 0 => ga K "BadText"
  | 1 => ga K "BadName"
  | 2 => ga K "TooMany"
  | 3 => ga K "NotKept"
  | 4 => ga K "NothingLeft"
  | _ => ga K "Busy"
def ecB (K : PySem.W.Frag) : Bool := (List.range 6).all fun k => ((List.range 6).all fun j => decide (PySem.W.kitOne K (.ref (ecAt K k)) (.ref (ecAt K j)) = some (decide (j = k)))) && (decide (PySem.W.kitOne K (.ref (ecAt K k)) (.type "ValueError") = some true) && decide (PySem.W.exmOne K (.ref (ecAt K k)) (.ref (ga K "WayError")) = some true))
end DL
namespace K01
open PySem PySem.Spec PyProof.Rows L2 DL

def top (i : Nat) : Stmt := PySem.Challenge.pw_waystaken_k01_errors.main.body.getD i (.Pass ⟨0, 0, 0, 0⟩)

end K01
namespace K01
open PySem PySem.Spec PyProof.Rows L2 DL

local macro_rules | `(tactic| walk_at "dl") => `(tactic| with_reducible conv => whnf)
local macro_rules | `(tactic| walk_at "pen") => `(tactic| (walk_at "dl"; repeat (first | rw [mset_same] | rw [pen_cells] | rw [pen_at] | rw [pen_left] | rw [penN_at, penD_at] | rw [penN_left, penD_left]); walk_at "dl"))
local macro_rules | `(tactic| walk_at "c") => `(tactic| (refine And.intro (by first | decide | assumption | omega | rfl | (show 1 ≤ sizeLine; decide) | (show 2 ≤ sizeLine; decide) | (show 3 ≤ sizeLine; decide) | (show 4 ≤ sizeLine; decide) | (show 5 ≤ sizeLine; decide) | (show 6 ≤ sizeLine; decide) | (show 7 ≤ sizeLine; decide)) ?_; walk_at "dl"))
local macro_rules | `(tactic| walk_at "q") => `(tactic| (refine And.intro (by first | assumption | exact okEq_flat rfl | exact okEq_flat (by decide +kernel) | exact okEq_word _) (And.intro (by first | assumption | exact okEq_flat rfl | exact okEq_flat (by decide +kernel) | exact okEq_word _) ?_); walk_at "dl"; try (first | rw [deq_int] | rw [deq_NI] | rw [deq_IN] | rw [deq_NN] | (rw [deq_str, lit_beq]; conv in (_ == _) => simp only [String.reduceBEq]) | rw [deq_str] | (conv in deq _ _ => simp only [String.reduceBEq, deq_bf, deq_bt])); walk_at "dl"))
local macro_rules | `(tactic| walk_at "in") => `(tactic| (refine And.intro rfl (And.intro rfl ?_); walk_at "dl"; (conv in inF _ _ => simp only [inF_cons, inF_nil, eqF_lit, String.reduceBEq, Bool.or_false, Bool.or_true, Bool.false_or, Bool.true_or]); walk_at "dl"))
local macro_rules | `(tactic| walk_at "sf") => `(tactic| (refine Exists.intro (ShF.mk _ _ _ _ _ _) (And.intro (Or.inl (And.intro rfl (ShAt.ha (by assumption)))) ?_); walk_at "dl"))
local macro_rules | `(tactic| walk_at "ww") => `(tactic| (refine Exists.intro _ (And.intro rfl ?_); walk_at "dl"))
local macro_rules | `(tactic| walk_at "wa") => `(tactic| (refine Exists.intro _ (And.intro rfl ?_); walk_at "a"))
local macro_rules | `(tactic| walk_at "ev") => `(tactic| (conv in (occs := 1) wipeD _ _ => simp only [wipeD, unw, put, look, ownIx, List.map]))
local macro_rules | `(tactic| walk_at "no") => `(tactic| (refine And.intro (by simp only [List.all_cons, List.all_nil, Bool.and_true, Bool.and_self, ownIx, List.map, look, put, unw]; first | done | rfl | assumption | simp only [*, Bool.and_self, Bool.and_true, notOwn] | (simp only [*, Bool.and_self, Bool.and_true, notOwn]; rfl)) ?_; walk_at "ev"))
local macro_rules | `(tactic| walk_at "a") => `(tactic| (walk_at "dl"; repeat (first | walk_at "in" | walk_at "q" | walk_at "c")))
local macro_rules | `(tactic| walk_at "ai") => `(tactic| (walk_at "a"; repeat ((first | rw [atI_zero] | rw [atI_one] | rw [atI_two]); walk_at "a")))
local macro_rules | `(tactic| walk_at "b") => `(tactic| (walk_at "dl"; repeat (first | ((with_reducible show _ ∧ _); first | walk_at "in" | walk_at "q" | walk_at "c") | (rw [Bool.not_true]; walk_at "dl") | (rw [Bool.not_false]; walk_at "dl"))))
local macro_rules | `(tactic| walk_at "g") => `(tactic| (walk_at "b"; repeat ((first | rw [gb0] | rw [gu1] | rw [gm2] | rw [gm3]); walk_at "b")))
local macro_rules | `(tactic| walk_at "h") => `(tactic| (walk_at "g"; repeat ((first | rw [gl1]); walk_at "g")))

section
variable {P : Program} {w : World} {K : PySem.W.Frag} {mg : Str → Option Value} {base : Heap}

abbrev s__law_pen : Stmt := top 9
abbrev N_s__law_pen : List Str := ["_law_script"]
abbrev s__law_draw : Stmt := top 10
abbrev N_s__law_draw : List Str := ["_law_pen_here", "_law_many", "_law_digit", "_law_at", "_law_cell", "_law_mixed"]
end
end K01
namespace K01
open PySem PySem.Spec PyProof.Rows L2 DL

local macro_rules | `(tactic| walk_at "dl") => `(tactic| with_reducible conv => whnf)
local macro_rules | `(tactic| walk_at "pen") => `(tactic| (walk_at "dl"; repeat (first | rw [mset_same] | rw [pen_cells] | rw [pen_at] | rw [pen_left] | rw [penN_at, penD_at] | rw [penN_left, penD_left]); walk_at "dl"))
local macro_rules | `(tactic| walk_at "c") => `(tactic| (refine And.intro (by first | decide | assumption | omega | rfl | (show 1 ≤ sizeLine; decide) | (show 2 ≤ sizeLine; decide) | (show 3 ≤ sizeLine; decide) | (show 4 ≤ sizeLine; decide) | (show 5 ≤ sizeLine; decide) | (show 6 ≤ sizeLine; decide) | (show 7 ≤ sizeLine; decide)) ?_; walk_at "dl"))
local macro_rules | `(tactic| walk_at "q") => `(tactic| (refine And.intro (by first | assumption | exact okEq_flat rfl | exact okEq_flat (by decide +kernel) | exact okEq_word _) (And.intro (by first | assumption | exact okEq_flat rfl | exact okEq_flat (by decide +kernel) | exact okEq_word _) ?_); walk_at "dl"; try (first | rw [deq_int] | rw [deq_NI] | rw [deq_IN] | rw [deq_NN] | (rw [deq_str, lit_beq]; conv in (_ == _) => simp only [String.reduceBEq]) | rw [deq_str] | (conv in deq _ _ => simp only [String.reduceBEq, deq_bf, deq_bt])); walk_at "dl"))
local macro_rules | `(tactic| walk_at "in") => `(tactic| (refine And.intro rfl (And.intro rfl ?_); walk_at "dl"; (conv in inF _ _ => simp only [inF_cons, inF_nil, eqF_lit, String.reduceBEq, Bool.or_false, Bool.or_true, Bool.false_or, Bool.true_or]); walk_at "dl"))
local macro_rules | `(tactic| walk_at "sf") => `(tactic| (refine Exists.intro (ShF.mk _ _ _ _ _ _) (And.intro (Or.inl (And.intro rfl (ShAt.ha (by assumption)))) ?_); walk_at "dl"))
local macro_rules | `(tactic| walk_at "ww") => `(tactic| (refine Exists.intro _ (And.intro rfl ?_); walk_at "dl"))
local macro_rules | `(tactic| walk_at "wa") => `(tactic| (refine Exists.intro _ (And.intro rfl ?_); walk_at "a"))
local macro_rules | `(tactic| walk_at "ev") => `(tactic| (conv in (occs := 1) wipeD _ _ => simp only [wipeD, unw, put, look, ownIx, List.map]))
local macro_rules | `(tactic| walk_at "no") => `(tactic| (refine And.intro (by simp only [List.all_cons, List.all_nil, Bool.and_true, Bool.and_self, ownIx, List.map, look, put, unw]; first | done | rfl | assumption | simp only [*, Bool.and_self, Bool.and_true, notOwn] | (simp only [*, Bool.and_self, Bool.and_true, notOwn]; rfl)) ?_; walk_at "ev"))
local macro_rules | `(tactic| walk_at "a") => `(tactic| (walk_at "dl"; repeat (first | walk_at "in" | walk_at "q" | walk_at "c")))
local macro_rules | `(tactic| walk_at "ai") => `(tactic| (walk_at "a"; repeat ((first | rw [atI_zero] | rw [atI_one] | rw [atI_two]); walk_at "a")))
local macro_rules | `(tactic| walk_at "b") => `(tactic| (walk_at "dl"; repeat (first | ((with_reducible show _ ∧ _); first | walk_at "in" | walk_at "q" | walk_at "c") | (rw [Bool.not_true]; walk_at "dl") | (rw [Bool.not_false]; walk_at "dl"))))
local macro_rules | `(tactic| walk_at "g") => `(tactic| (walk_at "b"; repeat ((first | rw [gb0] | rw [gu1] | rw [gm2] | rw [gm3]); walk_at "b")))
local macro_rules | `(tactic| walk_at "h") => `(tactic| (walk_at "g"; repeat ((first | rw [gl1]); walk_at "g")))

section
variable {P : Program} {w : World} {K : PySem.W.Frag} {mg : Str → Option Value} {base : Heap}

local macro_rules | `(tactic| walk_at "tail") => `(tactic| (walk_at "c"; refine ⟨mulW (by omega) (by decide), ?_⟩; walk_at "dl"; refine ⟨mulW (by decide) (by omega), ?_⟩; walk_at "dl"; refine ⟨mulW (by omega) (by omega), ?_⟩; walk_at "dl"; refine ⟨mulW (by decide) (by omega), ?_⟩; walk_at "dl"; walk_at "c"; refine ⟨mulW (by omega) (by omega), ?_⟩; walk_at "dl"; walk_at "c"; refine ⟨mulW (by omega) (by omega), ?_⟩; walk_at "dl"; walk_at "c"; refine ⟨wide_div (b := 64) (by decide) (by decide) (by decide) (by decide), ?_⟩; walk_at "dl"; refine ⟨by assumption, ?_⟩; walk_at "dl"))
abbrev s__law_pick : Stmt := top 11
abbrev N_s__law_pick : List Str := ["_law_pen_here", "_law_items"]
abbrev s_BadText___init__ : Stmt := inClass (top 2) 0
abbrev N_s_BadText___init__ : List Str := ["self", "line", "place", "__class__"]
abbrev s_BadName___init__ : Stmt := inClass (top 3) 0
abbrev N_s_BadName___init__ : List Str := ["self", "name", "__class__"]
abbrev s_TooMany___init__ : Stmt := inClass (top 4) 0
abbrev N_s_TooMany___init__ : List Str := ["self", "what", "__class__"]
abbrev s_NotKept___init__ : Stmt := inClass (top 5) 0
abbrev N_s_NotKept___init__ : List Str := ["self", "guard", "__class__"]
abbrev s_NothingLeft___init__ : Stmt := inClass (top 6) 0
abbrev N_s_NothingLeft___init__ : List Str := ["self", "__class__"]
abbrev s_Busy___init__ : Stmt := inClass (top 7) 0
abbrev N_s_Busy___init__ : List Str := ["self", "__class__"]
abbrev s__law_raise : Stmt := top 12
abbrev N_s__law_raise : List Str := ["_law_k", "_law_a", "_law_b"]
abbrev s__law_named : Stmt := top 13
abbrev N_s__law_named : List Str := ["_law_k", "_law_a", "_law_b"]
abbrev s__law_kinds : Stmt := top 14
abbrev N_s__law_kinds : List Str := ["_law_e", "_law_found"]
abbrev s__law_fields : Stmt := top 15
abbrev N_s__law_fields : List Str := ["_law_k", "_law_e"]
abbrev s__law_caught : Stmt := top 16
abbrev N_s__law_caught : List Str := ["_law_k", "_law_a", "_law_b", "_law_e"]
abbrev s_law : Stmt := top 17
abbrev N_s_law : List Str := ["_law_script", "_law_pen_here", "_law_turn", "_law_k", "_law_digit", "_law_a", "_law_b", "_law_due", "_law_j"]
end
end K01
namespace K01
open PySem PySem.Spec PyProof.Rows L2 DL

local macro_rules | `(tactic| walk_at "dl") => `(tactic| with_reducible conv => whnf)
local macro_rules | `(tactic| walk_at "pen") => `(tactic| (walk_at "dl"; repeat (first | rw [mset_same] | rw [pen_cells] | rw [pen_at] | rw [pen_left] | rw [penN_at, penD_at] | rw [penN_left, penD_left]); walk_at "dl"))
local macro_rules | `(tactic| walk_at "c") => `(tactic| (refine And.intro (by first | decide | assumption | omega | rfl | (show 1 ≤ sizeLine; decide) | (show 2 ≤ sizeLine; decide) | (show 3 ≤ sizeLine; decide) | (show 4 ≤ sizeLine; decide) | (show 5 ≤ sizeLine; decide) | (show 6 ≤ sizeLine; decide) | (show 7 ≤ sizeLine; decide)) ?_; walk_at "dl"))
local macro_rules | `(tactic| walk_at "q") => `(tactic| (refine And.intro (by first | assumption | exact okEq_flat rfl | exact okEq_flat (by decide +kernel) | exact okEq_word _) (And.intro (by first | assumption | exact okEq_flat rfl | exact okEq_flat (by decide +kernel) | exact okEq_word _) ?_); walk_at "dl"; try (first | rw [deq_int] | rw [deq_NI] | rw [deq_IN] | rw [deq_NN] | (rw [deq_str, lit_beq]; conv in (_ == _) => simp only [String.reduceBEq]) | rw [deq_str] | (conv in deq _ _ => simp only [String.reduceBEq, deq_bf, deq_bt])); walk_at "dl"))
local macro_rules | `(tactic| walk_at "in") => `(tactic| (refine And.intro rfl (And.intro rfl ?_); walk_at "dl"; (conv in inF _ _ => simp only [inF_cons, inF_nil, eqF_lit, String.reduceBEq, Bool.or_false, Bool.or_true, Bool.false_or, Bool.true_or]); walk_at "dl"))
local macro_rules | `(tactic| walk_at "sf") => `(tactic| (refine Exists.intro (ShF.mk _ _ _ _ _ _) (And.intro (Or.inl (And.intro rfl (ShAt.ha (by assumption)))) ?_); walk_at "dl"))
local macro_rules | `(tactic| walk_at "ww") => `(tactic| (refine Exists.intro _ (And.intro rfl ?_); walk_at "dl"))
local macro_rules | `(tactic| walk_at "wa") => `(tactic| (refine Exists.intro _ (And.intro rfl ?_); walk_at "a"))
local macro_rules | `(tactic| walk_at "ev") => `(tactic| (conv in (occs := 1) wipeD _ _ => simp only [wipeD, unw, put, look, ownIx, List.map]))
local macro_rules | `(tactic| walk_at "no") => `(tactic| (refine And.intro (by simp only [List.all_cons, List.all_nil, Bool.and_true, Bool.and_self, ownIx, List.map, look, put, unw]; first | done | rfl | assumption | simp only [*, Bool.and_self, Bool.and_true, notOwn] | (simp only [*, Bool.and_self, Bool.and_true, notOwn]; rfl)) ?_; walk_at "ev"))
local macro_rules | `(tactic| walk_at "a") => `(tactic| (walk_at "dl"; repeat (first | walk_at "in" | walk_at "q" | walk_at "c")))
local macro_rules | `(tactic| walk_at "ai") => `(tactic| (walk_at "a"; repeat ((first | rw [atI_zero] | rw [atI_one] | rw [atI_two]); walk_at "a")))
local macro_rules | `(tactic| walk_at "b") => `(tactic| (walk_at "dl"; repeat (first | ((with_reducible show _ ∧ _); first | walk_at "in" | walk_at "q" | walk_at "c") | (rw [Bool.not_true]; walk_at "dl") | (rw [Bool.not_false]; walk_at "dl"))))
local macro_rules | `(tactic| walk_at "g") => `(tactic| (walk_at "b"; repeat ((first | rw [gb0] | rw [gu1] | rw [gm2] | rw [gm3]); walk_at "b")))
local macro_rules | `(tactic| walk_at "h") => `(tactic| (walk_at "g"; repeat ((first | rw [gl1]); walk_at "g")))

set_option maxHeartbeats 0
def d__law_pen : He.DefD := ⟨("_law_pen", none), "_law_pen", "_law_pen", defArgs s__law_pen, defBody s__law_pen, defScope s__law_pen, [], []⟩
def d__law_draw : He.DefD := ⟨("_law_draw", none), "_law_draw", "_law_draw", defArgs s__law_draw, defBody s__law_draw, defScope s__law_draw, [], []⟩
def d__law_pick : He.DefD := ⟨("_law_pick", none), "_law_pick", "_law_pick", defArgs s__law_pick, defBody s__law_pick, defScope s__law_pick, [], []⟩
def d__law_raise : He.DefD := ⟨("_law_raise", none), "_law_raise", "_law_raise", defArgs s__law_raise, defBody s__law_raise, defScope s__law_raise, [], []⟩
def d__law_named : He.DefD := ⟨("_law_named", none), "_law_named", "_law_named", defArgs s__law_named, defBody s__law_named, defScope s__law_named, [], []⟩
def d__law_kinds : He.DefD := ⟨("_law_kinds", none), "_law_kinds", "_law_kinds", defArgs s__law_kinds, defBody s__law_kinds, defScope s__law_kinds, [], []⟩
def d__law_fields : He.DefD := ⟨("_law_fields", none), "_law_fields", "_law_fields", defArgs s__law_fields, defBody s__law_fields, defScope s__law_fields, [], []⟩
def d__law_caught : He.DefD := ⟨("_law_caught", none), "_law_caught", "_law_caught", defArgs s__law_caught, defBody s__law_caught, defScope s__law_caught, [], []⟩
def d_law : He.DefD := ⟨("law", none), "law", "law", defArgs s_law, defBody s_law, defScope s_law, [], []⟩
def d_BadText___init__ : He.DefD := ⟨("BadText", some "__init__"), "__init__", "BadText.__init__", defArgs s_BadText___init__, defBody s_BadText___init__, defScope s_BadText___init__, [], []⟩
def d_BadName___init__ : He.DefD := ⟨("BadName", some "__init__"), "__init__", "BadName.__init__", defArgs s_BadName___init__, defBody s_BadName___init__, defScope s_BadName___init__, [], []⟩
def d_TooMany___init__ : He.DefD := ⟨("TooMany", some "__init__"), "__init__", "TooMany.__init__", defArgs s_TooMany___init__, defBody s_TooMany___init__, defScope s_TooMany___init__, [], []⟩
def d_NotKept___init__ : He.DefD := ⟨("NotKept", some "__init__"), "__init__", "NotKept.__init__", defArgs s_NotKept___init__, defBody s_NotKept___init__, defScope s_NotKept___init__, [], []⟩
def d_NothingLeft___init__ : He.DefD := ⟨("NothingLeft", some "__init__"), "__init__", "NothingLeft.__init__", defArgs s_NothingLeft___init__, defBody s_NothingLeft___init__, defScope s_NothingLeft___init__, [], []⟩
def d_Busy___init__ : He.DefD := ⟨("Busy", some "__init__"), "__init__", "Busy.__init__", defArgs s_Busy___init__, defBody s_Busy___init__, defScope s_Busy___init__, [], []⟩
def fn : List He.DefD := [d__law_pen, d__law_draw, d__law_pick, d__law_raise, d__law_named, d__law_kinds, d__law_fields, d__law_caught, d_law]
def sn : List He.DefD := [d_BadText___init__, d_BadName___init__, d_TooMany___init__, d_NotKept___init__, d_NothingLeft___init__, d_Busy___init__]
def snw : List He.DefD := []
def fa : List He.Fa := [.glo "_law_pen", .glo "_law_draw", .glo "_law_pick", .glo "_law_raise", .glo "_law_named", .glo "_law_kinds", .glo "_law_fields", .glo "_law_caught", .glo "law", .free "len", .free "int", .free "list", .free "range", .free "min", .free "max", .free "sum", .free "isinstance", .free "tuple", .free "set", .free "sorted"]
def fa2 : List He.Fa := [.free "str", .free "enumerate", .free "reversed", .free "all", .free "any", .free "divmod", .free "dict", .free "super", .free "iter", .free "zip", .free "bool", .free "abs", .free "type", .glo "BadText", .glo "BadName", .glo "TooMany", .glo "NotKept", .glo "NothingLeft", .glo "Busy", .glo "WayError", .free "ValueError"]
def cs : List He5.DefA := []
def as : List Addr := [3, 2, 6, 4, 24, 46, 67, 88, 109, 130, 151, 160, 167, 174, 181, 188, 195, 202, 209, 214, 0, 23, 45, 66, 87, 108, 129, 150, 159, 166, 173, 180, 187, 194, 201, 208, 213, 22, 25, 43, 44, 64, 65, 85, 86, 106, 107, 127, 128, 148, 149, 154, 155, 156, 157, 158, 161, 162, 163, 164, 165, 168, 169, 170, 171, 172, 175, 176, 177, 178, 179, 182, 183, 184, 185, 186, 189, 190, 191, 192, 193, 196, 197, 198, 199, 200, 203, 204, 205, 206, 207, 210, 211, 212, 42, 31, 63, 52, 84, 73] ++
  [105, 94, 126, 115, 147, 136, 37, 38, 39, 40, 41, 58, 59, 60, 61, 62, 79, 80, 81, 82, 83, 100, 101, 102, 103, 104, 121, 122, 123, 124, 125, 142, 143, 144, 145, 146]
def way0 (K : PySem.W.Frag) : Addr := He.fAd K ("Way", some "__init__")
def ex (K : PySem.W.Frag) : Bool := (snw.all fun d => supB PySem.Challenge.pw_waystaken_k01_errors.main.file K d && baseB K (He.ga K d.at_.1) (way0 K)) && (exB PySem.Challenge.pw_waystaken_k01_errors.main.file K d_BadText___init__ ["line", "place"] && (exmB K "BadText" "BadText" && (kitB K "BadText" "WayError" && (exB PySem.Challenge.pw_waystaken_k01_errors.main.file K d_BadName___init__ ["name"] && (exmB K "BadName" "BadName" && (kitB K "BadName" "WayError" && (exB PySem.Challenge.pw_waystaken_k01_errors.main.file K d_TooMany___init__ ["what"] && (exmB K "TooMany" "TooMany" && (kitB K "TooMany" "WayError" && (exB PySem.Challenge.pw_waystaken_k01_errors.main.file K d_NotKept___init__ ["guard"] && (exmB K "NotKept" "NotKept" && (kitB K "NotKept" "WayError" && (exB PySem.Challenge.pw_waystaken_k01_errors.main.file K d_NothingLeft___init__ [] && (exmB K "NothingLeft" "NothingLeft" && (kitB K "NothingLeft" "WayError" && (exB PySem.Challenge.pw_waystaken_k01_errors.main.file K d_Busy___init__ [] && (exmB K "Busy" "Busy" && (kitB K "Busy" "WayError" && (ecB K && (true))))))))))))))))))))
def loose : List Str := ([("WayError" : Str), ("BadText" : Str), ("BadName" : Str), ("TooMany" : Str), ("NotKept" : Str), ("NothingLeft" : Str), ("Busy" : Str), ("_law_pen" : Str), ("_law_draw" : Str), ("_law_pick" : Str), ("_law_raise" : Str), ("_law_named" : Str), ("_law_kinds" : Str), ("_law_fields" : Str), ("_law_caught" : Str)] : List Str)
def ts : List He.Tab := []
abbrev R : PySem.W.OpenRow := PySem.W.OpenLaw.row PySem.Challenge.rw_waystaken_k01_errors
abbrev hk : PySem.W.Hook := hookP as fa fa2 fn sn ex cs ts
def ob (s : PySem.W.SharedT) : AlP := obsP as fa fa2 fn sn ex cs ts (HandSHeadRun.getT s)
theorem ob_eq (s : PySem.W.SharedT) : ob s = hk.obs s.abs := obsP_eq (HandSHeadRun.getT_eq s)
theorem runA0 (w : World) : RunA R (PySem.W.view R.prog [17]) 20000 loose (w.withFollow "special-get-raises" false) := by
  intro os
  kernel_rfl
theorem runP0 (w : World) : RunP R (fun g => (oFa as fa g, (oFa as fa2 g, oFn as fn g))) (true, (true, true)) 20000 (w.withFollow "special-get-raises" false) := by
  intro os
  kernel_rfl
theorem runQ0 (w : World) : RunP R (fun g => (oEx as ex g, oVal as fn sn g)) (true, (fn.map He.DefD.val, sn.map valY)) 20000 (w.withFollow "special-get-raises" false) := by
  intro os
  kernel_rfl
theorem runR0 (w : World) : RunP R (oCs as cs ts) (cs.map He5.DefA.val, ts.map fun t => some (He.keysIn (w.withFollow "special-get-raises" false).params t.2)) 20000 (w.withFollow "special-get-raises" false) := by
  intro os
  kernel_rfl
theorem runB0 (w : World) : RunB R hk ob 20000 (w.withFollow "special-get-raises" false) := runB_of (runP0 w) (runQ0 w) (runR0 w)
theorem runA1 (w : World) : RunA R (PySem.W.view R.prog [17]) 20000 loose (w.withFollow "special-get-raises" true) := by
  intro os
  kernel_rfl
theorem runP1 (w : World) : RunP R (fun g => (oFa as fa g, (oFa as fa2 g, oFn as fn g))) (true, (true, true)) 20000 (w.withFollow "special-get-raises" true) := by
  intro os
  kernel_rfl
theorem runQ1 (w : World) : RunP R (fun g => (oEx as ex g, oVal as fn sn g)) (true, (fn.map He.DefD.val, sn.map valY)) 20000 (w.withFollow "special-get-raises" true) := by
  intro os
  kernel_rfl
theorem runR1 (w : World) : RunP R (oCs as cs ts) (cs.map He5.DefA.val, ts.map fun t => some (He.keysIn (w.withFollow "special-get-raises" true).params t.2)) 20000 (w.withFollow "special-get-raises" true) := by
  intro os
  kernel_rfl
theorem runB1 (w : World) : RunB R hk ob 20000 (w.withFollow "special-get-raises" true) := runB_of (runP1 w) (runQ1 w) (runR1 w)
theorem run0 (w : World) : HandSHeadRun.RunEq R (PySem.W.view R.prog [17]) hk ob 20000 loose (w.withFollow "special-get-raises" false) := run_ab (runA0 w) (runB0 w)
theorem run1 (w : World) : HandSHeadRun.RunEq R (PySem.W.view R.prog [17]) hk ob 20000 loose (w.withFollow "special-get-raises" true) := run_ab (runA1 w) (runB1 w)
end K01
set_option Elab.async false
set_option linter.all false
set_option maxRecDepth 100000
set_option maxHeartbeats 1000000
/-! DL1: values as trees (D), what is mutable (Mem), the slots of a def (Sl); readings over these, lifted to the hand layer's. -/
namespace DL
open PySem PySem.Spec PyProof.Rows L2


section
variable {K : PySem.W.Frag} {S S' : Hp}
theorem Reps.append : ∀ {ds es : List D} {vs us : List V}, Reps K S ds vs → Reps K S es us → Reps K S (ds ++ es) (vs ++ us)
  | [], _, [], _, _, h => h
  | _ :: _, _, _ :: _, _, h, q => ⟨h.1, Reps.append h.2 q⟩
  | [], _, _ :: _, _, h, _ => h.elim
  | _ :: _, _, [], _, h, _ => h.elim
theorem Reps.take : ∀ {ds : List D} {vs : List V} (n : Nat), Reps K S ds vs → Reps K S (ds.take n) (vs.take n)
  | _, _, 0, _ => by rw [List.take_zero, List.take_zero]; trivial
  | [], [], n + 1, _ => trivial
  | _ :: _, _ :: _, n + 1, h => ⟨h.1, Reps.take n h.2⟩
  | [], _ :: _, _ + 1, h => h.elim
  | _ :: _, [], _ + 1, h => h.elim
theorem Reps.drop : ∀ {ds : List D} {vs : List V} (n : Nat), Reps K S ds vs → Reps K S (ds.drop n) (vs.drop n)
  | _, _, 0, h => by rw [List.drop_zero, List.drop_zero]; exact h
  | [], [], n + 1, _ => trivial
  | _ :: _, _ :: _, n + 1, h => Reps.drop n h.2
  | [], _ :: _, _ + 1, h => h.elim
  | _ :: _, [], _ + 1, h => h.elim
theorem Reps.cons_inv {d : D} {ds : List D} {vs : List V} (h : Reps K S (d :: ds) vs) : ∃ v us, vs = v :: us ∧ Rep K S d v ∧ Reps K S ds us := by
  cases vs with
  | nil => exact h.elim
  | cons v r => exact ⟨v, r, rfl, h.1, h.2⟩
theorem Reps.nil_inv {vs : List V} (h : Reps K S [] vs) : vs = [] := by
  cases vs with
  | nil => rfl
  | cons _ _ => exact h.elim
end

theorem mset_ne {M : Mem} {a b : Addr} {o : MO} (h : b ≠ a) : mset M a o b = M b := by unfold mset; rw [if_neg h]
def m0 : Mem := fun _ => none
theorem RelC.sfree {K : PySem.W.Frag} {F S H : Hp} {M : Mem} (R : RelC K F S H M) {p : Addr} (h : H p = none) : S p = none := R.same.free h
theorem RelC.ffree {K : PySem.W.Frag} {F S H : Hp} {M : Mem} (R : RelC K F S H M) {p : Addr} (h : H p = none) : F p = none := by
  cases e : F p with
  | none => rfl
  | some o => rw [(R.fr p o e).1] at h; cases h
theorem RelC.mfree {K : PySem.W.Frag} {F S H : Hp} {M : Mem} (R : RelC K F S H M) {p : Addr} (h : H p = none) : M p = none := by
  cases e : M p with
  | none => rfl
  | some o =>
    obtain ⟨u, q⟩ := (R.mem p o e).2.some
    rw [q] at h
    cases h

theorem put_length (x : Sl) : ∀ (e : Ev) (i : Nat), (put e i x).length = e.length
  | [], _ => rfl
  | _ :: _, 0 => rfl
  | _ :: r, n + 1 => congrArg Nat.succ (put_length x r n)
theorem look_put_same {x : Sl} : ∀ {e : Ev} {i : Nat}, i < e.length → look (put e i x) i = x
  | [], _, h => absurd h (Nat.not_lt_zero _)
  | _ :: _, 0, _ => rfl
  | _ :: r, n + 1, h => look_put_same (e := r) (Nat.lt_of_succ_lt_succ h)
theorem look_put_ne {x : Sl} : ∀ {e : Ev} {i j : Nat}, i ≠ j → look (put e i x) j = look e j
  | [], _, _, _ => rfl
  | _ :: _, 0, 0, h => absurd rfl h
  | _ :: _, 0, _ + 1, _ => rfl
  | _ :: _, _ + 1, 0, _ => rfl
  | _ :: r, n + 1, m + 1, h => look_put_ne (e := r) (fun q => h (congrArg Nat.succ q))
theorem look_lt : ∀ {e : Ev} {i : Nat} {s : Sl}, look e i = s → s ≠ .no → i < e.length
  | [], _, _, h, n => absurd h.symm n
  | _ :: _, 0, _, _, _ => Nat.succ_pos _
  | _ :: r, n + 1, _, h, q => Nat.succ_lt_succ (look_lt (e := r) h q)

theorem GhOk.add [Gh] {F S : Hp} {a : Addr} {o : HO} (g : GhOk F S) (h : F a = none) : GhOk (upd F a o) S := ⟨fun b u e => by
  have q := g.f b u e
  rw [upd_ne (fun z => by rw [z, h] at q; cases q)]; exact q, g.s⟩
theorem GhOk.drop [Gh] {F S : Hp} {a : Addr} {o : HO} (g : GhOk (upd F a o) S) (h : Gh.f a = none) : GhOk F S := ⟨fun b u e => by
  have q := g.f b u e
  rw [upd_ne (fun z => by rw [z, h] at e; cases e)] at q; exact q, g.s⟩
theorem ghOk0 {F S : Hp} : @GhOk gh0 F S := @GhOk.mk gh0 F S (fun _ _ e => by cases e) (fun _ _ e => by cases e)

/-- the abstract heap grows by a thing that never changes -/
theorem RelC.new {K : PySem.W.Frag} {F S H : Hp} {M : Mem} (R : RelC K F S H M) {p : Addr} {o : HO} (h : H p = none) : RelC K F (upd S p o) (upd H p o) M ∧ Same S (upd S p o) := by
  have sp := R.sfree h
  have fp := R.ffree h
  have mp := R.mfree h
  have ss : Same S (upd S p o) := fun b u e => by rw [upd_ne (fun z => by rw [z, sp] at e; cases e)]; exact e
  refine ⟨⟨fun b u e => ?_, fun b u e => ?_, fun b u e => ?_⟩, ss⟩
  · by_cases hb : b = p
    · subst hb; rw [upd_same] at e ⊢; exact e
    · rw [upd_ne hb] at e ⊢; exact R.same b u e
  · have hb : b ≠ p := fun z => by rw [z, fp] at e; cases e
    rw [upd_ne hb, upd_ne hb]
    exact R.fr b u e
  · have hb : b ≠ p := fun z => by rw [z, mp] at e; cases e
    rw [upd_ne hb]
    exact ⟨(R.mem b u e).1, (R.mem b u e).2.mono ss (upd_ne hb)⟩
theorem RelC.newM {K : PySem.W.Frag} {F S H : Hp} {M : Mem} (R : RelC K F S H M) {p : Addr} {o : HO} {m : MO} (h : H p = none) (hm : MOk K S (upd H p o) p m) : RelC K F S (upd H p o) (mset M p m) := by
  have sp := R.sfree h
  have fp := R.ffree h
  refine ⟨fun b u e => ?_, fun b u e => ?_, fun b u e => ?_⟩
  · rw [upd_ne (fun z => by rw [z, sp] at e; cases e)]; exact R.same b u e
  · have hb : b ≠ p := fun z => by rw [z, fp] at e; cases e
    rw [upd_ne hb, mset_ne hb]
    exact R.fr b u e
  · by_cases hb : b = p
    · subst hb
      rw [mset_same] at e
      cases e
      exact ⟨sp, hm⟩
    · rw [mset_ne hb] at e
      exact ⟨(R.mem b u e).1, (R.mem b u e).2.mono (Same.refl _) (upd_ne hb)⟩
/-- a mutable thing changes -/
theorem RelC.setM {K : PySem.W.Frag} {F S H : Hp} {M : Mem} (R : RelC K F S H M) {p : Addr} {o : HO} {m m' : MO} (h : M p = some m) (hm : MOk K S (upd H p o) p m') : RelC K F S (upd H p o) (mset M p m') := by
  have sp := (R.mem p m h).1
  refine ⟨fun b u e => ?_, fun b u e => ?_, fun b u e => ?_⟩
  · rw [upd_ne (fun z => by rw [z, sp] at e; cases e)]; exact R.same b u e
  · have hb : b ≠ p := fun z => by rw [z] at e; rw [(R.fr p u e).2.2] at h; cases h
    rw [upd_ne hb, mset_ne hb]
    exact R.fr b u e
  · by_cases hb : b = p
    · subst hb
      rw [mset_same] at e
      cases e
      exact ⟨sp, hm⟩
    · rw [mset_ne hb] at e
      exact ⟨(R.mem b u e).1, (R.mem b u e).2.mono (Same.refl _) (upd_ne hb)⟩

variable [Gh]
section
variable {K : PySem.W.Frag} {F S H : Hp} {M : Mem} {σ : L2.St} {env : Ev}
theorem Rel.ownNe (R : Rel K F S σ H env M) {i : Nat} {a p : Addr} (e : σ[i]? = some (some (.ref a))) (h : ∃ ds, look env i = .own ds) (hp : H p = none) : a ≠ p := by
  obtain ⟨ds, h⟩ := h
  obtain ⟨b, xs, e1, e2, _⟩ := R.own i ds h
  rw [e] at e1
  cases e1
  exact ne_of_none e2 hp
theorem Rel.new (R : Rel K F S σ H env M) {p : Addr} {o : HO} (h : H p = none) : Rel K F (upd S p o) σ (upd H p o) env M ∧ Same S (upd S p o) := by
  obtain ⟨c, ss⟩ := R.c.new (o := o) h
  refine ⟨R.grow c ss fun i a e hi => ?_, ss⟩
  have n := R.ownNe e hi h
  obtain ⟨ds, hi⟩ := hi
  obtain ⟨b, xs, e1, e2, e3, e4, _⟩ := R.own i ds hi
  rw [e] at e1
  cases e1
  exact ⟨upd_ne n, by rw [upd_ne n]; exact e3, e4⟩
theorem Rel.newM (R : Rel K F S σ H env M) {p : Addr} {o : HO} {m : MO} (h : H p = none) (hm : MOk K S (upd H p o) p m) : Rel K F S σ (upd H p o) env (mset M p m) := by
  refine R.grow (R.c.newM h hm) (Same.refl _) fun i a e hi => ?_
  have n := R.ownNe e hi h
  obtain ⟨ds, hi⟩ := hi
  obtain ⟨b, xs, e1, e2, e3, e4, _⟩ := R.own i ds hi
  rw [e] at e1
  cases e1
  exact ⟨upd_ne n, e3, by rw [mset_ne n]; exact e4⟩
theorem Rel.setM (R : Rel K F S σ H env M) {p : Addr} {o : HO} {m m' : MO} (h : M p = some m) (hm : MOk K S (upd H p o) p m') : Rel K F S σ (upd H p o) env (mset M p m') := by
  refine R.grow (R.c.setM h hm) (Same.refl _) fun i a e hi => ?_
  obtain ⟨ds, hi⟩ := hi
  obtain ⟨b, xs, e1, e2, e3, e4, _⟩ := R.own i ds hi
  rw [e] at e1
  cases e1
  have n : a ≠ p := fun z => by rw [z, h] at e4; cases e4
  exact ⟨upd_ne n, e3, by rw [mset_ne n]; exact e4⟩
/-- a slot gets a value -/
theorem Rel.store (R : Rel K F S σ H env M) {i : Nat} {d : D} {v : V} (r : Rep K S d v) : Rel K F S (σ.set i (some v)) H (put env i (.val d)) M := by
  refine ⟨R.c, by rw [put_length, List.length_set]; exact R.len, fun j e q => ?_, fun j ds q => ?_, fun j k a ds es n q1 q2 e => ?_, R.g⟩
  · by_cases h : i = j
    · subst h
      have hi : i < env.length := by have := look_lt q (fun z => by cases z); rwa [put_length] at this
      rw [look_put_same hi] at q
      cases q
      exact ⟨v, by rw [List.getElem?_set_self (by rw [← R.len]; exact hi)], r⟩
    · rw [look_put_ne h] at q
      obtain ⟨u, e1, r1⟩ := R.val j e q
      exact ⟨u, by rw [List.getElem?_set_ne h]; exact e1, r1⟩
  · by_cases h : i = j
    · subst h
      have hi : i < env.length := by have := look_lt q (fun z => by cases z); rwa [put_length] at this
      rw [look_put_same hi] at q
      cases q
    · rw [look_put_ne h] at q
      obtain ⟨a, xs, e1, x⟩ := R.own j ds q
      exact ⟨a, xs, by rw [List.getElem?_set_ne h]; exact e1, x⟩
  · have hj : i ≠ j := fun h => by
      subst h
      have hi : i < env.length := by have := look_lt q1 (fun z => by cases z); rwa [put_length] at this
      rw [look_put_same hi] at q1
      cases q1
    have hk : i ≠ k := fun h => by
      subst h
      have hi : i < env.length := by have := look_lt q2 (fun z => by cases z); rwa [put_length] at this
      rw [look_put_same hi] at q2
      cases q2
    rw [look_put_ne hj] at q1
    rw [look_put_ne hk] at q2
    rw [List.getElem?_set_ne hj] at e
    rw [List.getElem?_set_ne hk]
    exact R.dis j k a ds es n q1 q2 e
/-- a list of one's own is handed out: it never changes from now on -/
theorem Rel.freeze (R : Rel K F S σ H env M) {i : Nat} {ds : List D} (q : look env i = .own ds) : ∃ a xs, σ[i]? = some (some (.ref a)) ∧ H a = some (.lst xs) ∧
    Same S (upd S a (.lst xs)) ∧ Rel K F (upd S a (.lst xs)) σ H (put env i (.val (.lst ds))) M ∧ Rep K (upd S a (.lst xs)) (.lst ds) (.ref a) := by
  obtain ⟨a, xs, e1, e2, e3, e4, e5, r⟩ := R.own i ds q
  have hi : i < env.length := look_lt q (fun z => by cases z)
  have ss : Same S (upd S a (.lst xs)) := fun b u e => by rw [upd_ne (fun z => by rw [z, e3] at e; cases e)]; exact e
  have rp : Rep K (upd S a (.lst xs)) (.lst ds) (.ref a) := ⟨a, xs, rfl, upd_same, r.mono ss⟩
  refine ⟨a, xs, e1, e2, ss, ⟨⟨fun b u e => ?_, fun b u e => ?_, fun b u e => ?_⟩, by rw [put_length]; exact R.len, fun j e q' => ?_, fun j es q' => ?_, fun j k b es fs n q1 q2 e => ?_, R.g.up ss⟩, rp⟩
  · by_cases hb : b = a
    · subst hb; rw [upd_same] at e; cases e; exact e2
    · rw [upd_ne hb] at e; exact R.c.same b u e
  · have hb : b ≠ a := fun z => by rw [z, e5] at e; cases e
    rw [upd_ne hb]
    exact R.c.fr b u e
  · have hb : b ≠ a := fun z => by rw [z, e4] at e; cases e
    rw [upd_ne hb]
    exact ⟨(R.c.mem b u e).1, (R.c.mem b u e).2.mono ss rfl⟩
  · by_cases h : i = j
    · subst h
      rw [look_put_same hi] at q'
      cases q'
      exact ⟨_, e1, rp⟩
    · rw [look_put_ne h] at q'
      obtain ⟨u, e', r1⟩ := R.val j e q'
      exact ⟨u, e', r1.mono ss⟩
  · by_cases h : i = j
    · subst h
      rw [look_put_same hi] at q'
      cases q'
    · rw [look_put_ne h] at q'
      obtain ⟨b, ys, f1, f2, f3, f4, f5, r1⟩ := R.own j es q'
      have hb : b ≠ a := fun z => by rw [z] at f1; exact R.dis i j a ds es h q q' e1 f1
      exact ⟨b, ys, f1, f2, by rw [upd_ne hb]; exact f3, f4, f5, r1.mono ss⟩
  · have hj : i ≠ j := fun h => by
      subst h
      rw [look_put_same hi] at q1
      cases q1
    have hk : i ≠ k := fun h => by
      subst h
      rw [look_put_same hi] at q2
      cases q2
    rw [look_put_ne hj] at q1
    rw [look_put_ne hk] at q2
    exact R.dis j k b es fs n q1 q2 e
end

theorem nb_eq (b : Bool) : nb b = !b := by cases b <;> rfl

/-! ### lifted readings -/
abbrev DT := Ev → Mem → KD → Prop
def LE (K : PySem.W.Frag) (t : DT) : TE := fun σ H Q => ∃ F S env M Qd, Rel K F S σ H env M ∧ t env M Qd ∧ PostE K F S σ Qd Q
theorem pe_imp {X : Cx} {e : Expr} {t t' : TE} (h : PE X e t) (i : ∀ σ H Q, t' σ H Q → t σ H Q) : PE X e t' := ⟨fun pins s σ H Q I q => h.run pins s σ H Q I (i σ H Q q)⟩
theorem ps_imp {X : Cx} {e : Stmt} {t t' : TS} (h : PS X e t) (i : ∀ D σ H, t' D σ H → t D σ H) : PS X e t' := ⟨fun pins s σ H D I q => h.run pins s σ H D I (i D σ H q)⟩
theorem pss_imp {X : Cx} {e : List Stmt} {t t' : TS} (h : PSs X e t) (i : ∀ D σ H, t' D σ H → t D σ H) : PSs X e t' := ⟨fun pins s σ H D I q => h.run pins s σ H D I (i D σ H q)⟩
theorem pt_imp {X : Cx} {e : Expr} {t t' : TT} (h : PT X e t) (i : ∀ σ H Q, t' σ H Q → t σ H Q) : PT X e t' := ⟨fun pins s σ H Q I q => h.run pins s σ H Q I (i σ H Q q)⟩
theorem pw_imp {X : Cx} {e : Expr} {t t' : TT} (h : PW X e t) (i : ∀ σ H Q, t' σ H Q → t σ H Q) : PW X e t' := ⟨fun wh pins s σ H Q I q => h.run wh pins s σ H Q I (i σ H Q q)⟩
theorem pa_imp {X : Cx} {e : List Expr} {t t' : TA} (h : PA X e t) (i : ∀ σ H Q, t' σ H Q → t σ H Q) : PA X e t' := ⟨fun pos pins s σ H Q I q => h.run pos pins s σ H Q I (i σ H Q q)⟩
theorem pk_imp {X : Cx} {e : List Keyword} {t t' : TA} (h : PK X e t) (i : ∀ σ H Q, t' σ H Q → t σ H Q) : PK X e t' := ⟨fun pos pins s σ H Q I q => h.run pos pins s σ H Q I (i σ H Q q)⟩
theorem pg_imp {X : Cx} {e : Expr} {t t' : TG} (h : PG X e t) (i : ∀ v σ H Q, t' v σ H Q → t v σ H Q) : PG X e t' := ⟨fun pins s σ H v u Q I r q => h.run pins s σ H v u Q I r (i v σ H Q q)⟩
abbrev DE (X : Cx) (e : Expr) (t : DT) : Prop := PE X e (LE X.K t)

/-- argument lists -/
abbrev KDs := List D → Ev → Mem → Prop
abbrev DTA := Ev → Mem → KDs → Prop
def PostA (K : PySem.W.Frag) (F S : Hp) (σ : L2.St) (Qd : KDs) (Q : List V → Hp → Prop) : Prop :=
  ∀ vs H' S' env' M' ds, Same S S' → Rel K F S' σ H' env' M' → Reps K S' ds vs → Qd ds env' M' → Q vs H'
def LA (K : PySem.W.Frag) (t : DTA) : TA := fun σ H Q => ∃ F S env M Qd, Rel K F S σ H env M ∧ t env M Qd ∧ PostA K F S σ Qd Q
abbrev DA (X : Cx) (es : List Expr) (t : DTA) : Prop := PA X es (LA X.K t)
abbrev DKw (X : Cx) (es : List Keyword) (t : DTA) : Prop := PK X es (LA X.K t)

/-- tests -/
abbrev KB := Bool → Ev → Mem → Prop
abbrev DTT := Ev → Mem → KB → Prop
def PostT (K : PySem.W.Frag) (F S : Hp) (σ : L2.St) (Qd : KB) (Q : Bool → Hp → Prop) : Prop :=
  ∀ b H' S' env' M', Same S S' → Rel K F S' σ H' env' M' → Qd b env' M' → Q b H'
def LT (K : PySem.W.Frag) (t : DTT) : TT := fun σ H Q => ∃ F S env M Qd, Rel K F S σ H env M ∧ t env M Qd ∧ PostT K F S σ Qd Q
abbrev DTst (X : Cx) (e : Expr) (t : DTT) : Prop := PT X e (LT X.K t)
abbrev DW (X : Cx) (e : Expr) (t : DTT) : Prop := PW X e (LT X.K t)

abbrev DTS := DEnds → Ev → Mem → Prop
def LS (K : PySem.W.Frag) (t : DTS) : TS := fun E σ H => ∃ F S env M Ed, Rel K F S σ H env M ∧ t Ed env M ∧ PostS K F S Ed E
abbrev DS (X : Cx) (st : Stmt) (t : DTS) : Prop := PS X st (LS X.K t)
abbrev DSs (X : Cx) (st : List Stmt) (t : DTS) : Prop := PSs X st (LS X.K t)

/-! ### names, constants -/
@[reducible] def dVar (i : Nat) : DT := fun env M Q => match look env i with
  | .val d => Q d env M
  | .own ds => Q (.lst ds) (put env i (.val (.lst ds))) M
  | .no => False
@[reducible] def dC (d : D) : DT := fun env M Q => Q d env M
section
variable {X : Cx}
theorem d_var (i : Nat) {x : Str} {pos : Pos} (hN : X.N[i]? = some x := by rfl) (hv : Vis X.env.scope x := by first | exact Or.inl rfl | exact Or.inr (Or.inl rfl) | exact Or.inr (Or.inr rfl)) (hd : (x == ("__debug__" : Str)) = false := by decide)
    (hcd : (x == ("__classdict__" : Str)) = false := by decide) : DE X (.Name x pos) (dVar i) := by
  refine pe_imp (pv i hN hv hd hcd) fun σ H Q ⟨F, S, env, M, Qd, R, t, p⟩ => ?_
  unfold dVar at t
  cases e : look env i with
  | no => rw [e] at t; exact t.elim
  | val d =>
    rw [e] at t
    obtain ⟨v, e1, r⟩ := R.val i d e
    exact ⟨v, e1, p v H S env M d (Same.refl _) R r t⟩
  | own ds =>
    rw [e] at t
    obtain ⟨a, xs, e1, e2, ss, R', r⟩ := R.freeze e
    exact ⟨_, e1, p _ H _ _ M _ ss R' r t⟩
theorem d_int {i j pos} : DE X (.Constant (.int i) j pos) (dC (.int i)) := pe_imp pe_int fun σ H Q ⟨F, S, env, M, Qd, R, t, p⟩ => p _ H S env M (.int i) (Same.refl _) R rfl t
theorem d_bl {b j pos} : DE X (.Constant (.bool b) j pos) (dC (.bl b)) := pe_imp pe_bl fun σ H Q ⟨F, S, env, M, Qd, R, t, p⟩ => p _ H S env M (.bl b) (Same.refl _) R rfl t
theorem d_str {x j pos} : DE X (.Constant (.str x) j pos) (dC (.str x)) := pe_imp pe_str fun σ H Q ⟨F, S, env, M, Qd, R, t, p⟩ => p _ H S env M (.str x) (Same.refl _) R rfl t
theorem d_globR {x : Str} {a : Addr} {pos : Pos} (hg : Gl X x) (hm : X.mg x = some (.ref a)) (hd : (x == ("__debug__" : Str)) = false := by decide) : DE X (.Name x pos) (dC (.ref a)) :=
  pe_imp (pe_glob (v := .ref a) hg hm rfl hd) fun σ H Q ⟨F, S, env, M, Qd, R, t, p⟩ => p _ H S env M (.ref a) (Same.refl _) R rfl t
/-- a built-in class as a value -/
theorem d_bty {x : Str} {n : String} {pos : Pos} (hg : Gl X x) (hm : X.mg x = none) (hv : bootBuiltins x = some (.type n)) (hn : x ≠ "__name__" := by decide) (hd : (x == ("__debug__" : Str)) = false := by decide) : DE X (.Name x pos) (dC (.ty n)) :=
  pe_imp (pe_bltn (v := .ty n) hg hm hv rfl hn hd) fun σ H Q ⟨F, S, env, M, Qd, R, t, p⟩ => p _ H S env M (.ty n) (Same.refl _) R rfl t
end

/-! ### two-place operations -/
abbrev RD2 := D → D → DT
structure OpD (X : Cx) (f : Value → Value → Sem Value) (rd : RD2) : Prop where
  ex : ∃ r : R2, OpR X f r ∧ ∀ F S σ H env M x y d e Qd Q, Rel X.K F S σ H env M → Rep X.K S d x → Rep X.K S e y → rd d e env M Qd → PostE X.K F S σ Qd Q → r x y H Q
@[reducible] def dBin (rd : RD2) (ta tb : DT) : DT := fun env M Q => ta env M fun d env1 M1 => tb env1 M1 fun e env2 M2 => rd d e env2 M2 Q
section
variable {X : Cx} {a b c : Expr} {ta tb tc : DT} {pos : Pos}
theorem lift2 {r : R2} {rd : RD2} (h : ∀ F S σ H env M x y d e Qd Q, Rel X.K F S σ H env M → Rep X.K S d x → Rep X.K S e y → rd d e env M Qd → PostE X.K F S σ Qd Q → r x y H Q)
    {σ : L2.St} {H : Hp} {Q : VK} (q : LE X.K (dBin rd ta tb) σ H Q) : tOp r (LE X.K ta) (LE X.K tb) σ H Q := by
  obtain ⟨F, S, env, M, Qd, R, t, p⟩ := q
  refine ⟨F, S, env, M, _, R, t, fun v H1 S1 env1 M1 d s1 R1 r1 q1 => ⟨F, S1, env1, M1, _, R1, q1, fun u H2 S2 env2 M2 e s2 R2 r2 q2 => ?_⟩⟩
  exact h F S2 σ H2 env2 M2 v u d e Qd Q R2 (r1.mono s2) r2 q2 (p.up (s1.trans s2))
theorem d_op {op : Operator} {rd : RD2} (ho : OpD X (binaryOp op) rd) (ha : DE X a ta) (hb : DE X b tb) : DE X (.BinOp a op b pos) (dBin rd ta tb) := by
  obtain ⟨r, h1, h2⟩ := ho.ex
  exact pe_imp (pe_op h1 ha hb) fun σ H Q q => lift2 h2 q
theorem d_cmp {op : CmpOp} {rd : RD2} (ho : OpD X (compareOp op) rd) (ha : DE X a ta) (hb : DE X b tb) (hm : behindInMarks op b = false) : DE X (.Compare a [op] [b] pos) (dBin rd ta tb) := by
  obtain ⟨r, h1, h2⟩ := ho.ex
  exact pe_imp (pe_cmpR h1 ha hb hm) fun σ H Q q => lift2 h2 q
/-- a value that is a bool, as a test -/
@[reducible] def dTst (t : DT) : DTT := fun env M Q => t env M fun d env' M' => match d with
  | .bl b => Q b env' M'
  | _ => False
theorem d_tcmp {op : CmpOp} {rd : RD2} (ho : OpD X (compareOp op) rd) (ha : DE X a ta) (hb : DE X b tb) (hm : behindInMarks op b = false) : DTst X (.Compare a [op] [b] pos) (dTst (dBin rd ta tb)) := by
  obtain ⟨r, h1, h2⟩ := ho.ex
  refine pt_imp (pt_cmpR h1 ha hb hm) fun σ H Q ⟨F, S, env, M, Qd, R, t, p⟩ => ?_
  refine lift2 (Q := fun x H' => ∃ k, x = .bl k ∧ Q k H') h2 ⟨F, S, env, M, _, R, t, fun v H' S' env' M' d s' R' r' q' => ?_⟩
  cases d with
  | bl k => exact ⟨k, r', p k H' S' env' M' s' R' q'⟩
  | _ => exact q'.elim
end
end DL
set_option Elab.async false
set_option linter.all false
set_option maxRecDepth 100000
set_option maxHeartbeats 1000000
/-! DL2: operators, comparisons, tests, arguments, displays, subscripts, built-ins. -/
namespace DL
open PySem PySem.Spec PyProof.Rows L2
variable [Gh]

/-! ### data, its equality -/
section
variable {K : PySem.W.Frag} {S : Hp}
mutual
theorem pd_lay : ∀ {d : D}, isData d = true → (pd d).canLay0 = true
  | .non, _ => rfl
  | .bl _, _ => rfl
  | .int _, _ => rfl
  | .str s, h => by
    simp only [isData] at h
    simp only [pd, PyData.canLay0, h]
  | .tup ds, h => by
    simp only [pd, PyData.canLay0]
    exact pds_lay (by simpa [isData] using h)
  | .lst ds, h => by
    simp only [pd, PyData.canLay0]
    exact pds_lay (by simpa [isData] using h)
  | .lstK ds, h => by
    simp only [pd, PyData.canLay0]
    exact pds_lay (by simpa [isData] using h)
  | .ref _, h => by cases h
  | .ty _, h => by cases h
  | .obj _ _ _, h => by cases h
  | .dct _ _ _, h => by cases h
theorem pds_lay : ∀ {ds : List D}, areData ds = true → PyData.canLayAll0 (pds ds) = true
  | [], _ => rfl
  | d :: r, h => by
    have h' := (Bool.and_eq_true_iff.mp (by simpa [areData] using h : (isData d && areData r) = true))
    simp only [pds, PyData.canLayAll0, pd_lay h'.1, pds_lay h'.2, Bool.and_self]
end
mutual
theorem pd_depth : ∀ (d : D), (pd d).depth = depD d
  | .non => rfl
  | .bl _ => rfl
  | .int _ => rfl
  | .str s => rfl
  | .tup ds => by simp only [pd, PyData.depth, depD, pds_depth ds]
  | .lst ds => by simp only [pd, PyData.depth, depD, pds_depth ds]
  | .lstK ds => by simp only [pd, PyData.depth, depD, pds_depth ds]
  | .ref _ => rfl
  | .ty _ => rfl
  | .obj _ _ _ => rfl
  | .dct _ _ _ => rfl
theorem pds_depth : ∀ (ds : List D), PyData.depthAll (pds ds) = depDs ds
  | [] => rfl
  | d :: r => by simp only [pds, PyData.depthAll, depDs, pd_depth d, pds_depth r]
end
mutual
theorem Rep.dp : ∀ {d : D} {v : V}, Rep K S d v → isData d = true → Dp K S v (pd d)
  | .non, _, h, _ => by cases h; exact .non
  | .bl _, _, h, _ => by cases h; exact .bl _
  | .int _, _, h, _ => by cases h; exact .int _
  | .str s, _, h, _ => by cases h; exact .str _
  | .tup ds, _, h, i => by
    obtain ⟨a, xs, rfl, q, t⟩ := h
    exact .tup q (Reps.dp t (by simpa [isData] using i))
  | .lst ds, _, h, i => by
    obtain ⟨a, xs, rfl, q, t⟩ := h
    exact .lst (.of q) (Reps.dp t (by simpa [isData] using i))
  | .lstK ds, _, h, i => by
    obtain ⟨a, xs, rfl, q, t⟩ := h
    exact .lst q (Reps.dp t (by simpa [isData] using i))
  | .ref _, _, _, i => by cases i
  | .ty _, _, _, i => by cases i
  | .obj _ _ _, _, _, i => by cases i
  | .dct _ _ _, _, _, i => by cases i
theorem Reps.dp : ∀ {ds : List D} {vs : List V}, Reps K S ds vs → areData ds = true → DpAll K S vs (pds ds)
  | [], [], _, _ => .nil
  | d :: r, v :: vs, h, i => by
    have h' := (Bool.and_eq_true_iff.mp (by simpa [areData] using i : (isData d && areData r) = true))
    exact .cons (Rep.dp h.1 h'.1) (Reps.dp h.2 h'.2)
  | [], _ :: _, h, _ => h.elim
  | _ :: _, [], h, _ => h.elim
end
end
theorem okEq.shaped {d : D} (h : okEq d) : SeqAt.shaped (pd d) = true := by
  unfold SeqAt.shaped
  rw [pd_lay h.1, pd_depth]
  simp [h.2]

@[reducible] def rdEq : RD2 := fun d e env M Q => okEq d ∧ okEq e ∧ Q (.bl (deq d e)) env M
@[reducible] def rdNe : RD2 := fun d e env M Q => okEq d ∧ okEq e ∧ Q (.bl (nb (deq d e))) env M
section
variable {X : Cx}
theorem od_eq {k : Nat} (hr : Room k X.A) : OpD X (compareOp .Eq) rdEq :=
  ⟨⟨_, op_eqD hr.units, fun F S σ H env M x y d e Qd Q R r1 r2 ⟨h1, h2, q⟩ p =>
    ⟨pd d, pd e, Dp.mono R.c.same (r1.dp h1.1), Dp.mono R.c.same (r2.dp h2.1), h1.shaped, h2.shaped, p _ H S env M (.bl _) (Same.refl _) R rfl q⟩⟩⟩
theorem od_ne {k : Nat} (hr : Room k X.A) : OpD X (compareOp .NotEq) rdNe :=
  ⟨⟨_, op_neD hr.units, fun F S σ H env M x y d e Qd Q R r1 r2 ⟨h1, h2, q⟩ p =>
    ⟨pd d, pd e, Dp.mono R.c.same (r1.dp h1.1), Dp.mono R.c.same (r2.dp h2.1), h1.shaped, h2.shaped, p _ H S env M (.bl (nb (deq d e))) (Same.refl _) R (congrArg V.bl (nb_eq _).symm) q⟩⟩⟩

/-- of two ints -/
@[reducible] def rdI (g : Int → Int → D) : RD2 := fun d e env M Q => match d, e with
  | .int i, .int j => Q (g i j) env M
  | _, _ => False
@[reducible] def rdIC (C : Int → Int → Prop) (g : Int → Int → D) : RD2 := fun d e env M Q => match d, e with
  | .int i, .int j => C i j ∧ Q (g i j) env M
  | _, _ => False
theorem od_I {f : Value → Value → Sem Value} {g : Int → Int → V} {gd : Int → Int → D} (h : OpR X f (rI0 g)) (hg : ∀ K S i j, Rep K S (gd i j) (g i j)) : OpD X f (rdI gd) := by
  refine ⟨⟨_, h, fun F S σ H env M x y d e Qd Q R r1 r2 q p => ?_⟩⟩
  cases d with
  | int i =>
    cases e with
    | int j =>
      cases r1
      cases r2
      exact ⟨i, j, rfl, rfl, p _ H S env M _ (Same.refl _) R (hg _ _ i j) q⟩
    | _ => exact q.elim
  | _ => exact q.elim
theorem od_IC {f : Value → Value → Sem Value} {C : Int → Int → Prop} {g : Int → Int → V} {gd : Int → Int → D} (h : OpR X f (rI C g)) (hg : ∀ K S i j, Rep K S (gd i j) (g i j)) : OpD X f (rdIC C gd) := by
  refine ⟨⟨_, h, fun F S σ H env M x y d e Qd Q R r1 r2 q p => ?_⟩⟩
  cases d with
  | int i =>
    cases e with
    | int j =>
      cases r1
      cases r2
      exact ⟨i, j, rfl, rfl, q.1, p _ H S env M _ (Same.refl _) R (hg _ _ i j) q.2⟩
    | _ => exact q.elim
  | _ => exact q.elim
theorem od_sub : OpD X (binaryOp .Sub) (rdI fun i j => .int (i - j)) := od_I op_sub fun _ _ _ _ => rfl
theorem od_mul : OpD X (binaryOp .Mult) (rdIC CMulW fun i j => .int (i * j)) := od_IC op_mulW fun _ _ _ _ => rfl
theorem od_fdiv : OpD X (binaryOp .FloorDiv) (rdIC CDivW fun i j => .int (i / j)) := od_IC op_fdivW fun _ _ _ _ => rfl
theorem od_mod : OpD X (binaryOp .Mod) (rdIC (fun _ j => 0 < j) fun i j => .int (i % j)) := od_IC op_mod fun _ _ _ _ => rfl
theorem od_pow : OpD X (binaryOp .Pow) (rdIC CPow fun i j => .int (i ^ j.toNat)) := od_IC op_pow fun _ _ _ _ => rfl
theorem od_lt : OpD X (compareOp .Lt) (rdI fun i j => .bl (decide (i < j))) := od_I op_lt fun _ _ _ _ => rfl
theorem od_ge : OpD X (compareOp .GtE) (rdI fun i j => .bl (decide (j ≤ i))) := od_I op_ge fun _ _ _ _ => rfl

/-- +: ints, texts, tuples (the left one not empty), lists -/
@[reducible] def rdAdd : RD2 := fun d e env M Q => match d, e with
  | .int i, .int j => Q (.int (i + j)) env M
  | .str s, .str t => s.length + t.length ≤ sizeLine ∧ Q (.str (s ++ t)) env M
  | .tup ds, .tup es => ds ≠ [] ∧ ds.length + es.length ≤ sizeLine ∧ Q (.tup (ds ++ es)) env M
  | .lst ds, .lst es => ds.length + es.length ≤ sizeLine ∧ Q (.lst (ds ++ es)) env M
  | _, _ => False
theorem rep_tup {K : PySem.W.Frag} {S : Hp} {p : Addr} {ds : List D} {xs : List V} (r : Reps K S ds xs) (h : S p = none) : Rep K (upd S p (.tup xs)) (.tup ds) (.ref p) :=
  ⟨p, xs, rfl, .of upd_same, r.mono fun b u e => by rw [upd_ne (fun z => by rw [z, h] at e; cases e)]; exact e⟩
theorem rep_lst {K : PySem.W.Frag} {S : Hp} {p : Addr} {ds : List D} {xs : List V} (r : Reps K S ds xs) (h : S p = none) : Rep K (upd S p (.lst xs)) (.lst ds) (.ref p) :=
  ⟨p, xs, rfl, upd_same, r.mono fun b u e => by rw [upd_ne (fun z => by rw [z, h] at e; cases e)]; exact e⟩
theorem Reps.nil_iff {K : PySem.W.Frag} {S : Hp} {ds : List D} {xs : List V} (r : Reps K S ds xs) : ds = [] ↔ xs = [] := by
  have := r.length
  cases ds with
  | nil => cases xs with
    | nil => exact ⟨fun _ => rfl, fun _ => rfl⟩
    | cons _ _ => exact r.elim
  | cons _ _ => cases xs with
    | nil => exact r.elim
    | cons _ _ => exact ⟨fun z => (by cases z), fun z => (by cases z)⟩
theorem od_add : OpD X (binaryOp .Add) rdAdd := by
  refine ⟨⟨_, (op_add (X := X)).or (op_add_str.or (op_catT.or op_cat)), fun F S σ H env M x y d e Qd Q R r1 r2 q p => ?_⟩⟩
  cases d with
  | int i =>
    cases e with
    | int j =>
      cases r1
      cases r2
      exact .inl ⟨i, j, rfl, rfl, p _ H S env M (.int (i + j)) (Same.refl _) R rfl q⟩
    | _ => exact q.elim
  | str s =>
    cases e with
    | str t =>
      cases r1
      cases r2
      exact .inr (.inl ⟨s, t, rfl, rfl, q.1, p _ H S env M (.str (s ++ t)) (Same.refl _) R rfl q.2⟩)
    | _ => exact q.elim
  | tup ds =>
    cases e with
    | tup es =>
      obtain ⟨a, xs, rfl, h1, t1⟩ := r1
      obtain ⟨b, ys, rfl, h2, t2⟩ := r2
      obtain ⟨n, l, q⟩ := q
      refine .inr (.inr (.inl ⟨a, b, xs, ys, rfl, rfl, DL.Same.tup R.c.same h1, DL.Same.tup R.c.same h2, fun z => n (t1.nil_iff.mpr z), by rw [← t1.length, ← t2.length]; exact l, fun z => ?_, fun z u hu => ?_⟩))
      · have ez := t2.nil_iff.mpr z
        subst ez
        rw [List.append_nil] at q
        exact p _ H S env M (.tup ds) (Same.refl _) R ⟨a, xs, rfl, h1, t1⟩ q
      · obtain ⟨R', ss⟩ := R.new (o := .tup (xs ++ ys)) hu
        exact p _ _ _ env M (.tup (ds ++ es)) ss R' (rep_tup (t1.append t2) (R.c.sfree hu)) q
    | _ => exact q.elim
  | lst ds =>
    cases e with
    | lst es =>
      obtain ⟨a, xs, rfl, h1, t1⟩ := r1
      obtain ⟨b, ys, rfl, h2, t2⟩ := r2
      obtain ⟨l, q⟩ := q
      refine .inr (.inr (.inr ⟨a, b, xs, ys, rfl, rfl, R.c.same _ _ h1, R.c.same _ _ h2, by rw [← t1.length, ← t2.length]; exact l, fun u hu => ?_⟩))
      obtain ⟨R', ss⟩ := R.new (o := .lst (xs ++ ys)) hu
      exact p _ _ _ env M (.lst (ds ++ es)) ss R' (rep_lst (t1.append t2) (R.c.sfree hu)) q
    | _ => exact q.elim
  | _ => cases e <;> exact q.elim
/-- is None, is not None -/
@[reducible] def isNon : D → Bool
  | .non => true
  | _ => false
end

/-! ### flat things, in -/
def flatD : D → Bool
  | .non => true
  | .bl _ => true
  | .int _ => true
  | .str _ => true
  | _ => false
section
variable {K : PySem.W.Frag} {S : Hp}
theorem rep_flat {d : D} {v : V} (r : Rep K S d v) (f : flatD d = true) : flatV v = true := by
  cases d with
  | non => cases r; rfl
  | bl _ => cases r; rfl
  | int _ => cases r; rfl
  | str _ => cases r; rfl
  | _ => cases f
theorem rep_eqF {d e : D} {v u : V} (r : Rep K S d v) (q : Rep K S e u) (f : flatD d = true) (g : flatD e = true) : eqV v u = eqF d e := by
  cases d <;> first | (cases f; done) | (cases e <;> first | (cases g; done) | (cases r; cases q; rfl))
theorem reps_flat : ∀ {ds : List D} {vs : List V}, Reps K S ds vs → ds.all flatD = true → vs.all flatV = true
  | [], [], _, _ => rfl
  | d :: r, v :: vs, h, f => by
    simp only [List.all_cons, Bool.and_eq_true] at f ⊢
    exact ⟨rep_flat h.1 f.1, reps_flat h.2 f.2⟩
  | [], _ :: _, h, _ => h.elim
  | _ :: _, [], h, _ => h.elim
theorem reps_inF {d : D} {v : V} (q : Rep K S d v) (g : flatD d = true) : ∀ {ds : List D} {vs : List V}, Reps K S ds vs → ds.all flatD = true → inV v vs = inF d ds
  | [], [], _, _ => rfl
  | e :: r, u :: vs, h, f => by
    simp only [List.all_cons, Bool.and_eq_true] at f
    have ih := reps_inF q g h.2 f.2
    unfold inV inF at ih ⊢
    simp only [List.any_cons, rep_eqF h.1 q f.1 g, ih]
  | [], _ :: _, h, _ => h.elim
  | _ :: _, [], h, _ => h.elim
end
@[reducible] def seqD : D → Option (List D)
  | .lst ds => some ds
  | .lstK ds => some ds
  | .tup ds => some ds
  | _ => none
@[reducible] def rdIn : RD2 := fun d e env M Q => match seqD e with
  | some ds => flatD d = true ∧ ds.all flatD = true ∧ Q (.bl (inF d ds)) env M
  | none => False
section
variable {X : Cx}
theorem rep_seq {K : PySem.W.Frag} {S H : Hp} {e : D} {ds : List D} {v : V} (ss : Same S H) (h : seqD e = some ds) (r : Rep K S e v) : ∃ p xs, v = .ref p ∧ (SqL K H p xs ∨ SqT K H p xs) ∧ Reps K S ds xs := by
  cases e with
  | lst es => cases h; obtain ⟨a, xs, e1, h1, t⟩ := r; exact ⟨a, xs, e1, .inl (.of (ss _ _ h1)), t⟩
  | lstK es => cases h; obtain ⟨a, xs, e1, h1, t⟩ := r; exact ⟨a, xs, e1, .inl (L2.Same.seq ss h1), t⟩
  | tup es => cases h; obtain ⟨a, xs, e1, h1, t⟩ := r; exact ⟨a, xs, e1, .inr (DL.Same.tup ss h1), t⟩
  | _ => cases h
theorem od_in : OpD X (compareOp .In) rdIn := by
  refine ⟨⟨_, op_in_seq, fun F S σ H env M x y d e Qd Q R r1 r2 q p => ?_⟩⟩
  unfold rdIn at q
  cases he : seqD e with
  | none => rw [he] at q; exact q.elim
  | some ds =>
    rw [he] at q
    obtain ⟨f, g, q⟩ := q
    obtain ⟨a, xs, rfl, h, t⟩ := rep_seq R.c.same he r2
    refine ⟨a, xs, rfl, h, rep_flat r1 f, reps_flat t g, ?_⟩
    have e1 := reps_inF r1 f t g
    show Q (.bl (inV x xs)) H
    rw [e1]
    exact p _ H S env M (.bl _) (Same.refl _) R rfl q
end

/-! ### truth, and, or, not, a if t else b -/
section
variable {X : Cx} {a b c : Expr} {ta tb : DT} {tA tB : DTT} {rest : List Expr} {pos : Pos}
@[reducible] def dAnd (t u : DTT) : DTT := fun env M Q => t env M fun c env1 M1 => match c with
  | true => u env1 M1 Q
  | false => Q false env1 M1
theorem w_and1 (ha : DTst X a tA) : DW X (.BoolOp .And [a] pos) tA := pw_and1 ha
theorem w_and (ha : DTst X a tA) (hb : DW X (.BoolOp .And (b :: rest) pos) tB) : DW X (.BoolOp .And (a :: b :: rest) pos) (dAnd tA tB) :=
  pw_imp (pw_and ha hb) fun σ H Q ⟨F, S, env, M, Qd, R, t, p⟩ => ⟨F, S, env, M, _, R, t, fun k H' S' env' M' s' R' q => by
    cases k with
    | true => exact ⟨F, S', env', M', Qd, R', q, fun k2 H2 S2 env2 M2 s2 R2 q2 => p k2 H2 S2 env2 M2 (s'.trans s2) R2 q2⟩
    | false => exact p false H' S' env' M' s' R' q⟩
theorem d_wt (h : DW X a tA) : DTst X a tA := h.pt
@[reducible] def dIf (t : DTT) (ta tb : DT) : DT := fun env M Q => t env M fun c env1 M1 => match c with
  | true => ta env1 M1 Q
  | false => tb env1 M1 Q
theorem d_ifExp (hc : DTst X c tA) (ha : DE X a ta) (hb : DE X b tb) : DE X (.IfExp c a b pos) (dIf tA ta tb) :=
  pe_imp (pe_ifExp hc ha hb) fun σ H Q ⟨F, S, env, M, Qd, R, t, p⟩ => ⟨F, S, env, M, _, R, t, fun k H' S' env' M' s' R' q => by
    cases k with
    | true => exact ⟨F, S', env', M', Qd, R', q, p.up s'⟩
    | false => exact ⟨F, S', env', M', Qd, R', q, p.up s'⟩⟩
end

/-! ### argument lists, displays -/
@[reducible] def dNil : DTA := fun env M Q => Q [] env M
@[reducible] def dCons (ta : DT) (tr : DTA) : DTA := fun env M Q => ta env M fun d env1 M1 => tr env1 M1 fun ds env2 M2 => Q (d :: ds) env2 M2
section
variable {X : Cx} {e : Expr} {es : List Expr} {te : DT} {t : DTA} {pos : Pos}
theorem a_nil : DA X [] dNil := pa_imp pa_nil fun σ H Q ⟨F, S, env, M, Qd, R, t, p⟩ => p [] H S env M [] (Same.refl _) R trivial t
theorem lift_cons {te : DT} {t : DTA} {σ : L2.St} {H : Hp} {Q : List V → Hp → Prop} {K : PySem.W.Frag} (h : LA K (dCons te t) σ H Q) : tCons (LE K te) (LA K t) σ H Q := by
  obtain ⟨F, S, env, M, Qd, R, h, p⟩ := h
  exact ⟨F, S, env, M, _, R, h, fun v H' S' env' M' d s' R' r q => ⟨F, S', env', M', _, R', q, fun vs H2 S2 env2 M2 ds s2 R2 r2 q2 => p (v :: vs) H2 S2 env2 M2 (d :: ds) (s'.trans s2) R2 ⟨r.mono s2, r2⟩ q2⟩⟩
theorem a_cons (ha : DE X e te) (hr : DA X es t) (hs : starEach (e :: es) X.env = (false, eval e X.env) :: starEach es X.env := by rfl) : DA X (e :: es) (dCons te t) :=
  pa_imp (pa_cons ha hr hs) fun σ H Q h => lift_cons h
theorem k_nil : DKw X [] dNil := pk_imp pk_nil fun σ H Q ⟨F, S, env, M, Qd, R, t, p⟩ => p [] H S env M [] (Same.refl _) R trivial t
theorem k_cons {nm : Option Str} {kpos : Pos} {kws : List Keyword} (ha : DE X e te) (hr : DKw X kws t) : DKw X (⟨nm, e, kpos⟩ :: kws) (dCons te t) :=
  pk_imp (pk_cons ha hr) fun σ H Q h => lift_cons h
@[reducible] def dTup (t : DTA) : DT := fun env M Q => t env M fun ds env1 M1 => ds.length ≤ sizeLine ∧ Q (.tup ds) env1 M1
@[reducible] def dLst (t : DTA) : DT := fun env M Q => t env M fun ds env1 M1 => ds.length ≤ sizeLine ∧ Q (.lst ds) env1 M1
theorem d_tup {x1} (h : DA X es t) : DE X (.Tuple es x1 pos) (dTup t) :=
  pe_imp (pe_tup h) fun σ H Q ⟨F, S, env, M, Qd, R, t, p⟩ => ⟨F, S, env, M, _, R, t, fun vs H' S' env' M' ds s' R' r q => ⟨by rw [← r.length]; exact q.1, fun u hu => by
    obtain ⟨R2, s2⟩ := R'.new (o := .tup vs) hu
    exact p _ _ _ env' M' (.tup ds) (s'.trans s2) R2 (rep_tup r (R'.c.sfree hu)) q.2⟩⟩
theorem d_lst (h : DA X es t) : DE X (.List es pos) (dLst t) :=
  pe_imp (pe_lst h) fun σ H Q ⟨F, S, env, M, Qd, R, t, p⟩ => ⟨F, S, env, M, _, R, t, fun vs H' S' env' M' ds s' R' r q => ⟨by rw [← r.length]; exact q.1, fun u hu => by
    obtain ⟨R2, s2⟩ := R'.new (o := .lst vs) hu
    exact p _ _ _ env' M' (.lst ds) (s'.trans s2) R2 (rep_lst r (R'.c.sfree hu)) q.2⟩⟩
end

/-! ### subscripts -/
/-- xs[i], t[i], s[i] -/
@[reducible] def rdIx : RD2 := fun d e env M Q => match e with
  | .int i => (match d with
    | .str z => z.length ≤ sizeLine ∧ (match atI z.cps.toList i with
      | some c => Q (.str ⟨#[c]⟩) env M
      | none => False)
    | _ => (match seqD d with
      | some ds => (match atI ds i with
        | some r => Q r env M
        | none => False)
      | none => False))
  | _ => False
theorem reps_atI {K : PySem.W.Frag} {S : Hp} {ds : List D} {vs : List V} {i : Int} {r : D} (h : Reps K S ds vs) (e : atI ds i = some r) : ∃ v, atI vs i = some v ∧ Rep K S r v := by
  unfold atI at e ⊢
  rw [← h.length]
  cases q : ixN ds.length i with
  | none => rw [q] at e; cases e
  | some j =>
    rw [q] at e
    obtain ⟨v, e1, r1⟩ := h.get (show ds[j]? = some r from e)
    exact ⟨v, e1, r1⟩
section
variable {X : Cx} {a b : Expr} {ta tb : DT} {pos : Pos}
theorem d_ix (ha : DE X a ta) (hb : DE X b tb) (hs : PlainIx b := by exact fun _ _ => rfl) : DE X (.Subscript a b pos) (dBin rdIx ta tb) := by
  refine pe_imp (pe_ix ix_seq ha hb hs) fun σ H Q q => lift2 (r := rIx X.K) (fun F S σ H env M x y d e Qd Q R r1 r2 q p => ?_) q
  unfold rdIx at q
  cases e with
  | int i =>
    cases r2
    have seq : ∀ ds, seqD d = some ds → (match atI ds i with | some r => Qd r env M | none => False) → rIx X.K x (.int i) H Q := fun ds hd q => by
      obtain ⟨p1, xs, rfl, h, t⟩ := rep_seq R.c.same hd r1
      cases he : atI ds i with
      | none => rw [he] at q; exact q.elim
      | some r =>
        rw [he] at q
        obtain ⟨v, e1, r'⟩ := reps_atI t he
        have fin := p v H S env M r (Same.refl _) R r' q
        rcases h with h | h
        · exact .inl ⟨p1, xs, i, v, rfl, rfl, h, e1, fin⟩
        · exact .inr (.inl ⟨p1, xs, i, v, rfl, rfl, h, e1, fin⟩)
    cases d with
    | str z =>
      cases r1
      obtain ⟨hz, q⟩ := q
      cases he : atI z.cps.toList i with
      | none => rw [he] at q; exact q.elim
      | some c =>
        rw [he] at q
        exact .inr (.inr ⟨z, i, c, rfl, rfl, hz, he, p _ H S env M (.str ⟨#[c]⟩) (Same.refl _) R rfl q⟩)
    | tup ds => exact seq ds rfl q
    | lst ds => exact seq ds rfl q
    | lstK ds => exact seq ds rfl q
    | _ => exact q.elim
  | _ => exact q.elim
end

/-! ### slices -/
abbrev DTO := Ev → Mem → (Option Int → Ev → Mem → Prop) → Prop
def LO (K : PySem.W.Frag) (t : DTO) : TO := fun σ H Q => ∃ F S env M Qd, Rel K F S σ H env M ∧ t env M Qd ∧ ∀ o H' S' env' M', Same S S' → Rel K F S' σ H' env' M' → Qd o env' M' → Q o H'
abbrev DO (X : Cx) (e : Option Expr) (t : DTO) : Prop := PO X e (LO X.K t)
theorem po_imp {X : Cx} {e : Option Expr} {t t' : TO} (h : PO X e t) (i : ∀ σ H Q, t' σ H Q → t σ H Q) : PO X e t' := ⟨fun pins s σ H Q I q => h.run pins s σ H Q I (i σ H Q q)⟩
@[reducible] def dNoPart : DTO := fun env M Q => Q none env M
@[reducible] def dPart (t : DT) : DTO := fun env M Q => t env M fun d env' M' => match d with
  | .int i => Q (some i) env' M'
  | _ => False
/-- s[i:j], xs[i:j], t[i:j] (not the whole of t) -/
@[reducible] def rdSl (d : D) (lo hi : Option Int) : DT := fun env M Q => match d with
  | .str z => z.length ≤ sizeLine ∧ Q (.str (cutS z lo hi)) env M
  | .tup ds => ¬ (HT.sIx ds.length 0 lo = 0 ∧ HT.sIx ds.length ds.length hi = ds.length) ∧ Q (.tup ((ds.drop (HT.sIx ds.length 0 lo)).take (HT.sIx ds.length ds.length hi - HT.sIx ds.length 0 lo))) env M
  | .lst ds => Q (.lst ((ds.drop (HT.sIx ds.length 0 lo)).take (HT.sIx ds.length ds.length hi - HT.sIx ds.length 0 lo))) env M
  | .lstK ds => Q (.lst ((ds.drop (HT.sIx ds.length 0 lo)).take (HT.sIx ds.length ds.length hi - HT.sIx ds.length 0 lo))) env M
  | _ => False
@[reducible] def dSl (te : DT) (tl th : DTO) : DT := fun env M Q => te env M fun d env1 M1 => tl env1 M1 fun lo env2 M2 => th env2 M2 fun hi env3 M3 => rdSl d lo hi env3 M3 Q
section
variable {X : Cx} {e : Expr} {te : DT} {lo hi : Option Expr} {tl th : DTO} {pos p2 : Pos}
theorem o_none : DO X none dNoPart := po_imp po_none fun σ H Q ⟨F, S, env, M, Qd, R, t, p⟩ => p none H S env M (Same.refl _) R t
theorem o_some (h : DE X e te) : DO X (some e) (dPart te) := po_imp (po_some h) fun σ H Q ⟨F, S, env, M, Qd, R, t, p⟩ => ⟨F, S, env, M, _, R, t, fun v H' S' env' M' d s' R' r q => by
  cases d with
  | int i => exact ⟨i, r, p _ H' S' env' M' s' R' q⟩
  | _ => exact q.elim⟩
theorem d_slice (he : DE X e te) (hl : DO X lo tl) (hu : DO X hi th) : DE X (.Subscript e (.Slice lo hi none p2) pos) (dSl te tl th) := by
  refine pe_imp (pe_slice ((sl_list (X := X)).or (sl_tup.or sl_str)) he hl hu) fun σ H Q ⟨F, S, env, M, Qd, R, t, p⟩ => ⟨F, S, env, M, _, R, t, fun v H1 S1 env1 M1 d s1 R1 r1 q1 =>
    ⟨F, S1, env1, M1, _, R1, q1, fun l H2 S2 env2 M2 s2 R2 q2 => ⟨F, S2, env2, M2, _, R2, q2, fun u H3 S3 env3 M3 s3 R3 q3 => ?_⟩⟩⟩
  have r3 := r1.mono (s2.trans s3)
  have p3 := p.up (s1.trans (s2.trans s3))
  cases d with
  | str z => cases r3; exact .inr (.inr ⟨z, rfl, q3.1, p3 _ H3 S3 env3 M3 (.str _) (Same.refl _) R3 rfl q3.2⟩)
  | tup ds =>
    obtain ⟨a, xs, rfl, h, t⟩ := r3
    have el := t.length
    refine .inr (.inl ⟨a, xs, rfl, DL.Same.tup R3.c.same h, by rw [← el]; exact q3.1, fun w hw => ?_⟩)
    obtain ⟨R4, s4⟩ := R3.new (o := .tup (cutV xs l u)) hw
    refine p3 _ _ _ env3 M3 (.tup _) s4 R4 (rep_tup ?_ (R3.c.sfree hw)) q3.2
    unfold cutV
    rw [el]
    exact (t.drop _).take _
  | lst ds =>
    obtain ⟨a, xs, rfl, h, t⟩ := r3
    have el := t.length
    refine .inl ⟨a, xs, rfl, .of (R3.c.same _ _ h), fun w hw => ?_⟩
    obtain ⟨R4, s4⟩ := R3.new (o := .lst (cutV xs l u)) hw
    refine p3 _ _ _ env3 M3 (.lst _) s4 R4 (rep_lst ?_ (R3.c.sfree hw)) q3
    unfold cutV
    rw [el]
    exact (t.drop _).take _
  | lstK ds =>
    obtain ⟨a, xs, rfl, h, t⟩ := r3
    have el := t.length
    refine .inl ⟨a, xs, rfl, L2.Same.seq R3.c.same h, fun w hw => ?_⟩
    obtain ⟨R4, s4⟩ := R3.new (o := .lst (cutV xs l u)) hw
    refine p3 _ _ _ env3 M3 (.lst _) s4 R4 (rep_lst ?_ (R3.c.sfree hw)) q3
    unfold cutV
    rw [el]
    exact (t.drop _).take _
  | _ => exact q3.elim
end

/-! ### built-in functions by their names -/
abbrev RDA := List D → DT
structure CallD (X : Cx) (f : Value) (rd : RDA) : Prop where
  ex : ∃ r, CallR X f r ∧ ∀ F S σ H env M xs ds Qd Q, Rel X.K F S σ H env M → Reps X.K S ds xs → rd ds env M Qd → PostE X.K F S σ Qd Q → r xs H Q
@[reducible] def dCB (rd : RDA) (t : DTA) : DT := fun env M Q => t env M fun ds env1 M1 => rd ds env1 M1 Q
section
variable {X : Cx} {x : Str} {p pos : Pos} {e : Expr} {es : List Expr} {t : DTA} {id T : String} {rd : RDA}
theorem lift_cb {r : List V → Hp → VK → Prop} (h2 : ∀ F S σ H env M xs ds Qd Q, Rel X.K F S σ H env M → Reps X.K S ds xs → rd ds env M Qd → PostE X.K F S σ Qd Q → r xs H Q) {σ : L2.St} {H : Hp} {Q : VK} (q : LE X.K (dCB rd t) σ H Q) : tCB r (LA X.K t) σ H Q := by
  obtain ⟨F, S, env, M, Qd, R, t, p⟩ := q
  exact ⟨F, S, env, M, _, R, t, fun vs H' S' env' M' ds s' R' r q => h2 F S' σ H' env' M' vs ds Qd Q R' r q (p.up s')⟩
theorem d_callB (hc : CallD X (.builtin id) rd) (hg : Gl X x) (hm : X.mg x = none) (hv : bootBuiltins x = some (.builtin id)) (ha : DA X (e :: es) t) (hn : x ≠ "__name__" := by decide) (hdb : (x == ("__debug__" : Str)) = false := by decide)
    (he : starEach (e :: es) X.env = (false, eval e X.env) :: starEach es X.env := by rfl) (hpl : (backTo pos (starEach es X.env)).any (·.1) = false := by rfl) : DE X (.Call (.Name x p) (e :: es) [] pos) (dCB rd t) := by
  obtain ⟨r, h1, h2⟩ := hc.ex
  exact pe_imp (pe_callB h1 hg hm hv ha hn hdb he hpl) fun σ H Q q => lift_cb h2 q
theorem d_callTy (hc : CallD X (.type T) rd) (hg : Gl X x) (hm : X.mg x = none) (hv : bootBuiltins x = some (.type T)) (ha : DA X (e :: es) t) (hn : x ≠ "__name__" := by decide) (hdb : (x == ("__debug__" : Str)) = false := by decide)
    (he : starEach (e :: es) X.env = (false, eval e X.env) :: starEach es X.env := by rfl) (hpl : (backTo pos (starEach es X.env)).any (·.1) = false := by rfl) : DE X (.Call (.Name x p) (e :: es) [] pos) (dCB rd t) := by
  obtain ⟨r, h1, h2⟩ := hc.ex
  exact pe_imp (pe_callTy h1 hg hm hv ha hn hdb he hpl) fun σ H Q q => lift_cb h2 q
/-- len -/
@[reducible] def rdLen : RDA := fun ds env M Q => match ds with
  | [.str z] => z.length ≤ sizeLine ∧ Q (.int z.length) env M
  | [d] => (match seqD d with
    | some es => Q (.int es.length) env M
    | none => False)
  | _ => False
theorem cd_len : CallD X (.builtin "len") rdLen := by
  refine ⟨⟨_, (call_len_seq (X := X)).or call_len_str, fun F S σ H env M xs ds Qd Q R r q p => ?_⟩⟩
  cases ds with
  | nil => exact q.elim
  | cons d rs =>
    cases rs with
    | cons _ _ => cases d <;> exact q.elim
    | nil =>
      obtain ⟨v, rfl, r1⟩ := r.one
      have seq : ∀ es, seqD d = some es → Qd (.int es.length) env M → (∃ p ys, [v] = [V.ref p] ∧ (SqL X.K H p ys ∨ SqT X.K H p ys) ∧ Q (.int ys.length) H) := fun es hd q => by
        obtain ⟨p1, ys, rfl, h, t⟩ := rep_seq R.c.same hd r1
        refine ⟨p1, ys, rfl, h, ?_⟩
        rw [← t.length]
        exact p _ H S env M (.int _) (Same.refl _) R rfl q
      cases d with
      | str z => cases r1; exact .inr ⟨z, rfl, q.1, p _ H S env M (.int _) (Same.refl _) R rfl q.2⟩
      | tup es => exact .inl (seq es rfl q)
      | lst es => exact .inl (seq es rfl q)
      | lstK es => exact .inl (seq es rfl q)
      | _ => exact q.elim
/-- int(n), int(flag) -/
@[reducible] def rdInt : RDA := fun ds env M Q => match ds with
  | [.int i] => Q (.int i) env M
  | [.bl k] => Q (.int (if k then 1 else 0)) env M
  | _ => False
theorem cd_int : CallD X (.type "int") rdInt := by
  refine ⟨⟨_, call_int1 (X := X), fun F S σ H env M xs ds Qd Q R r q p => ?_⟩⟩
  cases ds with
  | nil => exact q.elim
  | cons d rs =>
    cases rs with
    | cons _ _ => cases d <;> exact q.elim
    | nil =>
      obtain ⟨v, rfl, r1⟩ := r.one
      cases d with
      | int i => cases r1; exact .inl ⟨i, rfl, p _ H S env M (.int i) (Same.refl _) R rfl q⟩
      | bl k => cases r1; exact .inr ⟨k, rfl, p _ H S env M (.int (if k then 1 else 0)) (Same.refl _) R rfl q⟩
      | _ => exact q.elim
/-- min(i, j), max(i, j) -/
@[reducible] def rdII (g : Int → Int → D) : RDA := fun ds env M Q => match ds with
  | [.int i, .int j] => Q (g i j) env M
  | _ => False
theorem cd_II {f : Value} {g : Int → Int → Int} (h : CallR X f (fun xs H Q => ∃ i j, xs = [.int i, .int j] ∧ Q (.int (g i j)) H)) : CallD X f (rdII fun i j => .int (g i j)) := by
  refine ⟨⟨_, h, fun F S σ H env M xs ds Qd Q R r q p => ?_⟩⟩
  cases ds with
  | nil => exact q.elim
  | cons d rs =>
    cases d with
    | int i =>
      cases rs with
      | nil => exact q.elim
      | cons e rs2 =>
        cases e with
        | int j =>
          cases rs2 with
          | cons _ _ => exact q.elim
          | nil =>
            obtain ⟨v, u, rfl, r1, r2⟩ := r.two
            cases r1
            cases r2
            exact ⟨i, j, rfl, p _ H S env M (.int (g i j)) (Same.refl _) R rfl q⟩
        | _ => exact q.elim
    | _ => exact q.elim
theorem cd_min (hc : X.calm = true) : CallD X (.builtin "min") (rdII fun i j => .int (if j < i then j else i)) := cd_II (call_min2 hc)
end
end DL
set_option Elab.async false
set_option linter.all false
set_option maxRecDepth 100000
set_option maxHeartbeats 1000000
/-! DL3: fields, calls, statements, loops, comprehensions, a def's promise. -/
namespace DL
open PySem PySem.Spec PyProof.Rows L2
variable [Gh]

/-! ### fields -/
theorem reps_fget {K : PySem.W.Frag} {S : Hp} {f : Str} {d : D} : ∀ {ns : List Str} {ds : List D} {xs : List V}, Reps K S ds xs → fget f ns ds = some d → ∃ v, (ns.zip xs).lookup f = some v ∧ Rep K S d v
  | [], _, _, _, e => by cases e
  | _ :: _, [], [], _, e => by cases e
  | n :: ns, d' :: ds, x :: xs, h, e => by
    unfold fget at e
    rw [List.zip_cons_cons, List.lookup_cons] at e ⊢
    cases hb : f == n with
    | true =>
      rw [hb] at e
      cases e
      exact ⟨x, rfl, h.1⟩
    | false =>
      rw [hb] at e
      exact reps_fget h.2 e
  | _ :: _, [], _ :: _, h, _ => h.elim
  | _ :: _, _ :: _, [], h, _ => h.elim
def FldOk (K : PySem.W.Frag) (C : Addr) (f : Str) : Prop := Cls K C ∧ NoAttr K C f
section
variable {X : Cx} {e : Expr} {f : Str} {pos : Pos} {te : DT}
end

/-! ### promises -/
abbrev KR := D → Mem → Prop
abbrev KX := Addr → List Str → List D → Mem → Prop
abbrev DSp := List D → Mem → KR → KX → Prop
abbrev KX0 : KX := fun _ _ _ _ => False
def PostR (K : PySem.W.Frag) (F S : Hp) (Qd : KR) (Q : VK) : Prop := ∀ v H' S' M' d, Same S S' → RelC K F S' H' M' → Rep K S' d v → Qd d M' → Q v H'
def PostX (K : PySem.W.Frag) (F S : Hp) (Ed : KX) (E : XK) : Prop := ∀ C od H' S' M' ns ds, Same S S' → RelC K F S' H' M' → XRep K S' od ns ds → Ed C ns ds M' → E (.ref C) od H'
def LSp (K : PySem.W.Frag) (sp : DSp) : Sp := fun vs H Q E => ∃ F S ds M Qd Ed, RelC K F S H M ∧ Reps K S ds vs ∧ sp ds M Qd Ed ∧ PostR K F S Qd Q ∧ PostX K F S Ed E

open Classical in
/-- the frame of a callee: one's own callers' things, and one's own lists -/
noncomputable def frOwn (F : Hp) (env : Ev) (σ : L2.St) (H : Hp) : Hp := fun a => if ∃ i ds, look env i = .own ds ∧ σ[i]? = some (some (.ref a)) then H a else F a
section
variable {K : PySem.W.Frag} {F S H : Hp} {M : Mem} {σ : L2.St} {env : Ev}
theorem frOwn_own {i : Nat} {ds : List D} {a : Addr} (h : look env i = .own ds) (e : σ[i]? = some (some (.ref a))) : frOwn F env σ H a = H a := by
  unfold frOwn
  rw [if_pos ⟨i, ds, h, e⟩]
theorem frOwn_cases (a : Addr) : (frOwn F env σ H a = F a ∧ ¬ ∃ i ds, look env i = .own ds ∧ σ[i]? = some (some (.ref a))) ∨ (∃ i ds, look env i = .own ds ∧ σ[i]? = some (some (.ref a))) := by
  by_cases h : ∃ i ds, look env i = .own ds ∧ σ[i]? = some (some (.ref a))
  · exact .inr h
  · refine .inl ⟨?_, h⟩
    unfold frOwn
    rw [if_neg h]
theorem Rel.toC (R : Rel K F S σ H env M) : RelC K (frOwn F env σ H) S H M := by
  refine ⟨R.c.same, fun a o e => ?_, R.c.mem⟩
  rcases frOwn_cases (F := F) (env := env) (σ := σ) (H := H) a with ⟨h, _⟩ | ⟨i, ds, h1, h2⟩
  · rw [h] at e
    exact R.c.fr a o e
  · obtain ⟨b, xs, e1, e2, e3, e4, _⟩ := R.own i ds h1
    rw [h2] at e1
    cases e1
    rw [frOwn_own h1 h2] at e
    exact ⟨e, e3, e4⟩
theorem Rel.back {S' H' : Hp} {M' : Mem} (R : Rel K F S σ H env M) (c : RelC K (frOwn F env σ H) S' H' M') (ss : Same S S') : Rel K F S' σ H' env M' := by
  have cc : RelC K F S' H' M' := by
    refine ⟨c.same, fun a o e => ?_, c.mem⟩
    refine c.fr a o ?_
    rcases frOwn_cases (F := F) (env := env) (σ := σ) (H := H) a with ⟨h, _⟩ | ⟨i, ds, h1, h2⟩
    · rw [h]; exact e
    · obtain ⟨b, xs, e1, _, _, _, e5, _⟩ := R.own i ds h1
      rw [h2] at e1
      cases e1
      rw [e5] at e
      cases e
  refine R.grow cc ss fun i a e hi => ?_
  obtain ⟨ds, hi⟩ := hi
  obtain ⟨b, xs, e1, e2, _⟩ := R.own i ds hi
  rw [e] at e1
  cases e1
  have q : frOwn F env σ H a = some (.lst xs) := by rw [frOwn_own hi e]; exact e2
  obtain ⟨h1, h2, h3⟩ := c.fr a _ q
  exact ⟨h1.trans e2.symm, h2, h3⟩
end

/-! ### calls -/
@[reducible] def dCall (sp : DSp) (dds : List D) (t : DTA) : DT := fun env M Q => t env M fun ds env1 M1 => sp (ds ++ dds) M1 (fun d M2 => Q d env1 M2) KX0
theorem sp_of {K : PySem.W.Frag} {F S H : Hp} {M : Mem} {σ : L2.St} {env : Ev} {sp : DSp} {ds : List D} {vs : List V} {Qd : KD} {Q : VK} {E : XK} (R : Rel K F S σ H env M) (r : Reps K S ds vs) (q : sp ds M (fun d M2 => Qd d env M2) KX0) (p : PostE K F S σ Qd Q) :
    LSp K sp vs H Q E := ⟨frOwn F env σ H, S, ds, M, _, _, R.toC, r, q, fun v H' S' M' d s' c r' q' => p v H' S' env M' d s' (R.back c s') r' q', fun _ _ _ _ _ _ _ _ _ _ z => z.elim⟩
section
variable {X : Cx} {CX : CXT} {k : Nat} {f C : Addr} {fd : FuncData} {ps : List Str} {sp : DSp} {dvs : List V} {dds : List D} {dl : List Value} {E : XK} {x m : Str} {p pos apos : Pos} {e o : Expr} {es : List Expr} {ta : DT} {t : DTA}
theorem lift_call (hdd : ∀ S, Reps X.K S dds dvs) {σ : L2.St} {H : Hp} {Q : VK} (q : LE X.K (dCall sp dds t) σ H Q) : tCall (LSp X.K sp) dvs E (LA X.K t) σ H Q := by
  obtain ⟨F, S, env, M, Qd, R, t, p⟩ := q
  exact ⟨F, S, env, M, _, R, t, fun vs H' S' env' M' ds s' R' r q => sp_of R' (r.append (hdd S')) q (p.up s')⟩
theorem d_call (G : FnOk X.prog X.w X.K X.mg X.base CX k f fd ps (LSp X.K sp)) (hr : Room k X.A) (hg : Gl X x) (hm : X.mg x = some (.ref f)) (hk : PySem.W.keepIn X.K (.ref f) = true) (hb : Binds X.K fd ps dl) (hd : Vals dvs dl) (hdd : ∀ S, Reps X.K S dds dvs) (hx : Passes CX X E)
    (ha : DA X (e :: es) t) (hdb : (x == ("__debug__" : Str)) = false := by decide) (he : starEach (e :: es) X.env = (false, eval e X.env) :: starEach es X.env := by rfl) (hpl : (backTo pos (starEach es X.env)).any (·.1) = false := by rfl) :
    DE X (.Call (.Name x p) (e :: es) [] pos) (dCall sp dds t) := pe_imp (pe_call G hr hg hm hk hb hd hx ha hdb he hpl) fun σ H Q q => lift_call hdd q
/-- C(..): an instance that never changes: g tells its fields -/
def spInit (C : Addr) (g : List D → Option (List Str × List D)) : DSp := fun ds M Q _ => ∃ x args ns es, ds = .ref x :: args ∧ M x = some (.ins C [] []) ∧ g args = some (ns, es) ∧ Q .non (mset M x (.ins C ns es))
variable {g : List D → Option (List Str × List D)}
end

/-! ### lists of one's own -/
abbrev KN := List D → Ev → Mem → Prop
abbrev DTN := Ev → Mem → KN → Prop
structure NewAt (K : PySem.W.Frag) (F S : Hp) (σ : L2.St) (H : Hp) (env : Ev) (M : Mem) (a : Addr) (ds : List D) : Prop where
  ex : ∃ xs, H a = some (.lst xs) ∧ Reps K S ds xs
  s : S a = none
  m : M a = none
  f : F a = none
  o : ∀ j es, look env j = .own es → σ[j]? ≠ some (some (.ref a))
def LN (K : PySem.W.Frag) (t : DTN) : TE := fun σ H Q => ∃ F S env M Qd, Rel K F S σ H env M ∧ t env M Qd ∧ ∀ a H' S' env' M' ds, Same S S' → Rel K F S' σ H' env' M' → NewAt K F S' σ H' env' M' a ds → Qd ds env' M' → Q (.ref a) H'
abbrev DN (X : Cx) (e : Expr) (t : DTN) : Prop := PE X e (LN X.K t)
section
variable {X : Cx} {e : Expr} {es : List Expr} {t : DTA} {te : DTN} {pos : Pos}
/-- a new list handed on at once never changes -/
theorem Rel.seal {K : PySem.W.Frag} {F S H : Hp} {M : Mem} {σ : L2.St} {env : Ev} {a : Addr} {ds : List D} (R : Rel K F S σ H env M) (n : NewAt K F S σ H env M a ds) : ∃ S', Same S S' ∧ Rel K F S' σ H env M ∧ Rep K S' (.lst ds) (.ref a) := by
  obtain ⟨xs, e, r⟩ := n.ex
  have ss : Same S (upd S a (.lst xs)) := fun b o q => by rw [upd_ne (fun z => by rw [z, n.s] at q; cases q)]; exact q
  refine ⟨upd S a (.lst xs), ss, R.grow ⟨fun b o q => ?_, fun b o q => ?_, fun b o q => ?_⟩ ss fun i b eb hi => ?_, a, xs, rfl, upd_same, r.mono ss⟩
  · by_cases hb : b = a
    · subst hb; rw [upd_same] at q; cases q; exact e
    · rw [upd_ne hb] at q; exact R.c.same b o q
  · have hb : b ≠ a := fun z => by rw [z, n.f] at q; cases q
    rw [upd_ne hb]
    exact R.c.fr b o q
  · have hb : b ≠ a := fun z => by rw [z, n.m] at q; cases q
    rw [upd_ne hb]
    exact ⟨(R.c.mem b o q).1, (R.c.mem b o q).2.mono ss rfl⟩
  · obtain ⟨es, hi⟩ := hi
    obtain ⟨c, ys, f1, f2, f3, f4, _⟩ := R.own i es hi
    rw [eb] at f1
    cases f1
    have hb : b ≠ a := fun z => by rw [z] at eb; exact n.o i es hi eb
    exact ⟨rfl, by rw [upd_ne hb]; exact f3, f4⟩
@[reducible] def dSeal (t : DTN) : DT := fun env M Q => t env M fun ds env1 M1 => Q (.lst ds) env1 M1
theorem d_new (h : DN X e te) : DE X e (dSeal te) := pe_imp h fun σ H Q ⟨F, S, env, M, Qd, R, t, p⟩ => ⟨F, S, env, M, _, R, t, fun a H' S' env' M' ds s' R' n q => by
  obtain ⟨S2, s2, R2, r⟩ := R'.seal n
  exact p (.ref a) H' S2 env' M' (.lst ds) (s'.trans s2) R2 r q⟩
end

/-! ### statements -/
section
variable {X : Cx} {st : Stmt} {rest : List Stmt} {t u : DTS} {e : Expr} {te : DT} {pos : Pos}
@[reducible] def sNext : DTS := fun E env M => E.nx env M
@[reducible] def sSeq (t u : DTS) : DTS := fun E env M => t { E with nx := u E } env M
theorem ss_nil : DSs X [] sNext := pss_imp pss_nil fun D σ H ⟨F, S, env, M, Ed, R, t, p⟩ => p.nx σ H S env M (Same.refl _) R t
theorem ss_one (h : DS X st t) : DSs X [st] t := pss_one h
theorem ss_cons (h1 : DS X st t) (h2 : DSs X rest u) : DSs X (st :: rest) (sSeq t u) :=
  pss_imp (pss_cons h1 h2) fun D σ H ⟨F, S, env, M, Ed, R, t, p⟩ => ⟨F, S, env, M, _, R, t, ⟨fun σ' H' S' env' M' s' R' q => ⟨F, S', env', M', Ed, R', q, p.up s'⟩, p.rt, p.bk, p.ct⟩⟩
@[reducible] def sDrop (te : DT) : DTS := fun E env M => te env M fun _ env1 M1 => E.nx env1 M1
theorem s_expr (he : DE X e te) (hs : swapsWith e none pos.line X.env = pure false := by rfl) : DS X (.Expr e pos) (sDrop te) :=
  ps_imp (ps_expr he hs) fun D σ H ⟨F, S, env, M, Ed, R, t, p⟩ => ⟨F, S, env, M, _, R, t, fun v H' S' env' M' d s' R' r q => p.nx σ H' S' env' M' s' R' q⟩
@[reducible] def sRet (te : DT) : DTS := fun E env M => te env M fun d _ M1 => E.rt d M1
theorem s_ret (he : DE X e te) : DS X (.Return (some e) pos) (sRet te) :=
  ps_imp (ps_ret he) fun D σ H ⟨F, S, env, M, Ed, R, t, p⟩ => ⟨F, S, env, M, _, R, t, fun v H' S' env' M' d s' R' r q => p.rt v H' S' M' d s' R'.c r q⟩
@[reducible] def sIf (c : DTT) (t u : DTS) : DTS := fun E env M => c env M fun b env1 M1 => match b with
  | true => t E env1 M1
  | false => u E env1 M1
theorem s_if {c : Expr} {a b : List Stmt} {tc : DTT} (hc : DTst X c tc) (ha : DSs X a t) (hb : DSs X b u) : DS X (.If c a b pos) (sIf tc t u) :=
  ps_imp (ps_if hc ha hb) fun D σ H ⟨F, S, env, M, Ed, R, t, p⟩ => ⟨F, S, env, M, _, R, t, fun k H' S' env' M' s' R' q => by
    cases k with
    | true => exact ⟨F, S', env', M', Ed, R', q, p.up s'⟩
    | false => exact ⟨F, S', env', M', Ed, R', q, p.up s'⟩⟩

/-! targets -/
abbrev KE := Ev → Mem → Prop
abbrev DTG := D → Ev → Mem → KE → Prop
def LG (K : PySem.W.Frag) (t : DTG) : TG := fun v σ H Q => ∃ F S env M d Qd, Rel K F S σ H env M ∧ Rep K S d v ∧ t d env M Qd ∧ ∀ σ' H' S' env' M', Same S S' → Rel K F S' σ' H' env' M' → Qd env' M' → Q σ' H'
abbrev DG (X : Cx) (e : Expr) (t : DTG) : Prop := PG X e (LG X.K t)
@[reducible] def gN (i : Nat) : DTG := fun d env M Q => Q (put env i (.val d)) M
theorem g_name {i : Nat} {x : Str} (hN : X.N.Nodup) (hi : X.N[i]? = some x := by rfl) (hx : Loc X.env.scope x := by first | exact Or.inl rfl | exact Or.inr rfl) (hf : X.fn x = true ∨ X.env.scope.names.lookup x = some .local := by first | exact .inl rfl | exact .inr rfl | assumption) : DG X (.Name x pos) (gN i) :=
  pg_imp (pg_name hN hi hx hf) fun v σ H Q ⟨F, S, env, M, d, Qd, R, r, t, p⟩ => p _ H S _ M (Same.refl _) (R.store r) t
abbrev DTGs := List D → Ev → Mem → KE → Prop
def LGs (K : PySem.W.Frag) (t : DTGs) : TGs := fun vs σ H Q => ∃ F S env M ds Qd, Rel K F S σ H env M ∧ Reps K S ds vs ∧ t ds env M Qd ∧ ∀ σ' H' S' env' M', Same S S' → Rel K F S' σ' H' env' M' → Qd env' M' → Q σ' H'
abbrev DGs (X : Cx) (e : List Expr) (t : DTGs) : Prop := PGs X e (LGs X.K t)
theorem pgs_imp {e : List Expr} {t t' : TGs} (h : PGs X e t) (i : ∀ v σ H Q, t' v σ H Q → t v σ H Q) : PGs X e t' := ⟨fun pins s σ H v u Q I r q => h.run pins s σ H v u Q I r (i v σ H Q q)⟩
@[reducible] def gsNil : DTGs := fun ds env M Q => match ds with
  | [] => Q env M
  | _ => False
@[reducible] def gsCons (g : DTG) (r : DTGs) : DTGs := fun ds env M Q => match ds with
  | d :: rs => g d env M fun env1 M1 => r rs env1 M1 Q
  | [] => False
theorem gs_nil : DGs X [] gsNil := pgs_imp pgs_nil fun v σ H Q ⟨F, S, env, M, ds, Qd, R, r, t, p⟩ => by
  cases ds with
  | nil => exact ⟨r.nil_inv, p σ H S env M (Same.refl _) R t⟩
  | cons _ _ => exact t.elim
theorem gs_cons {es : List Expr} {g : DTG} {r : DTGs} (h1 : DG X e g) (h2 : DGs X es r) (hs : (assignEach (e :: es) X.env).map (·.2) = assign e X.env :: (assignEach es X.env).map (·.2) := by rfl) : DGs X (e :: es) (gsCons g r) :=
  pgs_imp (pgs_cons h1 h2 hs) fun v σ H Q ⟨F, S, env, M, ds, Qd, R, r, t, p⟩ => by
    cases ds with
    | nil => exact t.elim
    | cons d rs =>
      obtain ⟨x, xs, rfl, r1, r2⟩ := r.cons_inv
      exact ⟨x, xs, rfl, F, S, env, M, d, _, R, r1, t, fun σ' H' S' env' M' s' R' q => ⟨F, S', env', M', rs, Qd, R', r2.mono s', q, fun σ2 H2 S2 env2 M2 s2 R2 q2 => p σ2 H2 S2 env2 M2 (s'.trans s2) R2 q2⟩⟩
/-- a, b = a tuple -/
@[reducible] def gT (n : Nat) (t : DTGs) : DTG := fun d env M Q => match d with
  | .tup ds => ds.length = n ∧ t ds env M Q
  | _ => False
theorem g_tup {es : List Expr} {k : Nat} {t : DTGs} {n : Nat} (hc : X.calm = true) (h : DGs X es t) (hn : (assignEach es X.env).length = n := by rfl) (hst : (assignEach es X.env).findIdx? (·.1) = none := by rfl) : DG X (.Tuple es k pos) (gT n t) :=
  pg_imp (pg_tup hc h hn hst) fun v σ H Q ⟨F, S, env, M, d, Qd, R, r, t, p⟩ => by
    cases d with
    | tup ds =>
      obtain ⟨a, xs, rfl, h, t1⟩ := r
      exact ⟨a, xs, rfl, DL.Same.tup R.c.same h, by rw [← t1.length]; exact t.1, F, S, env, M, ds, Qd, R, t1, t.2, p⟩
    | _ => exact t.elim
@[reducible] def sAsg (te : DT) (g : DTG) : DTS := fun E env M => te env M fun d env1 M1 => g d env1 M1 E.nx
theorem s_asg {tg : Expr} {g : DTG} (he : DE X e te) (hg : DG X tg g) (hs : swapsWithSole [tg] e pos.line X.env = pure false := by rfl) (hw : swappedStores [tg] e X.env = pure none := by rfl)
    (h1 : (assignEach [tg] X.env).map (·.2) = [assign tg X.env] := by rfl) : DS X (.Assign [tg] e pos) (sAsg te g) :=
  ps_imp (ps_asg he hg hs hw h1) fun D σ H ⟨F, S, env, M, Ed, R, t, p⟩ => ⟨F, S, env, M, _, R, t, fun v H' S' env' M' d s' R' r q => ⟨F, S', env', M', d, _, R', r, q, fun σ2 H2 S2 env2 M2 s2 R2 q2 => p.nx σ2 H2 S2 env2 M2 (s'.trans s2) R2 q2⟩⟩
theorem s_set {i : Nat} {x : Str} {pos' : Pos} (hN : X.N.Nodup) (he : DE X e te) (hi : X.N[i]? = some x := by rfl) (hx : Loc X.env.scope x := by first | exact Or.inl rfl | exact Or.inr rfl) (hs : swapsWith e (some (.Name x pos')) pos.line X.env = pure false := by rfl) (hf : X.fn x = true ∨ X.env.scope.names.lookup x = some .local := by first | exact .inl rfl | exact .inr rfl | assumption) :
    DS X (.Assign [.Name x pos'] e pos) (sAsg te (gN i)) :=
  ps_imp (ps_set hN hi hx he hs hf) fun D σ H ⟨F, S, env, M, Ed, R, t, p⟩ => ⟨F, S, env, M, _, R, t, fun v H' S' env' M' d s' R' r q => p.nx _ H' S' _ M' s' (R'.store r) q⟩
/-! while -/
end

/-! ### what is walked -/
structure Walks (K : PySem.W.Frag) (J : It) (S : Hp) (items : List D) : Prop where
  go : ∀ i H S', i < items.length → Same S S' → Same S' H → J.go i H
  stop : ∀ H S', Same S S' → Same S' H → J.stop items.length H
  yld : ∀ i d x H H' S', items[i]? = some d → Same S S' → Same S' H → J.yld i H x H' → (H' = H ∧ Rep K S' d x) ∨ ∃ p o, H p = none ∧ H' = upd H p o ∧ Rep K (upd S' p o) d x
abbrev KI := List D → Ev → Mem → Prop
abbrev DTI := Ev → Mem → KI → Prop
def LI (K : PySem.W.Frag) (wi : DTI) : TI := fun σ H R' => ∃ F S env M Qd, Rel K F S σ H env M ∧ wi env M Qd ∧ ∀ J H' S' env' M' items, Same S S' → Rel K F S' σ H' env' M' → Walks K J S' items → Qd items env' M' → R' J H'
abbrev DI (X : Cx) (tg e : Expr) (wi : DTI) : Prop := PI X tg e (LI X.K wi)
theorem pi_imp {X : Cx} {tg e : Expr} {t t' : TI} (h : PI X tg e t) (i : ∀ σ H R, t' σ H R → t σ H R) : PI X tg e t' := ⟨fun pins s σ H R I q => h.run pins s σ H R I (i σ H R q)⟩
section
variable {X : Cx} {tg e : Expr} {te : DT} {t : DTA} {pos p : Pos}
def strD (z : Str) : List D := z.cps.toList.map fun c => .str ⟨#[c]⟩
def rngD (lo : Int) (n : Nat) : List D := (List.range n).map fun k => .int (lo + (k : Nat))
theorem walks_rng {K : PySem.W.Frag} {S : Hp} (lo : Int) (n : Nat) : Walks K (Itr lo n) S (rngD lo n) := by
  have l : (rngD lo n).length = n := by unfold rngD; rw [List.length_map, List.length_range]
  refine ⟨fun i H S' hi _ _ => by show i < n; omega, fun H S' _ _ => by show n ≤ _; omega, fun i d x H H' S' hd s1 s2 y => ?_⟩
  obtain ⟨rfl, rfl⟩ := y
  unfold rngD at hd
  rw [List.getElem?_map] at hd
  by_cases h : i < n
  · rw [List.getElem?_range h] at hd
    cases hd
    exact .inl ⟨rfl, rfl⟩
  · rw [List.getElem?_eq_none_iff.mpr (by rw [List.length_range]; omega)] at hd
    cases hd
@[reducible] def itemsD : D → Option (List D)
  | .lst ds => some ds
  | .lstK ds => some ds
  | .tup ds => some ds
  | .str z => some (strD z)
  | _ => none
end
end DL
set_option Elab.async false
set_option linter.all false
set_option maxRecDepth 100000
set_option maxHeartbeats 1000000
/-! DL4: for, comprehensions, lists that grow, tuples of targets, dicts, isinstance, a def's promise by its body. -/
namespace DL
open PySem PySem.Spec PyProof.Rows L2
variable [Gh]

/-! ### for -/
@[reducible] def forW (g : DTG) (tb : DTS) (E : DEnds) : List D → Ev → Mem → Prop
  | [], env, M => E.nx env M
  | d :: r, env, M => g d env M fun env1 M1 => tb { E with nx := forW g tb E r, ct := forW g tb E r, bk := E.nx } env1 M1
@[reducible] def sFor (wi : DTI) (g : DTG) (tb : DTS) : DTS := fun E env M => wi env M fun items env1 M1 => forW g tb E items env1 M1
section
variable {X : Cx} {tg iter : Expr} {body : List Stmt} {wi : DTI} {g : DTG} {tb : DTS} {pos : Pos}
theorem s_for (hp : PassesOwn (model X.prog X.w) X.A X.env X.xe) (hc : X.calm = true) (hi : DI X tg iter wi) (hg : DG X tg g) (hb : DSs X body tb) (hs : ∀ x, foldedSetIterable iter X.env x = pure x := by intro _; rfl) : DS X (.For tg iter body [] pos) (sFor wi g tb) := by
  refine ps_imp (ps_for hp hc hi hg hb hs) fun D σ H ⟨F, S, env, M, Ed, R, t, p⟩ => ⟨F, S, env, M, _, R, t, fun J H1 S1 env1 M1 items s1 R1 w q => ?_⟩
  refine ⟨fun i m σ' H' => m = items.length - i ∧ i ≤ items.length ∧ ∃ S' env' M', Same S1 S' ∧ Rel X.K F S' σ' H' env' M' ∧ forW g tb Ed (items.drop i) env' M', ⟨items.length, by simp, Nat.zero_le _, S1, env1, M1, Same.refl _, R1, by rw [List.drop_zero]; exact q⟩, ?_⟩
  rintro i m σ2 H2 ⟨rfl, hi, S2, env2, M2, s2, R2, q2⟩
  by_cases hlt : i < items.length
  · refine .inr ⟨w.go i H2 S2 hlt s2 R2.c.same, _, fun σ' H' z => ⟨items.length - (i + 1), by omega, z⟩, fun x H3 y => ?_⟩
    have ed : items.drop i = items[i] :: items.drop (i + 1) := List.drop_eq_getElem_cons hlt
    rw [ed] at q2
    have hd : items[i]? = some items[i] := by simp [hlt]
    have fin : ∀ S3, Same S2 S3 → Rel X.K F S3 σ2 H3 env2 M2 → Rep X.K S3 items[i] x → LG X.K g x σ2 H3 (fun σ2 H2 => LS X.K tb { D with nx := fun σ' H' => items.length - (i + 1) = items.length - (i + 1) ∧ i + 1 ≤ items.length ∧ ∃ S' env' M', Same S1 S' ∧ Rel X.K F S' σ' H' env' M' ∧ forW g tb Ed (items.drop (i + 1)) env' M', ct := fun σ' H' => items.length - (i + 1) = items.length - (i + 1) ∧ i + 1 ≤ items.length ∧ ∃ S' env' M', Same S1 S' ∧ Rel X.K F S' σ' H' env' M' ∧ forW g tb Ed (items.drop (i + 1)) env' M', bk := D.nx } σ2 H2) := fun S3 s3 R3 r3 => by
      refine ⟨F, S3, env2, M2, items[i], _, R3, r3, q2, fun σ4 H4 S4 env4 M4 s4 R4 q4 => ⟨F, S4, env4, M4, _, R4, q4, ?_⟩⟩
      have sx := (s1.trans s2).trans (s3.trans s4)
      exact ⟨fun σ5 H5 S5 env5 M5 s5 R5 q5 => ⟨rfl, hlt, S5, env5, M5, s2.trans (s3.trans (s4.trans s5)), R5, q5⟩, (p.up sx).rt, fun σ5 H5 S5 env5 M5 s5 R5 q5 => p.nx σ5 H5 S5 env5 M5 (sx.trans s5) R5 q5, fun σ5 H5 S5 env5 M5 s5 R5 q5 => ⟨rfl, hlt, S5, env5, M5, s2.trans (s3.trans (s4.trans s5)), R5, q5⟩⟩
    rcases w.yld i items[i] x H2 H3 S2 hd s2 R2.c.same y with ⟨rfl, r⟩ | ⟨p1, o, hp1, rfl, r⟩
    · exact fin S2 (Same.refl _) R2 r
    · obtain ⟨R3, s3⟩ := R2.new (o := o) hp1
      exact fin _ s3 R3 r
  · obtain rfl : i = items.length := by omega
    rw [List.drop_length] at q2
    exact .inl ⟨w.stop H2 S2 s2 R2.c.same, p.nx σ2 H2 S2 env2 M2 (s1.trans s2) R2 q2⟩

/-! range -/
def i62 (j : Int) : Prop := -(2 ^ 62) ≤ j ∧ j < 2 ^ 62
@[reducible] def iRng1D (t : DTA) : DTI := fun env M Q => t env M fun ds env1 M1 => match ds with
  | [.int j] => i62 j ∧ Q (rngD 0 j.toNat) env1 M1
  | _ => False
theorem i_rng1 {a : Expr} {t : DTA} {p : Pos} (hg : Gl X "range") (hm : X.mg "range" = none) (ha : DA X [a] t) (hs : starEach [a] X.env = [(false, eval a X.env)] := by rfl) : DI X tg (.Call (.Name "range" p) [a] [] pos) (iRng1D t) := by
  refine pi_imp (pi_range1 hg hm ha hs) fun σ H R' ⟨F, S, env, M, Qd, R, t, p⟩ => ⟨F, S, env, M, _, R, t, fun vs H' S' env' M' ds s' R1 r q => ?_⟩
  cases ds with
  | nil => exact q.elim
  | cons d r2 =>
    cases r2 with
    | cons _ _ => cases d <;> exact q.elim
    | nil =>
      obtain ⟨v, rfl, rv⟩ := r.one
      cases d with
      | int j => cases rv; exact ⟨j, rfl, q.1.1, q.1.2, p _ H' S' env' M' _ s' R1 (walks_rng 0 _) q.2⟩
      | _ => exact q.elim
end

/-! ### comprehensions -/
@[reducible] def lcW (g : DTG) (tt : DTT) (te : DT) (vs : List Nat) : List D → List D → Ev → Mem → KN → Prop
  | [], acc, be, M, Q => Q acc be M
  | d :: r, acc, be, M, Q => g d be M fun e2 M2 => tt e2 M2 fun b e3 M3 => match b with
    | true => te e3 M3 fun y e4 M4 => acc.length < sizeLine ∧ lcW g tt te vs r (acc ++ [y]) (wipeD e4 vs) M4 Q
    | false => lcW g tt te vs r acc (wipeD e3 vs) M3 Q
@[reducible] def dLc (wi : DTI) (g : DTG) (tt : DTT) (te : DT) (vs : List Nat) : DTN := fun env M Q => wi env M fun items env1 M1 => vs.all (fun v => notOwn (look env1 v)) = true ∧ lcW g tt te vs items [] (wipeD env1 vs) M1 fun ys be M2 => Q ys (unw env1 be vs) M2
/-- a target of a comprehension: it changes the block's own names alone -/
def LGw (K : PySem.W.Frag) (vs : List Nat) (t : DTG) : TG := fun v σ H Q => ∃ F S env M d Qd, Rel K F S σ H env M ∧ Rep K S d v ∧ t d env M Qd ∧ ∀ σ' H' S' env' M', Same S S' → Rel K F S' σ' H' env' M' → wipe σ' vs = wipe σ vs → Qd env' M' → Q σ' H'
abbrev DGw (X : Cx) (vs : List Nat) (e : Expr) (t : DTG) : Prop := PG X e (LGw X.K vs t)
theorem wipe_set {i : Nat} {x : Option V} : ∀ {vs : List Nat} {σ : L2.St}, i ∈ vs → wipe (σ.set i x) vs = wipe σ vs
  | v :: vs, σ, h => by
    unfold wipe
    by_cases e : i = v
    · subst e
      have key : ∀ vs : List Nat, (wipe (σ.set i x) vs).set i none = (wipe σ vs).set i none := fun vs => by
        induction vs with
        | nil => unfold wipe; rw [List.set_set]
        | cons w ws ih =>
          unfold wipe
          by_cases e : w = i
          · subst e; rw [List.set_set, List.set_set, ih]
          · rw [List.set_comm _ _ e, List.set_comm _ _ e, ih]
      exact key vs
    · rw [wipe_set (vs := vs) ((List.mem_cons.mp h).resolve_left e)]
section
variable {X : Cx} {pos : Pos} {vs : List Nat}
theorem gw_name {i : Nat} {x : Str} (hv : i ∈ vs) (hN : X.N.Nodup) (hi : X.N[i]? = some x := by rfl) (hx : Loc X.env.scope x := by first | exact Or.inl rfl | exact Or.inr rfl) (hf : X.fn x = true ∨ X.env.scope.names.lookup x = some .local := by first | exact .inl rfl | exact .inr rfl | assumption) : DGw X vs (.Name x pos) (gN i) :=
  pg_imp (pg_name hN hi hx hf) fun v σ H Q ⟨F, S, env, M, d, Qd, R, r, t, p⟩ => p _ H S _ M (Same.refl _) (R.store r) (wipe_set hv) t
end
section
variable {K : PySem.W.Frag} {F S H : Hp} {M : Mem} {σ : L2.St} {env : Ev}
theorem Rel.wipe1 (R : Rel K F S σ H env M) (v : Nat) : Rel K F S (σ.set v none) H (put env v .no) M := by
  refine ⟨R.c, by rw [put_length, List.length_set]; exact R.len, fun i d e => ?_, fun i ds e => ?_, fun i j a ds es n q1 q2 e => ?_, R.g⟩
  · have h : v ≠ i := fun z => by
      subst z
      have hi : v < env.length := by have := look_lt e (fun z => by cases z); rwa [put_length] at this
      rw [look_put_same hi] at e
      cases e
    rw [look_put_ne h] at e
    obtain ⟨u, e1, r⟩ := R.val i d e
    exact ⟨u, by rw [List.getElem?_set_ne h]; exact e1, r⟩
  · have h : v ≠ i := fun z => by
      subst z
      have hi : v < env.length := by have := look_lt e (fun z => by cases z); rwa [put_length] at this
      rw [look_put_same hi] at e
      cases e
    rw [look_put_ne h] at e
    obtain ⟨a, xs, e1, x⟩ := R.own i ds e
    exact ⟨a, xs, by rw [List.getElem?_set_ne h]; exact e1, x⟩
  · have h1 : v ≠ i := fun z => by
      subst z
      have hi : v < env.length := by have := look_lt q1 (fun z => by cases z); rwa [put_length] at this
      rw [look_put_same hi] at q1
      cases q1
    have h2 : v ≠ j := fun z => by
      subst z
      have hi : v < env.length := by have := look_lt q2 (fun z => by cases z); rwa [put_length] at this
      rw [look_put_same hi] at q2
      cases q2
    rw [look_put_ne h1] at q1
    rw [look_put_ne h2] at q2
    rw [List.getElem?_set_ne h1] at e
    rw [List.getElem?_set_ne h2]
    exact R.dis i j a ds es n q1 q2 e
theorem Rel.wipes (R : Rel K F S σ H env M) : ∀ vs : List Nat, Rel K F S (wipe σ vs) H (wipeD env vs) M
  | [] => R
  | v :: vs => (R.wipes vs).wipe1 v
/-- a slot gets back what it held -/
theorem Rel.restore1 {σ0 : L2.St} {env0 : Ev} (R : Rel K F S σ H env M) (v : Nat) (hl : σ0.length = σ.length) (h : (∃ d u, look env0 v = .val d ∧ σ0[v]? = some (some u) ∧ Rep K S d u) ∨ look env0 v = .no) :
    ∀ x, (∀ d, look env0 v = .val d → σ0[v]? = some x) → Rel K F S (σ.set v x) H (put env v (look env0 v)) M := by
  intro x hx
  rcases h with ⟨d, u, e1, e2, r⟩ | e1
  · have e3 := hx d e1
    rw [e2] at e3
    cases e3
    rw [e1]
    exact R.store r
  · rw [e1]
    refine ⟨R.c, by rw [put_length, List.length_set]; exact R.len, fun i d e => ?_, fun i ds e => ?_, fun i j a ds es n q1 q2 e => ?_, R.g⟩
    · have h : v ≠ i := fun z => by
        subst z
        have hi : v < env.length := by have := look_lt e (fun z => by cases z); rwa [put_length] at this
        rw [look_put_same hi] at e
        cases e
      rw [look_put_ne h] at e
      obtain ⟨u, e1, r⟩ := R.val i d e
      exact ⟨u, by rw [List.getElem?_set_ne h]; exact e1, r⟩
    · have h : v ≠ i := fun z => by
        subst z
        have hi : v < env.length := by have := look_lt e (fun z => by cases z); rwa [put_length] at this
        rw [look_put_same hi] at e
        cases e
      rw [look_put_ne h] at e
      obtain ⟨a, xs, e1, x⟩ := R.own i ds e
      exact ⟨a, xs, by rw [List.getElem?_set_ne h]; exact e1, x⟩
    · have h1 : v ≠ i := fun z => by
        subst z
        have hi : v < env.length := by have := look_lt q1 (fun z => by cases z); rwa [put_length] at this
        rw [look_put_same hi] at q1
        cases q1
      have h2 : v ≠ j := fun z => by
        subst z
        have hi : v < env.length := by have := look_lt q2 (fun z => by cases z); rwa [put_length] at this
        rw [look_put_same hi] at q2
        cases q2
      rw [look_put_ne h1] at q1
      rw [look_put_ne h2] at q2
      rw [List.getElem?_set_ne h1] at e
      rw [List.getElem?_set_ne h2]
      exact R.dis i j a ds es n q1 q2 e
def restoreS (σ0 σ : L2.St) : List Nat → L2.St
  | [] => σ
  | v :: vs => (restoreS σ0 σ vs).set v ((σ0[v]?).join)
theorem restoreS_length {σ0 : L2.St} (vs : List Nat) : (restoreS σ0 σ vs).length = σ.length := by
  induction vs with
  | nil => rfl
  | cons v vs ih => unfold restoreS; rw [List.length_set, ih]
theorem wipe_get {σ : L2.St} {j : Nat} : ∀ {vs : List Nat}, j ∉ vs → (wipe σ vs)[j]? = σ[j]?
  | [], _ => rfl
  | v :: vs, h => by
    unfold wipe
    rw [List.getElem?_set_ne (fun z => h (by rw [z]; exact List.mem_cons_self)), wipe_get fun z => h (List.mem_cons_of_mem _ z)]
theorem wipe_at {σ : L2.St} {u : Nat} (hl : u < σ.length) : ∀ {ws : List Nat}, u ∈ ws → (wipe σ ws)[u]? = some none
  | v :: ws, z => by
    show ((wipe σ ws).set v none)[u]? = some none
    by_cases e : v = u
    · subst e; rw [List.getElem?_set_self (by rw [wipe_length]; exact hl)]
    · rw [List.getElem?_set_ne e]; exact wipe_at hl ((List.mem_cons.mp z).resolve_left (Ne.symm e))
theorem wipe_wipe {σ : L2.St} {vs : List Nat} : ∀ us : List Nat, (∀ u ∈ us, u ∈ vs) → wipe (wipe σ vs) us = wipe σ vs
  | [], _ => rfl
  | u :: us, hu => by
    show (wipe (wipe σ vs) us).set u none = wipe σ vs
    rw [wipe_wipe us fun z hz => hu z (List.mem_cons_of_mem _ hz)]
    have hm := hu u List.mem_cons_self
    refine List.ext_getElem? fun j => ?_
    by_cases e : u = j
    · subst e
      by_cases hl : u < σ.length
      · rw [List.getElem?_set_self (by rw [wipe_length]; exact hl), wipe_at hl hm]
      · rw [List.getElem?_eq_none_iff.mpr (by rw [List.length_set, wipe_length]; omega), List.getElem?_eq_none_iff.mpr (by rw [wipe_length]; omega)]
    · rw [List.getElem?_set_ne e]
theorem restoreS_get {σ0 : L2.St} {j : Nat} (hj : j < σ.length) (hl : σ0.length = σ.length) : ∀ {vs : List Nat}, (j ∈ vs → (restoreS σ0 σ vs)[j]? = σ0[j]?) ∧ (j ∉ vs → (restoreS σ0 σ vs)[j]? = σ[j]?)
  | [] => ⟨fun z => absurd z (by simp), fun _ => rfl⟩
  | v :: vs => by
    obtain ⟨i1, i2⟩ := restoreS_get (σ0 := σ0) hj hl (vs := vs)
    unfold restoreS
    by_cases e : v = j
    · subst e
      have hj0 : v < σ0.length := by rw [hl]; exact hj
      refine ⟨fun _ => ?_, fun z => absurd List.mem_cons_self z⟩
      rw [List.getElem?_set_self (by rw [restoreS_length]; exact hj), List.getElem?_eq_getElem hj0]
      rfl
    · rw [List.getElem?_set_ne e]
      exact ⟨fun z => i1 ((List.mem_cons.mp z).resolve_left (Ne.symm e)), fun z => i2 fun y => z (List.mem_cons_of_mem _ y)⟩
theorem restoreS_wipe {σ : L2.St} (vs : List Nat) : restoreS σ (wipe σ vs) vs = σ := by
  have hl : σ.length = (wipe σ vs).length := (wipe_length σ vs).symm
  refine List.ext_getElem? fun j => ?_
  by_cases hj : j < σ.length
  · have q := restoreS_get (σ := wipe σ vs) (σ0 := σ) (j := j) (by rw [← hl]; exact hj) hl (vs := vs)
    by_cases hm : j ∈ vs
    · exact q.1 hm
    · rw [q.2 hm, wipe_get hm]
  · rw [List.getElem?_eq_none_iff.mpr (by rw [restoreS_length, wipe_length]; omega), List.getElem?_eq_none_iff.mpr (by omega)]
theorem Rel.restores {σ0 : L2.St} {env0 : Ev} {S0 H0 : Hp} {M0 : Mem} {F0 : Hp} (R0 : Rel K F0 S0 σ0 H0 env0 M0) (ss : Same S0 S) (R : Rel K F S σ H env M) (hl : σ0.length = σ.length) : ∀ vs : List Nat, vs.all (fun v => notOwn (look env0 v)) = true → Rel K F S (restoreS σ0 σ vs) H (unw env0 env vs) M
  | [], _ => R
  | v :: vs, h => by
    simp only [List.all_cons, Bool.and_eq_true] at h
    have ih := Rel.restores R0 ss R hl vs h.2
    unfold restoreS unw
    refine ih.restore1 (σ0 := σ0) v (by rw [restoreS_length]; exact hl) ?_ _ fun d e => ?_
    · cases q : look env0 v with
      | no => exact .inr rfl
      | val d =>
        obtain ⟨u, e1, r⟩ := R0.val v d q
        exact .inl ⟨d, u, rfl, e1, r.mono ss⟩
      | own ds => rw [q] at h; cases h.1
    · obtain ⟨u, e1, r⟩ := R0.val v d e
      rw [e1]
      rfl
/-- a list of the frame's changes -/
theorem Rel.frSet {a : Addr} {xs ys : List V} (R : Rel K (upd F a (.lst xs)) S σ H env M) (hgf : Gh.f a = none) : Rel K (upd F a (.lst ys)) S σ (upd H a (.lst ys)) env M := by
  obtain ⟨h1, h2, h3⟩ := R.c.fr a _ upd_same
  refine ⟨⟨fun b o e => ?_, fun b o e => ?_, fun b o e => ?_⟩, R.len, R.val, fun i ds e => ?_, R.dis, R.g.set hgf⟩
  · rw [upd_ne (fun z => by rw [z, h2] at e; cases e)]; exact R.c.same b o e
  · by_cases hb : b = a
    · subst hb; rw [upd_same] at e ⊢; cases e; exact ⟨rfl, h2, h3⟩
    · rw [upd_ne hb] at e ⊢; exact R.c.fr b o (by rw [upd_ne hb]; exact e)
  · have hb : b ≠ a := fun z => by rw [z, h3] at e; cases e
    exact ⟨(R.c.mem b o e).1, (R.c.mem b o e).2.mono (Same.refl _) (upd_ne hb)⟩
  · obtain ⟨b, zs, e1, e2, e3, e4, e5, r⟩ := R.own i ds e
    have hb : b ≠ a := fun z => by rw [z, upd_same] at e5; cases e5
    exact ⟨b, zs, e1, by rw [upd_ne hb]; exact e2, e3, e4, by rw [upd_ne hb] at e5 ⊢; exact e5, r⟩
theorem Rel.frAdd {a : Addr} {xs : List V} (R : Rel K F S σ H env M) (h : H a = none) : Rel K (upd F a (.lst xs)) S σ (upd H a (.lst xs)) env M := by
  have R1 : Rel K F S σ (upd H a (.lst xs)) env M := R.more fun b o e => by rw [upd_ne (ne_of_none e h)]; exact e
  refine ⟨⟨R1.c.same, fun b o e => ?_, R1.c.mem⟩, R.len, R.val, fun i ds e => ?_, R.dis, R.g.add (R.c.ffree h)⟩
  · by_cases hb : b = a
    · subst hb; rw [upd_same] at e ⊢; cases e; exact ⟨rfl, R.c.sfree h, R.c.mfree h⟩
    · rw [upd_ne hb] at e; exact R1.c.fr b o e
  · obtain ⟨b, zs, e1, e2, e3, e4, e5, r⟩ := R1.own i ds e
    have hb : b ≠ a := R.ownNe e1 ⟨ds, e⟩ h
    exact ⟨b, zs, e1, e2, e3, e4, by rw [upd_ne hb]; exact e5, r⟩
theorem Rel.frDrop {a : Addr} {xs : List V} (R : Rel K (upd F a (.lst xs)) S σ H env M) (h : F a = none) (hgf : Gh.f a = none) : Rel K F S σ H env M ∧ ∀ ds, Reps K S ds xs → NewAt K F S σ H env M a ds := by
  obtain ⟨h1, h2, h3⟩ := R.c.fr a _ upd_same
  refine ⟨⟨⟨R.c.same, fun b o e => ?_, R.c.mem⟩, R.len, R.val, fun i ds e => ?_, R.dis, R.g.drop hgf⟩, fun ds r => ⟨⟨xs, h1, r⟩, h2, h3, h, fun j es hj e => ?_⟩⟩
  · have hb : b ≠ a := fun z => by rw [z, h] at e; cases e
    exact R.c.fr b o (by rw [upd_ne hb]; exact e)
  · obtain ⟨b, zs, e1, e2, e3, e4, e5, r⟩ := R.own i ds e
    have hb : b ≠ a := fun z => by rw [z, upd_same] at e5; cases e5
    exact ⟨b, zs, e1, e2, e3, e4, by rw [upd_ne hb] at e5; exact e5, r⟩
  · obtain ⟨b, zs, e1, _, _, _, e5, _⟩ := R.own j es hj
    rw [e] at e1
    cases e1
    rw [upd_same] at e5
    cases e5
end
section
variable {X : Cx}
/-- what a comprehension's reading asks, from the lifted one -/
theorem lift_lc {wi : DTI} {g : DTG} {tt : DTT} {te : DT} {vs : List Nat} {σ : L2.St} {H : Hp} {Q : VK} (h : LN X.K (dLc wi g tt te vs) σ H Q) : tLc (LI X.K wi) (LGw X.K vs g) (LT X.K tt) (LE X.K te) vs σ H Q := by
  obtain ⟨F, S, env, M, Qd, R, t, p⟩ := h
  refine ⟨F, S, env, M, _, R, t, fun J H1 S1 env1 M1 items s1 R1 w q => ?_⟩
  obtain ⟨hown, q⟩ := q
  intro D hD
  have fD : F D = none := R1.c.ffree hD
  refine ⟨fun i m H' => m = items.length - i ∧ i ≤ items.length ∧ ∃ S' be M' av acc, Same S1 S' ∧ Rel X.K (upd F D (.lst av)) S' (wipe σ vs) H' be M' ∧ Reps X.K S' acc av ∧ lcW g tt te vs (items.drop i) acc be M' (fun ys be M2 => Qd ys (unw env1 be vs) M2),
    ⟨items.length, by simp, Nat.zero_le _, S1, wipeD env1 vs, M1, [], [], Same.refl _, (R1.frAdd (xs := []) hD).wipes vs, trivial, by rw [List.drop_zero]; exact q⟩, ?_⟩
  rintro i m H2 ⟨rfl, hi, S2, be, M2, av, acc, s2, R2, ra, q2⟩
  by_cases hlt : i < items.length
  · refine .inr ⟨w.go i H2 S2 hlt s2 R2.c.same, _, fun H' z => ⟨items.length - (i + 1), by omega, z⟩, fun x H3 y => ?_⟩
    have ed : items.drop i = items[i] :: items.drop (i + 1) := List.drop_eq_getElem_cons hlt
    rw [ed] at q2
    have hd : items[i]? = some items[i] := by simp [hlt]
    have fin : ∀ S3, Same S2 S3 → Rel X.K (upd F D (.lst av)) S3 (wipe σ vs) H3 be M2 → Rep X.K S3 items[i] x → LGw X.K vs g x (wipe σ vs) H3 fun σ2 H2 => wipe σ2 vs = wipe σ vs ∧ LT X.K tt σ2 H2 fun b H3 =>
        if b = true then LE X.K te σ2 H3 fun y H4 => ∃ acc, H4 D = some (.lst acc) ∧ acc.length < sizeLine ∧ (items.length - (i + 1) = items.length - (i + 1) ∧ i + 1 ≤ items.length ∧ ∃ S' be M' av acc', Same S1 S' ∧ Rel X.K (upd F D (.lst av)) S' (wipe σ vs) (upd H4 D (.lst (acc ++ [y]))) be M' ∧ Reps X.K S' acc' av ∧ lcW g tt te vs (items.drop (i + 1)) acc' be M' (fun ys be M2 => Qd ys (unw env1 be vs) M2))
        else (items.length - (i + 1) = items.length - (i + 1) ∧ i + 1 ≤ items.length ∧ ∃ S' be M' av acc', Same S1 S' ∧ Rel X.K (upd F D (.lst av)) S' (wipe σ vs) H3 be M' ∧ Reps X.K S' acc' av ∧ lcW g tt te vs (items.drop (i + 1)) acc' be M' (fun ys be M2 => Qd ys (unw env1 be vs) M2)) := fun S3 s3 R3 r3 => by
      have ww : wipe (wipe σ vs) vs = wipe σ vs := wipe_wipe vs fun _ z => z
      refine ⟨_, S3, be, M2, items[i], _, R3, r3, q2, fun σ4 H4 S4 env4 M4 s4 R4 w4 q4 => ⟨w4.trans ww, _, S4, env4, M4, _, R4, q4, fun b H5 S5 env5 M5 s5 R5 q5 => ?_⟩⟩
      have sx := s2.trans (s3.trans (s4.trans s5))
      cases b with
      | true =>
        refine ⟨_, S5, env5, M5, _, R5, q5, fun v H6 S6 env6 M6 d s6 R6 r6 q6 => ?_⟩
        have e6 := (R6.c.fr D _ upd_same).1
        have el : acc.length = av.length := ra.length
        have R7 : Rel X.K (upd F D (.lst (av ++ [v]))) S6 (wipe σ vs) (upd H6 D (.lst (av ++ [v]))) (wipeD env6 vs) M6 := by
          have z := (R6.frSet (ys := av ++ [v]) (R1.g.no fD)).wipes vs
          rw [w4, ww] at z
          exact z
        exact ⟨av, e6, by rw [← el]; exact q6.1, rfl, hlt, S6, wipeD env6 vs, M6, av ++ [v], acc ++ [d], sx.trans s6, R7, (ra.mono (s3.trans (s4.trans (s5.trans s6)))).append ⟨r6, trivial⟩, q6.2⟩
      | false =>
        have R7 : Rel X.K (upd F D (.lst av)) S5 (wipe σ vs) H5 (wipeD env5 vs) M5 := by
          have z := R5.wipes vs
          rw [w4, ww] at z
          exact z
        exact ⟨rfl, hlt, S5, wipeD env5 vs, M5, av, acc, sx, R7, ra.mono (s3.trans (s4.trans s5)), q5⟩
    rcases w.yld i items[i] x H2 H3 S2 hd s2 R2.c.same y with ⟨rfl, r⟩ | ⟨p1, o, hp1, rfl, r⟩
    · exact fin S2 (Same.refl _) R2 r
    · obtain ⟨R3, s3⟩ := R2.new (o := o) hp1
      exact fin _ s3 R3 r
  · obtain rfl : i = items.length := by omega
    rw [List.drop_length] at q2
    refine .inl ⟨w.stop H2 S2 s2 R2.c.same, ?_⟩
    obtain ⟨R3, nw⟩ := R2.frDrop fD (R1.g.no fD)
    have R4 : Rel X.K F S2 σ H2 (unw env1 be vs) M2 := by
      have z := Rel.restores R1 s2 R3 (wipe_length σ vs).symm vs hown
      rw [restoreS_wipe] at z
      exact z
    have n := nw acc ra
    refine p D H2 S2 _ M2 acc (s1.trans s2) R4 ⟨n.ex, n.s, n.m, n.f, fun j es hj e => ?_⟩ q2
    obtain ⟨b, zs, e1, e2, _, _, _, _⟩ := R4.own j es hj
    rw [e] at e1
    cases e1
    -- an own list of the def stands apart from the new one
    obtain ⟨h1, h2, h3⟩ := R2.c.fr D _ upd_same
    by_cases hm : j ∈ vs
    · have hj1 : look env1 j = .own es ∨ True := .inr trivial
      have key : ∀ us : List Nat, j ∈ us → us.all (fun v => notOwn (look env1 v)) = true → look (unw env1 be us) j ≠ .own es := fun us => by
        induction us with
        | nil => intro z; cases z
        | cons u us ih =>
          intro z ha
          simp only [List.all_cons, Bool.and_eq_true] at ha
          unfold unw
          by_cases e : u = j
          · subst e
            by_cases hl : u < (unw env1 be us).length
            · rw [look_put_same hl]
              intro y
              rw [y] at ha
              cases ha.1
            · intro y
              have := look_lt y (fun z => by cases z)
              rw [put_length] at this
              exact hl this
          · rw [look_put_ne e]
            exact ih ((List.mem_cons.mp z).resolve_left (Ne.symm e)) ha.2
      exact key vs hm hown hj
    · have key : ∀ us : List Nat, j ∉ us → look (unw env1 be us) j = look be j := fun us => by
        induction us with
        | nil => intro _; rfl
        | cons u us ih =>
          intro z
          unfold unw
          rw [look_put_ne (fun y => z (by rw [y]; exact List.mem_cons_self)), ih fun y => z (List.mem_cons_of_mem _ y)]
      rw [key vs hm] at hj
      obtain ⟨b, zs, f1, _, _, _, f5, _⟩ := R2.own j es hj
      rw [wipe_get hm, e] at f1
      cases f1
      rw [upd_same] at f5
      cases f5
theorem ownIx_eq (own : List (Str × Nat)) : ownIx own = own.map (·.2) := by
  induction own with
  | nil => rfl
  | cons q r ih => rw [ownIx, ih, List.map_cons]
/-- tests of a comprehension -/
@[reducible] def dTrue : DTT := fun env M Q => Q true env M
theorem ts_nil : PTs X [] (LT X.K dTrue) := ⟨fun pins s σ H Q I ⟨F, S, env, M, Qd, R, t, p⟩ => (pts_nil (X := X)).run pins s σ H Q I (p true H S env M (Same.refl _) R t)⟩
variable {elt tg iter : Expr} {ifs : List Expr} {scope : Scope} {own : List (Str × Nat)} {pos spos : Pos} {wi : DTI} {g : DTG} {tt : DTT} {te : DT}
theorem n_lc (hc : X.calm = true) (hN : X.N.Nodup) (hi : DI X tg iter wi) (ok : BlkOk X.N X.env.scope scope own)
    (hg : ∀ (s : Shared) (H : Hp) (C : Addr) (cl : List (Str × Addr)) (fp : List Addr), DGw (X.blk s H scope (compEnvC scope cl C X.env) fp) (ownIx own) tg g) (ht : ∀ (s : Shared) (H : Hp) (C : Addr) (cl : List (Str × Addr)) (fp : List Addr), PTs (X.blk s H scope (compEnvC scope cl C X.env) fp) ifs (LT X.K tt))
    (he : ∀ (s : Shared) (H : Hp) (C : Addr) (cl : List (Str × Addr)) (fp : List Addr), DE (X.blk s H scope (compEnvC scope cl C X.env) fp) elt te) (hs : ∀ x, foldedSetIterable iter X.env x = pure x := by intro _; rfl) :
    DN X (.ListComp elt [⟨tg, iter, ifs, 0⟩] scope pos) (dLc wi g tt te (ownIx own)) := by
  rw [ownIx_eq own] at hg ⊢
  exact pe_imp (pe_lc (g := LGw X.K (own.map (fun q : Str × Nat => q.2)) g) (tt := LT X.K tt) (te := LE X.K te) hc hN hi ok hg ht he hs) fun σ H Q q => lift_lc q
end
end DL
set_option Elab.async false
set_option linter.all false
set_option maxRecDepth 100000
set_option maxHeartbeats 1000000
/-! DL5: lists that grow, tuples of targets, dicts, isinstance, a def's promise by its body. -/
namespace DL
open PySem PySem.Spec PyProof.Rows L2
variable [Gh]

/-! ### xs.append(e), xs.extend(e): xs a list of one's own -/
section
variable {X : Cx} {e : Expr} {te : DT} {pos apos cpos npos : Pos}
end

/-! ### a, b = x, y: each a value or a new list -/
inductive RSl (K : PySem.W.Frag) (F S : Hp) (σ : L2.St) (H : Hp) (env : Ev) (M : Mem) : Sl → V → Prop where
  | val {d : D} {v : V} (r : Rep K S d v) : RSl K F S σ H env M (.val d) v
  | own {ds : List D} {a : Addr} (n : NewAt K F S σ H env M a ds) : RSl K F S σ H env M (.own ds) (.ref a)
section
variable {K : PySem.W.Frag} {F S H : Hp} {M : Mem} {σ : L2.St} {env : Ev}
end
/-- two expressions, each a value (false) or a new list (true) -/
inductive EK where
  | v (t : DT) | n (t : DTN)
section
variable {X : Cx} {a b c : Expr} {pos px py pz pt : Pos} {kt k2 : Nat} {pt2 : Pos}
end

/-! ### a list of one's own, read -/
section
variable {X : Cx} {e : Expr} {te : DT} {pos npos : Pos} {x : Str}
/-- xs[e] -/
@[reducible] def dIxO (i : Nat) (te : DT) : DT := fun env M Q => match look env i with
  | .own _ => te env M fun d env1 M1 => (match look env1 i, d with
    | .own ds, .int j => (match atI ds j with
      | some r => Q r env1 M1
      | none => False)
    | _, _ => False)
  | _ => False
end

/-! ### dicts with written keys -/
@[reducible] def keyD : D → Option Key
  | .int i => some (.inl i)
  | .str s => some (.inr s)
  | _ => none
section
variable {K : PySem.W.Frag} {S : Hp}
theorem keyD_kV {d : D} {v : V} {k : Key} (r : Rep K S d v) (h : keyD d = some k) : v = kV k := by
  cases d with
  | int i => cases h; exact r
  | str s => cases h; exact r
  | _ => cases h
theorem kget_valV {k : Key} {d : D} : ∀ {ks : List Key} {ds : List D} {xs : List V}, Reps K S ds xs → kget k ks ds = some d → ∃ v, valV (ks.zip xs) k = some v ∧ Rep K S d v
  | [], _, _, _, e => by cases e
  | _ :: _, [], [], _, e => by cases e
  | k' :: ks, d' :: ds, x :: xs, h, e => by
    unfold kget at e
    by_cases hk : k' = k
    · rw [if_pos hk] at e
      cases e
      exact ⟨x, by rw [List.zip_cons_cons, valV_pos (p := (k', x)) hk], h.1⟩
    · rw [if_neg hk] at e
      obtain ⟨v, e1, r⟩ := kget_valV h.2 e
      exact ⟨v, by rw [List.zip_cons_cons, valV_neg (p := (k', x)) hk, e1], r⟩
  | _ :: _, [], _ :: _, h, _ => h.elim
  | _ :: _, _ :: _, [], h, _ => h.elim
theorem zip_any {k : Key} : ∀ {ks : List Key} {xs : List V}, xs.length = ks.length → ((ks.zip xs).any fun kv => decide (kv.1 = k)) = ks.any fun k' => decide (k' = k)
  | [], [], _ => rfl
  | k' :: ks, x :: xs, h => by
    rw [List.zip_cons_cons, List.any_cons, List.any_cons, zip_any (Nat.succ.inj h)]
  | [], _ :: _, h => by cases h
  | _ :: _, [], h => by cases h
theorem putK_zip {k : Key} {v : V} {ks : List Key} {xs : List V} (h : xs.length = ks.length) : putK (ks.zip xs) k v = (kputN k ks).zip (kputD k v ks xs) ∧ (kputD k v ks xs).length = (kputN k ks).length := by
  unfold putK kputN kputD
  rw [zip_any h]
  by_cases e : (ks.any fun k' => decide (k' = k)) = true
  · rw [if_pos e, if_pos e, if_pos e]
    refine ⟨?_, by rw [List.length_zipWith, h, Nat.min_self]⟩
    clear e
    induction ks generalizing xs with
    | nil => rfl
    | cons k' ks ih =>
      cases xs with
      | nil => cases h
      | cons x xs =>
        rw [List.zip_cons_cons, List.map_cons, List.zipWith_cons_cons, List.zip_cons_cons, ih (Nat.succ.inj h)]
        by_cases q : k' = k
        · rw [if_pos q, if_pos q]
        · rw [if_neg q, if_neg q]
  · rw [if_neg e, if_neg e, if_neg e]
    refine ⟨?_, by rw [List.length_append, List.length_append, h]; rfl⟩
    rw [List.zip_append h.symm]
    rfl
theorem reps_kput {k : Key} {d : D} {v : V} (r : Rep K S d v) {ks : List Key} {ds : List D} {xs : List V} (h : Reps K S ds xs) : Reps K S (kputD k d ks ds) (kputD k v ks xs) := by
  unfold kputD
  by_cases e : (ks.any fun k' => decide (k' = k)) = true
  · rw [if_pos e, if_pos e]
    clear e
    induction ks generalizing ds xs with
    | nil => trivial
    | cons k' ks ih =>
      cases ds with
      | nil => cases xs with
        | nil => trivial
        | cons _ _ => exact h.elim
      | cons d' ds => cases xs with
        | nil => exact h.elim
        | cons x xs =>
          rw [List.zipWith_cons_cons, List.zipWith_cons_cons]
          refine ⟨?_, ih h.2⟩
          by_cases q : k' = k
          · rw [if_pos q, if_pos q]; exact r
          · rw [if_neg q, if_neg q]; exact h.1
  · rw [if_neg e, if_neg e]
    exact h.append (show Reps K S [d] [v] from ⟨r, trivial⟩)
end
section
variable {X : Cx} {o i value : Expr} {td ty tv : DT} {pos pos' : Pos}
/-- d[k] -/
@[reducible] def dDGet (td ty : DT) : DT := fun env M Q => td env M fun d env1 M1 => ty env1 M1 fun y env2 M2 => match d, keyD y with
  | .ref a, some k => (match M2 a with
    | some (.dK ks ds) => (match kget k ks ds with
      | some r => Q r env2 M2
      | none => False)
    | _ => False)
  | _, _ => False
theorem d_dget (hu : X.A.units + 1 < cLine) (ho : DE X o td) (hi : DE X i ty) (hs : NoSl i := by exact fun _ _ => rfl) : DE X (.Subscript o i pos) (dDGet td ty) := by
  refine pe_imp (pe_dget hu ho hi hs) fun σ H Q ⟨F, S, env, M, Qd, R, t, p⟩ => ⟨F, S, env, M, _, R, t, fun v H1 S1 env1 M1 d s1 R1 r1 q1 => ⟨F, S1, env1, M1, _, R1, q1, fun u H2 S2 env2 M2 y s2 R2 r2 q2 => ?_⟩⟩
  cases d with
  | ref a =>
    cases r1
    cases hk : keyD y with
    | none => simp only [hk] at q2
    | some k =>
      simp only [hk] at q2
      cases e : M2 a with
      | none => simp only [e] at q2
      | some m =>
        cases m with
        | dK ks ds =>
          simp only [e] at q2
          obtain ⟨xs, e1, l, rx⟩ := (R2.c.mem a _ e).2
          cases hg : kget k ks ds with
          | none => simp only [hg] at q2
          | some z =>
            simp only [hg] at q2
            obtain ⟨w, g1, g2⟩ := kget_valV rx hg
            refine ⟨a, w, rfl, ?_, p w H2 S2 env2 M2 z (s1.trans s2) R2 g2 q2⟩
            rw [← g1, keyD_kV r2 hk]
            exact DGet.k e1
        | _ => simp only [e] at q2
  | _ => exact q2.elim
/-- d[k] = v -/
@[reducible] def sDPutD (td ty tv : DT) : DTS := fun E env M => tv env M fun v env1 M1 => td env1 M1 fun d env2 M2 => ty env2 M2 fun y env3 M3 => match d, keyD y with
  | .ref a, some k => (match M3 a with
    | some (.dK ks ds) => ks.length < sizeLine ∧ E.nx env3 (mset M3 a (.dK (kputN k ks) (kputD k v ks ds)))
    | _ => False)
  | _, _ => False
theorem s_dput (hu : X.A.units + 1 < cLine) (ho : DE X o td) (hi : DE X i ty) (hv : DE X value tv) (hs : swapsWith value (some (.Subscript o i pos')) pos.line X.env = pure false := by rfl) : DS X (.Assign [.Subscript o i pos'] value pos) (sDPutD td ty tv) := by
  refine ps_imp (ps_dput hu ho hi hv hs) fun D σ H ⟨F, S, env, M, Ed, R, t, p⟩ => ⟨F, S, env, M, _, R, t, fun v H1 S1 env1 M1 dv s1 R1 r1 q1 => ⟨F, S1, env1, M1, _, R1, q1, fun u H2 S2 env2 M2 d s2 R2 r2 q2 => ⟨F, S2, env2, M2, _, R2, q2, fun w H3 S3 env3 M3 y s3 R3 r3 q3 => ?_⟩⟩⟩
  cases d with
  | ref a =>
    cases r2
    cases hk : keyD y with
    | none => simp only [hk] at q3
    | some k =>
      simp only [hk] at q3
      cases e : M3 a with
      | none => simp only [e] at q3
      | some m =>
        cases m with
        | dK ks ds =>
          simp only [e] at q3
          obtain ⟨xs, e1, l, rx⟩ := (R3.c.mem a _ e).2
          have z := putK_zip (k := k) (v := v) l
          refine ⟨a, _, rfl, by rw [keyD_kV r3 hk]; exact DPut.k e1 (by rw [List.length_zip, l, Nat.min_self]; exact q3.1), ?_⟩
          rw [z.1]
          exact p.nx σ _ S3 env3 _ (s1.trans (s2.trans s3)) (R3.setM (m' := .dK (kputN k ks) (kputD k dv ks ds)) e ⟨_, upd_same, z.2, reps_kput (r1.mono (s2.trans s3)) rx⟩) q3.2
        | _ => simp only [e] at q3
  | _ => exact q3.elim
end

/-! ### isinstance -/
structure ClsIs (K : PySem.W.Frag) (C : Addr) : Prop where
  cl : Cls K C
  ha : PySem.W.findIn K (.ref C) "__class__" = some (some (.builtin "object.__class__"))
  hn : PySem.W.specialIn K (.builtin "object.__class__") "__get__" = some (some (.builtin "getset_descriptor.__get__"))
  htk : PySem.W.takesIn K (.builtin "object.__class__") = some true
  hm : PySem.W.mroIn K C (.type "object") = some true
/-! ### sum -/
/-! ### a def's promise by its body -/
@[reducible] def startD (N : List Str) (ds : List D) : Ev := ds.map Sl.val ++ List.replicate (N.length - ds.length) .no
theorem look_map : ∀ {ds : List D} {r : Ev} {i : Nat} {d : D}, look (ds.map Sl.val ++ List.replicate n .no) i = .val d → ds[i]? = some d
  | [], r, i, d, h => by
    have key : ∀ (n i : Nat), look (List.replicate n Sl.no) i = .no := fun n => by
      induction n with
      | zero => intro i; rfl
      | succ n ih => intro i; cases i with
        | zero => rfl
        | succ i => exact ih i
    rw [List.map_nil, List.nil_append, key] at h
    cases h
  | d' :: ds, r, 0, d, h => by
    have e : Sl.val d' = .val d := h
    cases e
    rfl
  | d' :: ds, r, i + 1, d, h => by
    have h' : look (ds.map Sl.val ++ List.replicate n .no) i = .val d := h
    simpa using look_map (r := r) h'
theorem look_start_own : ∀ {ds : List D} {n i : Nat} {es : List D}, look (ds.map Sl.val ++ List.replicate n .no) i ≠ .own es
  | [], n, i, es => by
    have key : ∀ (n i : Nat), look (List.replicate n Sl.no) i = .no := fun n => by
      induction n with
      | zero => intro i; rfl
      | succ n ih => intro i; cases i with
        | zero => rfl
        | succ i => exact ih i
    rw [List.map_nil, List.nil_append, key]
    intro z
    cases z
  | _ :: _, n, 0, es => fun z => by cases z
  | _ :: ds, n, i + 1, es => fun z => look_start_own (ds := ds) (n := n) (i := i) (es := es) z
theorem rel_start {K : PySem.W.Frag} {F S H : Hp} {M : Mem} {N : List Str} {ds : List D} {vs : List V} (c : RelC K F S H M) (r : Reps K S ds vs) (g : GhOk F S) : Rel K F S (L2.start N vs) H (startD N ds) M := by
  have l := r.length
  refine ⟨c, ?_, fun i d e => ?_, fun i es e => absurd e look_start_own, fun i j a es fs n q1 => absurd q1 look_start_own, g⟩
  · unfold startD L2.start
    rw [List.length_append, List.length_append, List.length_map, List.length_map, List.length_replicate, List.length_replicate, l]
  · have e1 := look_map (r := []) e
    obtain ⟨v, e2, rv⟩ := r.get e1
    refine ⟨v, ?_, rv⟩
    have hi : i < vs.length := (List.getElem?_eq_some_iff.mp e2).1
    unfold L2.start
    rw [List.getElem?_append_left (by rw [List.length_map]; exact hi), List.getElem?_map, e2]
    rfl
end DL
namespace DL
open PySem PySem.Spec PyProof.Rows L2
section
variable {P : Program} {w : World} {K : PySem.W.Frag} {mg : Str → Option Value} {base : Heap} {x qual : Str} {params : Arguments} {body : List Stmt} {scope : Scope} {dvs : List V} {kws : List (Str × V)} {f : Addr} {fd : FuncData}
/-- THE RULE: a def that lets no exception out -/
theorem okD {N ps : List Str} {k : Nat} {sp : DSp} (G : FunD K x qual params body scope dvs kws f fd) (S : FnScope N ps scope) (len : ∀ ds M Q E, sp ds M Q E → ds.length = ps.length)
    (hbody : ∀ (cdv : Value) (A : Around) (outer : List Env) (s : Shared) (H : Hp) (E : XK), Room k (A.deeper (envOfC qual scope s.heap.objs.size f cdv)) →
      ∃ t, DSs (cxOf CX0 P w K mg base N qual scope f cdv A outer s H E).nox body t ∧ ∀ ds M Q Ed, sp ds M Q Ed → t { nx := fun _ M' => Q .non M', rt := Q } (startD N ds) M) : FnOk P w K mg base CX0 (k + 1) f fd ps (LSp K sp) := by
  refine G.ok S (fun vs H Q E ⟨F, S, ds, M, Qd, Ed, c, r, q, p, px⟩ => by rw [← r.length]; exact len _ _ _ _ q) fun cdv A outer s H vs Q E hr h => ?_
  obtain ⟨t, ht, hq⟩ := hbody cdv A outer s H E hr
  refine ⟨_, PSs.nox ht, ?_⟩
  obtain ⟨F, S, ds, M, Qd, Ed, c, r, q, p, px⟩ := h
  exact ⟨F, S, startD N ds, M, _, rel_start c r ghOk0, hq ds M Qd Ed q, ⟨fun σ H' S' env' M' s' R' q' => p .non H' S' M' .non s' R'.c rfl q', fun v H' S' M' d s' c' r' q' => p v H' S' M' d s' c' r' q', fun _ _ _ _ _ _ _ z => z.elim, fun _ _ _ _ _ _ _ z => z.elim⟩⟩
end
end DL
set_option Elab.async false
set_option linter.all false
set_option maxRecDepth 100000
set_option maxHeartbeats 1000000
/-! DL6: a def as its callers see it; a class that is made; the script's pen. -/
namespace DL
open PySem PySem.Spec PyProof.Rows L2
variable [Gh]

/-- a def of the top keeps a promise -/
structure Fn (P : Program) (w : World) (K : PySem.W.Frag) (mg : Str → Option Value) (base : Heap) (k : Nat) (x : Str) (ps : List Str) (sp : DSp) : Prop where
  ex : ∃ f fd, FnOk P w K mg base CX0 k f fd ps (LSp K sp) ∧ mg x = some (.ref f) ∧ PySem.W.keepIn K (.ref f) = true ∧ Binds K fd ps []
theorem LSp.imp {K : PySem.W.Frag} {sp sp' : DSp} (h : ∀ ds M Q E, sp' ds M Q E → sp ds M Q E) : ∀ vs H Q E, LSp K sp' vs H Q E → LSp K sp vs H Q E := fun vs H Q E ⟨F, S, ds, M, Qd, Ed, c, r, q, p⟩ => ⟨F, S, ds, M, Qd, Ed, c, r, h _ _ _ _ q, p⟩
theorem Fn.imp {P : Program} {w : World} {K : PySem.W.Frag} {mg : Str → Option Value} {base : Heap} {k : Nat} {x : Str} {ps : List Str} {sp sp' : DSp} (h : Fn P w K mg base k x ps sp) (i : ∀ ds M Q E, sp' ds M Q E → sp ds M Q E) : Fn P w K mg base k x ps sp' := by
  obtain ⟨f, fd, G, r⟩ := h.ex
  exact ⟨⟨f, fd, G.imp (LSp.imp i), r⟩⟩
section
variable {X : Cx} {k : Nat} {ps : List Str} {sp : DSp} {x : Str} {p pos : Pos} {e : Expr} {es : List Expr} {t : DTA}
theorem d_callF (h : Fn X.prog X.w X.K X.mg X.base k x ps sp) (hr : Room k X.A) (ha : DA X (e :: es) t) (hg : Gl X x := by rfl) (hdb : (x == ("__debug__" : Str)) = false := by decide) (he : starEach (e :: es) X.env = (false, eval e X.env) :: starEach es X.env := by rfl) (hpl : (backTo pos (starEach es X.env)).any (·.1) = false := by rfl) :
    DE X (.Call (.Name x p) (e :: es) [] pos) (dCall sp [] t) := by
  obtain ⟨f, fd, G, hm, hk, hb⟩ := h.ex
  exact d_call G hr hg hm hk hb .nil (fun _ => trivial) pass0 ha hdb he hpl
end
/-- a class of things that never change: C(..) -/
structure Cl (P : Program) (w : World) (K : PySem.W.Frag) (mg : Str → Option Value) (base : Heap) (k : Nat) (x : Str) (C : Addr) (ps : List Str) (g : List D → Option (List Str × List D)) : Prop where
  ex : ∃ f fd, FnOk P w K mg base CX0 k f fd ps (LSp K (spInit C g)) ∧ Mk K C f ∧ mg x = some (.ref C) ∧ Binds K fd ps []
section
variable {X : Cx} {k : Nat} {ps : List Str} {C : Addr} {g : List D → Option (List Str × List D)} {x : Str} {p pos : Pos} {e : Expr} {es : List Expr} {t : DTA}
end
section
variable {X : Cx} {e : Expr} {te : DT} {pos npos : Pos} {x : Str}
end

/-! ### the pen: a dict of the law's own that draws numbers from the script -/
/-- a draw: a number below m; at most n draws were done -/
def spDraw : DSp := fun ds M Q _ => ∃ p m n o, ds = [.ref p, .int m] ∧ 0 < m ∧ m < 2 ^ 30 ∧ n < 2 ^ 40 ∧ M p = some o ∧ PenO o n ∧ ∀ k o', 0 ≤ k → k < m → PenO o' (n + 1) → Q (.int k) (mset M p o')
end DL
namespace DL
open PySem PySem.Spec PyProof.Rows L2
variable [Gh]
theorem deq_nil (ds : List D) : deq (.lst ds) (.lst []) = ds.isEmpty := by
  cases ds with
  | nil => rfl
  | cons _ _ => rfl
theorem areData_ints (c : List Int) : areData (c.map D.int) = true := by
  induction c with
  | nil => rfl
  | cons _ _ ih => simp only [List.map_cons, areData, isData, ih, Bool.and_self]
theorem depDs_ints (c : List Int) : depDs (c.map D.int) = 0 := by
  induction c with
  | nil => rfl
  | cons _ _ ih => simp only [List.map_cons, depDs, depD, ih, Nat.max_self]
theorem okEq_ints (c : List Int) : okEq (.lst (c.map D.int)) := ⟨by simp only [isData, areData_ints], by simp only [depD, depDs_ints]; decide⟩
theorem okEq_nil : okEq (.lst []) := ⟨rfl, by decide⟩
theorem atI_of {α : Type} {ds : List α} {i : Int} (h0 : 0 ≤ i) (h1 : i < ds.length) : atI ds i = ds[i.toNat]? ∧ ∃ r, ds[i.toNat]? = some r := by
  have hn : i.toNat < ds.length := by omega
  refine ⟨?_, ds[i.toNat], by simp [hn]⟩
  unfold atI ixN
  rw [if_pos h0, if_pos h1]
  rfl
theorem atI_ints {c : List Int} {i : Int} (h0 : 0 ≤ i) (h1 : i < c.length) : ∃ x, atI (c.map D.int) i = some (.int x) := by
  obtain ⟨e, r, hr⟩ := atI_of (ds := c.map D.int) h0 (by rw [List.length_map]; exact h1)
  rw [List.getElem?_map] at hr e
  cases q : c[i.toNat]? with
  | none => rw [q] at hr; cases hr
  | some x => rw [q] at e; exact ⟨x, e⟩
end DL
namespace DL
open PySem PySem.Spec PyProof.Rows L2
variable [Gh]
/-- a def of the text as it stands behind the top -/
structure DefAt (K : PySem.W.Frag) (mg : Str → Option Value) (x : Str) (ps : List Str) (st : Stmt) : Prop where
  ex : ∃ f fd, FunD K x x (defArgs st) (defBody st) (defScope st) [] [] f fd ∧ mg x = some (.ref f) ∧ PySem.W.keepIn K (.ref f) = true ∧ Binds K fd ps []
end DL
namespace DL
open PySem PySem.Spec PyProof.Rows L2
theorem okF {P : Program} {w : World} {K : PySem.W.Frag} {mg : Str → Option Value} {base : Heap} {x : Str} {st : Stmt} {N ps : List Str} {k : Nat} {sp : DSp} (G : DefAt K mg x ps st) (S : FnScope N ps (defScope st)) (len : ∀ ds M Q E, sp ds M Q E → ds.length = ps.length)
    (hbody : ∀ (f : Addr) (cdv : Value) (A : Around) (outer : List Env) (s : Shared) (H : Hp) (E : XK), Room k (A.deeper (envOfC x (defScope st) s.heap.objs.size f cdv)) →
      ∃ t, DSs (cxOf CX0 P w K mg base N x (defScope st) f cdv A outer s H E).nox (defBody st) t ∧ ∀ ds M Q Ed, sp ds M Q Ed → t { nx := fun _ M' => Q .non M', rt := Q } (startD N ds) M) : Fn P w K mg base (k + 1) x ps sp := by
  obtain ⟨f, fd, F, hm, hk, hb⟩ := G.ex
  exact ⟨⟨f, fd, okD F S len (hbody f), hm, hk, hb⟩⟩
end DL
namespace DL
/-- the built-in names are still built-in ones -/
structure TxtP (mg : PySem.Str → Option PySem.Value) : Prop where
  z_len : mg "len" = none
  z_int : mg "int" = none
  z_list : mg "list" = none
  z_range : mg "range" = none
  z_min : mg "min" = none
  z_max : mg "max" = none
  z_sum : mg "sum" = none
  z_isinstance : mg "isinstance" = none
  z_tuple : mg "tuple" = none
  z_set : mg "set" = none
  z_sorted : mg "sorted" = none
  z_str : mg "str" = none
  z_enumerate : mg "enumerate" = none
  z_reversed : mg "reversed" = none
  z_all : mg "all" = none
  z_any : mg "any" = none
  z_divmod : mg "divmod" = none
  z_dict : mg "dict" = none
  z_super : mg "super" = none
  z_iter : mg "iter" = none
  z_zip : mg "zip" = none
  z_bool : mg "bool" = none
  z_abs : mg "abs" = none
  z_type : mg "type" = none
end DL
set_option Elab.async false
set_option linter.all false
set_option maxRecDepth 100000
set_option maxHeartbeats 1000000
/-! DL7: loops by induction; the pen made; ways as data. -/
namespace DL
open PySem PySem.Spec PyProof.Rows L2
variable [Gh]

/-! ### loops -/
theorem rngD_succ (lo : Int) (n : Nat) : rngD lo (n + 1) = .int lo :: rngD (lo + 1) n := by
  unfold rngD
  rw [List.range_succ_eq_map, List.map_cons, List.map_map]
  congr 1
  · show D.int (lo + ((0 : Nat) : Int)) = D.int lo
    rw [Int.natCast_zero, Int.add_zero]
  · refine List.map_congr_left fun k _ => ?_
    show D.int (lo + ((k + 1 : Nat) : Int)) = D.int (lo + 1 + (k : Int))
    congr 1
    omega
theorem rngD_zero (lo : Int) : rngD lo 0 = [] := rfl
/-- for i in range(lo, lo + n): Inv i ahead of turn i -/
theorem forW_rng {g : DTG} {tb : DTS} {E : DEnds} (Inv : Int → Ev → Mem → Prop) : ∀ (n : Nat) (lo : Int) (h0 : ∀ env M, Inv (lo + n) env M → E.nx env M)
    (hs : ∀ (i : Int) (R : Ev → Mem → Prop), lo ≤ i → i < lo + n → (∀ env M, Inv (i + 1) env M → R env M) → ∀ env M, Inv i env M → g (.int i) env M fun e1 M1 => tb { E with nx := R, ct := R, bk := E.nx } e1 M1) (env : Ev) (M : Mem), Inv lo env M → forW g tb E (rngD lo n) env M
  | 0, lo, h0, hs, env, M, h => by
    rw [rngD_zero]
    exact h0 env M (by rw [Int.natCast_zero, Int.add_zero]; exact h)
  | n + 1, lo, h0, hs, env, M, h => by
    rw [rngD_succ]
    refine hs lo _ (Int.le_refl _) (by omega) (fun env M h => ?_) env M h
    refine forW_rng Inv n (lo + 1) (fun env M h => h0 env M ?_) (fun i R h1 h2 => hs i R (by omega) (by omega)) env M h
    have e : lo + 1 + (n : Int) = lo + ((n + 1 : Nat) : Int) := by omega
    rw [← e]
    exact h
/-! ### a def that is never called -/
/-! ### the pen is made -/
theorem merge3 {a b c : Key} (h1 : ¬ a = b) (h2 : ¬ a = c) (h3 : ¬ b = c) (x y z : V) : mergeK [] [(a, x), (b, y), (c, z)] = [(a, x), (b, y), (c, z)] := by
  simp [mergeK, putK, h1, h2, h3]
section
variable {X : Cx} {e1 e2 e3 : Expr} {t1 t2 t3 : DT} {p1 p2 p3 pos : Pos} {j1 j2 j3 : Nat}
def dPen (t1 t2 t3 : DT) : DT := fun env M Q => t1 env M fun d1 env1 M1 => t2 env1 M1 fun d2 env2 M2 => t3 env2 M2 fun d3 env3 M3 => ∀ p, M3 p = none → Q (.ref p) env3 (mset M3 p (.dK penK [d1, d2, d3]))
theorem Rel.frAny {K : PySem.W.Frag} {F S H : Hp} {M : Mem} {σ : L2.St} {env : Ev} {a : Addr} {o : HO} (R : Rel K F S σ H env M) (h : H a = none) : Rel K (upd F a o) S σ (upd H a o) env M := by
  have R1 : Rel K F S σ (upd H a o) env M := R.more fun b u e => by rw [upd_ne (ne_of_none e h)]; exact e
  refine ⟨⟨R1.c.same, fun b u e => ?_, R1.c.mem⟩, R.len, R.val, fun i ds e => ?_, R.dis, R.g.add (R.c.ffree h)⟩
  · by_cases hb : b = a
    · subst hb; rw [upd_same] at e ⊢; cases e; exact ⟨rfl, R.c.sfree h, R.c.mfree h⟩
    · rw [upd_ne hb] at e; exact R1.c.fr b u e
  · obtain ⟨b, zs, e1, e2, e3, e4, e5, r⟩ := R1.own i ds e
    have hb : b ≠ a := R.ownNe e1 ⟨ds, e⟩ h
    exact ⟨b, zs, e1, e2, e3, e4, by rw [upd_ne hb]; exact e5, r⟩
/-- a thing of the frame becomes a mutable one -/
theorem Rel.frTake {K : PySem.W.Frag} {F S H : Hp} {M : Mem} {σ : L2.St} {env : Ev} {a : Addr} {o u : HO} {m : MO} (R : Rel K (upd F a o) S σ H env M) (h : F a = none) (hgf : Gh.f a = none) (hm : MOk K S (upd H a u) a m) : Rel K F S σ (upd H a u) env (mset M a m) := by
  obtain ⟨h1, h2, h3⟩ := R.c.fr a _ upd_same
  refine ⟨⟨fun b v e => ?_, fun b v e => ?_, fun b v e => ?_⟩, R.len, R.val, fun i ds e => ?_, R.dis, R.g.drop hgf⟩
  · rw [upd_ne (fun z => by rw [z, h2] at e; cases e)]; exact R.c.same b v e
  · have hb : b ≠ a := fun z => by rw [z, h] at e; cases e
    obtain ⟨g1, g2, g3⟩ := R.c.fr b v (by rw [upd_ne hb]; exact e)
    exact ⟨by rw [upd_ne hb]; exact g1, g2, by rw [mset_ne hb]; exact g3⟩
  · by_cases hb : b = a
    · subst hb; rw [mset_same] at e; cases e; exact ⟨h2, hm⟩
    · rw [mset_ne hb] at e
      exact ⟨(R.c.mem b v e).1, (R.c.mem b v e).2.mono (Same.refl _) (upd_ne hb)⟩
  · obtain ⟨b, zs, e1, e2, e3, e4, e5, r⟩ := R.own i ds e
    have hb : b ≠ a := fun z => by rw [z, upd_same] at e5; cases e5
    exact ⟨b, zs, e1, by rw [upd_ne hb]; exact e2, e3, by rw [mset_ne hb]; exact e4, by rw [upd_ne hb] at e5; exact e5, r⟩
theorem d_pen (h1 : DE X e1 t1) (h2 : DE X e2 t2) (h3 : DE X e3 t3) :
    DE X (.Dict [some (.Constant (.str "cells") j1 p1), some (.Constant (.str "at") j2 p2), some (.Constant (.str "left") j3 p3)] [e1, e2, e3] pos) (dPen t1 t2 t3) := by
  refine pe_imp (pe_disp (pps_cons pe_str h1 (pps_cons pe_str h2 (pps_cons pe_str h3 pps_nil))) rfl rfl (fun z => by cases z) (by show 3 ≤ 15; decide)) fun σ H Q ⟨F, S, env, M, Qd, R, t, p⟩ a ha => ?_
  have fa := R.c.ffree ha
  have R0 := R.frAny (o := .dK []) ha
  refine ⟨_, S, env, M, _, R0, t, fun v1 H1 S1 env1 M1 d1 s1 R1 r1 q1 => ⟨_, S1, env1, M1, _, R1, q1, fun v2 H2 S2 env2 M2 d2 s2 R2 r2 q2 => ⟨_, S2, env2, M2, _, R2, q2, fun v3 H3 S3 env3 M3 d3 s3 R3 r3 q3 => ?_⟩⟩⟩
  obtain ⟨g1, g2, g3⟩ := R3.c.fr a _ upd_same
  refine ⟨g1, [(.inr "cells", v1), (.inr "at", v2), (.inr "left", v3)], rfl, by show 3 ≤ 15; decide, ?_⟩
  rw [merge3 sk_ca sk_cl sk_al]
  exact p _ _ S3 env3 _ (.ref a) (s1.trans (s2.trans s3)) (R3.frTake (m := .dK penK [d1, d2, d3]) fa (R.g.no fa) ⟨[v1, v2, v3], upd_same, rfl, ⟨r1.mono (s2.trans s3), r2.mono s3, r3, trivial⟩⟩) rfl (q3 a g3)
/-- list(xs) -/
@[reducible] def rdList : RDA := fun ds env M Q => match ds with
  | [d] => (match seqD d with
    | some es => Q (.lst es) env M
    | none => False)
  | _ => False
theorem cd_list : CallD X (.type "list") rdList := by
  refine ⟨⟨_, call_list_of (X := X), fun F S σ H env M xs ds Qd Q R r q p => ?_⟩⟩
  cases ds with
  | nil => exact q.elim
  | cons d rs =>
    cases rs with
    | cons _ _ => exact q.elim
    | nil =>
      obtain ⟨v, rfl, r1⟩ := r.one
      have q' : (match seqD d with
        | some es => Qd (.lst es) env M
        | none => False) := q
      cases he : seqD d with
      | none => rw [he] at q'; exact q'.elim
      | some es =>
        rw [he] at q'
        have q := q'
        obtain ⟨a, ys, rfl, h, t⟩ := rep_seq R.c.same he r1
        refine ⟨a, ys, rfl, h, fun l hl => ?_⟩
        obtain ⟨R', ss⟩ := R.new (o := .lst ys) hl
        exact p _ _ _ env M (.lst es) ss R' (rep_lst t (R.c.sfree hl)) q
end
/-- the pen of a script -/
def spPen : DSp := fun ds M Q _ => ∃ ns : List Int, ds = [.lstK (ns.map D.int)] ∧ ns.length ≤ 63 ∧ ∀ p o, M p = none → PenO o 0 → Q (.ref p) (mset M p o)
/-- one of some things -/
def spPick : DSp := fun ds M Q _ => ∃ p it es n o, ds = [.ref p, it] ∧ itemsD it = some es ∧ 0 < es.length ∧ es.length < 1000000 ∧ n < 2 ^ 40 ∧ M p = some o ∧ PenO o n ∧ ∀ r o', r ∈ es → PenO o' (n + 1) → Q r (mset M p o')
end DL
set_option Elab.async false
set_option linter.all false
set_option maxRecDepth 100000
set_option maxHeartbeats 1000000
/-! DL8: texts as lists of signs; ways as data. -/
namespace DL
open PySem PySem.Spec PyProof.Rows L2
variable [Gh]

/-! ### texts -/
def tx (l : List Nat) : Str := ⟨l.toArray⟩
def lettersN : List Nat := [97, 98, 99, 100, 101, 102, 103, 104, 105, 106, 107, 108, 109, 110, 111, 112, 113, 114, 115, 116, 117, 118, 119, 120, 121, 122]
/-! ### == of own lists -/
section
variable {X : Cx} {e : Expr} {te : DT} {pos npos : Pos} {x : Str}
end

/-! ### == and in, of plain things -/
/-! ### ways as data -/
mutual
def WT.size : WT → Nat
  | .un _ w => w.size + 1
  | .many _ ws => WT.sizes ws + 1
  | _ => 1
def WT.sizes : List WT → Nat
  | [] => 0
  | w :: ws => w.size + WT.sizes ws
end
end DL
set_option Elab.async false
set_option linter.all false
set_option maxRecDepth 100000
set_option maxHeartbeats 1000000
/-! DL9: super().__init__(..) as a body's first line. -/
namespace DL
open PySem PySem.Spec PyProof.Rows L2
variable [Gh]

/-- what super().__init__ asks of the text's kept part -/
structure SupK (P : Program) (K : PySem.W.Frag) (cc cda D C f2 : Addr) (nm : Str) : Prop where
  code : ∃ ccl cdd vs ccs file tf, K.lookup cda = some ⟨ccl, cdd, .fields vs, ccs⟩ ∧ vs[2]? = some (.str file tf) ∧ ((P.main.file : Str) == file) = true
  cell : ∃ cl cld csl, K.lookup cc = some ⟨cl, cld, .cell (some (.ref D)), csl⟩
  cls : ∃ cdD, PySem.W.clsIn K D = some cdD
  sub : PySem.W.mroIn K C (.ref D) = some true
  find : PySem.W.ks_superIn K C D nm = some (some (.ref f2))
  ty : PySem.W.typeIn K (.ref f2) = some (.type "function")
  fi : PySem.W.fnIn K f2 = true
  st : PySem.W.nsIn K cStatics "thirdparty.any" = some none
  top : (P.main.scope.names.lookup ("super" : Str)).isSome = false
section
variable {X : Cx} {pins : List (Addr × Obj)} {σ : L2.St} {H : Hp} {s : Shared} {A : Around} {E : Value → Shared → Prop} {cc cda D C f f2 x dx : Addr} {nm : Str} {fs : List (Str × V)}
end

abbrev nfS (x qual : Str) (params : Arguments) (body : List Stmt) (scope : Scope) (cc cda : Addr) : NdefX.NF := ⟨x, qual, params, body, scope, [(("__class__" : Str), cc)], cda⟩
abbrev cxS (P : Program) (w : World) (K : PySem.W.Frag) (mg : Str → Option Value) (base : Heap) (N : List Str) (F : NdefX.NF) (f : Addr) (A : Around) (outer : List Env) (s : Shared) (H : Hp) (E : XK) : Cx := NdefX.ncx CX0 P w K mg base N F f A outer s H E
theorem startF_eq {N : List Str} {vs : List V} (h : vs.length + 1 ≤ N.length) : NdefX.startF N vs [none] = L2.start N vs := by
  unfold NdefX.startF L2.start
  congr 1
  rw [List.length_singleton, show N.length - vs.length = (N.length - vs.length - 1) + 1 from by omega]
  rfl
end DL
namespace DL
open PySem PySem.Spec PyProof.Rows L2
section
variable {P : Program} {w : World} {K : PySem.W.Frag} {mg : Str → Option Value} {base : Heap} {x qual : Str} {params : Arguments} {body rest : List Stmt} {scope : Scope} {cc cda f D C f2 : Addr} {fd : FuncData} {N ps : List Str} {k : Nat} {sp sp2 : DSp}
  {nm : Str} {e : Expr} {es : List Expr} {p0 p1 apos pos ep : Pos} {ar : Arg} {pl : Env → Sem Bool}
end
end DL
set_option Elab.async false
set_option linter.all false
set_option maxRecDepth 100000
set_option maxHeartbeats 1000000
/-! DL10: the package's ways as things. -/
namespace DL
open PySem PySem.Spec PyProof.Rows L2
variable [Gh]

/-- a method of the text as it stands behind the top -/
structure MethAt (K : PySem.W.Frag) (nm qual : Str) (ps : List Str) (st : Stmt) (f : Addr) : Prop where
  ex : ∃ fd, FunD K nm qual (defArgs st) (defBody st) (defScope st) [] [] f fd ∧ Binds K fd ps []
/-- .. that says super() -/
structure SupAt (P : Program) (K : PySem.W.Frag) (C : Addr) (nm qual : Str) (ps : List Str) (st : Stmt) (f f2 : Addr) : Prop where
  ex : ∃ cc cda fd, SupD K nm qual (defArgs st) (defBody st) (defScope st) cc cda f fd ∧ SupK P K cc cda C C f2 "__init__" ∧ Binds K fd ps []
/-- a leaf with a sign -/
@[reducible] def gLeaf (w n : Str) : List D → Option (List Str × List D)
  | [d] => some (wayN ++ [n], [.str w, d, .tup [], d])
  | _ => none
@[reducible] def gBare (w : Str) : List D → Option (List Str × List D)
  | [] => some (wayN, [.str w, .str "", .tup []])
  | _ => none
@[reducible] def gUn (w : Str) : List D → Option (List Str × List D)
  | [d] => some (wayN ++ [("part" : Str)], [.str w, .str "", .tup [d], d])
  | _ => none
@[reducible] def gMany (w : Str) : List D → Option (List Str × List D)
  | [it] => (match seqD it with
    | some es => some (wayN ++ [("ways" : Str)], [.str w, .str "", .tup es, .tup es])
    | none => none)
  | _ => none
def WA.has (W : WA) (C : Addr) : Prop := C = W.nothing ∨ C = W.one ∨ C = W.letter ∨ C = W.call ∨ (∃ k, C = W.un k) ∨ ∃ c, C = W.many c
end DL
namespace DL
open PySem PySem.Spec PyProof.Rows L2
variable [Gh]
end DL
namespace DL
open PySem PySem.Spec PyProof.Rows L2
variable [Gh]
end DL
namespace DL
open PySem PySem.Spec PyProof.Rows L2
variable [Gh]
/-- [g(a) for a in xs] -/
theorem lcW_mapL {α : Type} {tg : DTG} {te : DT} {vs : List Nat} {Q : KN} {f g : α → D} {be : Ev} {M : Mem} (P : α → Prop)
    (hs : ∀ a (R : D → Ev → Mem → Prop), P a → (∀ e4, wipeD e4 vs = be → R (g a) e4 M) → tg (f a) be M fun e2 M2 => te e2 M2 R) : ∀ (xs : List α) acc, (∀ a ∈ xs, P a) → acc.length + xs.length ≤ sizeLine → Q (acc ++ xs.map g) be M → lcW tg dTrue te vs (xs.map f) acc be M Q
  | [], acc, _, _, q => by rw [List.map_nil, List.append_nil] at q; exact q
  | d :: r, acc, hp, hz, q => by
    show tg (f d) be M fun e2 M2 => te e2 M2 fun y e4 M4 => acc.length < sizeLine ∧ lcW tg dTrue te vs (r.map f) (acc ++ [y]) (wipeD e4 vs) M4 Q
    refine hs d _ (hp d List.mem_cons_self) fun e4 h4 => ⟨?_, ?_⟩
    · rw [List.length_cons] at hz
      omega
    · rw [h4]
      refine lcW_mapL P hs r (acc ++ [g d]) (fun x hx => hp x (List.mem_cons_of_mem _ hx)) ?_ ?_
      · rw [List.length_append, List.length_singleton]
        rw [List.length_cons] at hz
        omega
      · rw [List.append_assoc]
        exact q
/-- the makers of ways -/
structure WCl (P : Program) (w : World) (K : PySem.W.Frag) (mg : Str → Option Value) (base : Heap) (W : WA) : Prop where
  c_nothing : Cl P w K mg base 2 "Nothing" W.nothing ["self"] (gBare "nothing")
  c_one : Cl P w K mg base 2 "One" W.one ["self"] (gBare "one")
  c_letter : Cl P w K mg base 2 "Letter" W.letter ["self", "letter"] (gLeaf "letter" "letter")
  c_call : Cl P w K mg base 2 "Call" W.call ["self", "name"] (gLeaf "call" "name")
  c_again : Cl P w K mg base 2 "Again" (W.un .again) ["self", "part"] (gUn "again")
  c_maybe : Cl P w K mg base 2 "Maybe" (W.un .maybe) ["self", "part"] (gUn "maybe")
  c_ahead : Cl P w K mg base 2 "Ahead" (W.un .ahead) ["self", "part"] (gUn "ahead")
  c_unless : Cl P w K mg base 2 "Unless" (W.un .unless) ["self", "part"] (gUn "unless")
  c_row : Cl P w K mg base 2 "Row" (W.many false) ["self", "ways"] (gMany "row")
  c_choice : Cl P w K mg base 2 "Choice" (W.many true) ["self", "ways"] (gMany "choice")
end DL
set_option Elab.async false
set_option linter.all false
set_option maxRecDepth 100000
set_option maxHeartbeats 2000000
/-! DL11: enumerate over a tuple; range downwards; lists that change within a list. -/
namespace DL
open PySem PySem.Spec PyProof.Rows L2
variable [Gh]

/-! ### enumerate over a tuple -/
section
variable {prog : Program} {w : World} {A : Around} {E : Value → Shared → Prop} {s : Shared}
end
section
variable {prog : Program} {w : World} {A : Around} {E : Value → Shared → Prop} {s : Shared}
end
end DL
set_option Elab.async false
set_option linter.all false
set_option maxRecDepth 100000
set_option maxHeartbeats 1000000
/-! DL12: lists that change, held by other things; star; defaults; what is never reached. -/
namespace DL
open PySem PySem.Spec PyProof.Rows L2
variable [Gh]

/-! ### lists that change -/
section
variable {X : Cx} {e a b o i value : Expr} {te : DTN} {ta tb to ti tv : DT} {pos pos' p : Pos}
/-- xs[i], xs may be one that changes -/
@[reducible] def rdIxM : RD2 := fun d e env M Q => match d with
  | .ref a => (match M a with
    | some (.lst ds) => (match e with
      | .int i => (match atI ds i with
        | some r => Q r env M
        | none => False)
      | _ => False)
    | _ => False)
  | _ => rdIx d e env M Q
theorem d_ixM (ha : DE X a ta) (hb : DE X b tb) (hs : PlainIx b := by exact fun _ _ => rfl) : DE X (.Subscript a b pos) (dBin rdIxM ta tb) := by
  refine pe_imp (pe_ix ix_seq ha hb hs) fun σ H Q q => lift2 (r := rIx X.K) (fun F S σ H env M x y d e Qd Q R r1 r2 q p => ?_) q
  have old : rdIx d e env M Qd → rIx X.K x y H Q := fun q => by
    unfold rdIx at q
    cases e with
    | int i =>
      cases r2
      have seq : ∀ ds, seqD d = some ds → (match atI ds i with | some r => Qd r env M | none => False) → rIx X.K x (.int i) H Q := fun ds hd q => by
        obtain ⟨p1, xs, rfl, h, t⟩ := rep_seq R.c.same hd r1
        cases he : atI ds i with
        | none => rw [he] at q; exact q.elim
        | some r =>
          rw [he] at q
          obtain ⟨v, e1, r'⟩ := reps_atI t he
          have fin := p v H S env M r (Same.refl _) R r' q
          rcases h with h | h
          · exact .inl ⟨p1, xs, i, v, rfl, rfl, h, e1, fin⟩
          · exact .inr (.inl ⟨p1, xs, i, v, rfl, rfl, h, e1, fin⟩)
      cases d with
      | str z =>
        cases r1
        obtain ⟨hz, q⟩ := q
        cases he : atI z.cps.toList i with
        | none => rw [he] at q; exact q.elim
        | some c =>
          rw [he] at q
          exact .inr (.inr ⟨z, i, c, rfl, rfl, hz, he, p _ H S env M (.str ⟨#[c]⟩) (Same.refl _) R rfl q⟩)
      | tup ds => exact seq ds rfl q
      | lst ds => exact seq ds rfl q
      | lstK ds => exact seq ds rfl q
      | _ => exact q.elim
    | _ => exact q.elim
  cases d with
  | ref a1 =>
    unfold rdIxM at q
    cases hm : M a1 with
    | none => simp only [hm] at q
    | some mo =>
      cases mo with
      | lst ds =>
        simp only [hm] at q
        cases e with
        | int i =>
          cases r2
          cases r1
          obtain ⟨_, xs, hx, t⟩ := R.c.mem a1 _ hm
          cases he : atI ds i with
          | none => simp only [he] at q
          | some r =>
            simp only [he] at q
            obtain ⟨v, e1, r'⟩ := reps_atI (t.mono R.c.same) he
            obtain ⟨v2, e2, r2'⟩ := reps_atI t he
            rw [e1] at e2
            cases e2
            exact .inl ⟨a1, xs, i, v, rfl, rfl, .of hx, e1, p v H S env M r (Same.refl _) R r2' q⟩
        | _ => simp only at q
      | _ => simp only [hm] at q
  | _ => exact old q
end

/-! ### what is never reached -/
/-! ### (*xs, y) -/
/-! ### -x -/
/-! ### range downwards -/
/-! ### things forgotten -/
/-! ### defs with defaults -/
structure Fn1 (P : Program) (w : World) (K : PySem.W.Frag) (mg : Str → Option Value) (base : Heap) (k : Nat) (x : Str) (ps : List Str) (dds : List D) (sp : DSp) : Prop where
  ex : ∃ f fd dvs dl, FnOk P w K mg base CX0 k f fd ps (LSp K sp) ∧ mg x = some (.ref f) ∧ PySem.W.keepIn K (.ref f) = true ∧ Binds K fd ps [] ∧ Binds K fd ps dl ∧ Vals dvs dl ∧ ∀ S, Reps K S dds dvs
/-- a def with defaults as it stands behind the top -/
structure DefAt1 (K : PySem.W.Frag) (mg : Str → Option Value) (x : Str) (ps : List Str) (dds : List D) (st : Stmt) : Prop where
  ex : ∃ f fd dvs dl, FunD K x x (defArgs st) (defBody st) (defScope st) dvs [] f fd ∧ mg x = some (.ref f) ∧ PySem.W.keepIn K (.ref f) = true ∧ Binds K fd ps [] ∧ Binds K fd ps dl ∧ Vals dvs dl ∧ ∀ S, Reps K S dds dvs
end DL
namespace DL
open PySem PySem.Spec PyProof.Rows L2
variable [Gh]
section
variable {X : Cx} {k : Nat} {ps : List Str} {dds : List D} {sp : DSp} {x : Str} {p pos : Pos} {e : Expr} {es : List Expr} {t : DTA}
end
end DL
set_option Elab.async false
set_option linter.all false
set_option maxRecDepth 100000
set_option maxHeartbeats 1000000
/-! DL13: parts of ways, nodes, tables: plain. -/
namespace DL
open PySem PySem.Spec PyProof.Rows L2
variable [Gh]

/-! ### parts with paths -/
mutual
/-- how deep a way goes -/
def WT.hgt : WT → Nat
  | .un _ w => w.hgt + 1
  | .many _ ws => WT.hgts ws + 1
  | _ => 1
def WT.hgts : List WT → Nat
  | [] => 0
  | w :: ws => max w.hgt (WT.hgts ws)
end
def WT.calls (w : WT) : List Str := ((w.parts []).filter fun q => q.2.word == ("call" : Str)).map fun q => q.2.sign
end DL
namespace DL
open PySem PySem.Spec PyProof.Rows L2
variable [Gh]
end DL
namespace DL
open PySem PySem.Spec PyProof.Rows L2
variable [Gh]
end DL
set_option Elab.async false
set_option linter.all false
set_option maxRecDepth 100000
set_option maxHeartbeats 1000000
/-! DL14: what a way takes of a text: plain. -/
namespace DL
open PySem PySem.Spec PyProof.Rows L2
variable [Gh]

def tkAgain (f : Nat → Option Nat) : Nat → Nat → Nat
  | 0, _ => 0
  | n + 1, p => match f p with
    | some (t + 1) => (t + 1) + tkAgain f n (p + (t + 1))
    | _ => 0
mutual
def tk (l : List Nat) : WT → Nat → Option Nat
  | .nothing, _ => some 0
  | .one, p => if p < l.length then some 1 else none
  | .letter s, p => (match l[p]? with
    | some c => if tx [c] = s then some 1 else none
    | none => none)
  | .call _, _ => none
  | .un .again w, p => some (tkAgain (tk l w) (l.length + 1) p)
  | .un .maybe w, p => some ((tk l w p).getD 0)
  | .un .ahead w, p => (tk l w p).map fun _ => 0
  | .un .unless w, p => (match tk l w p with
    | none => some 0
    | some _ => none)
  | .many true ws, p => tkChoice l ws p
  | .many false ws, p => tkRow l ws p
def tkRow (l : List Nat) : List WT → Nat → Option Nat
  | [], _ => some 0
  | w :: ws, p => (match tk l w p with
    | none => none
    | some t => (tkRow l ws (p + t)).map (t + ·))
def tkChoice (l : List Nat) : List WT → Nat → Option Nat
  | [], _ => none
  | w :: ws, p => (match tk l w p with
    | some t => some t
    | none => tkChoice l ws p)
end
def optD : Option Nat → D
  | none => .non
  | some t => .int (t : Nat)

/-! ### the law's own walk -/
def CpOk (l : List Nat) : Prop := ∀ c ∈ l, c < 1114112
end DL
namespace DL
open PySem PySem.Spec PyProof.Rows L2
variable [Gh]
end DL
namespace DL
open PySem PySem.Spec PyProof.Rows L2
variable [Gh]
/-! ### all texts of some signs -/
end DL
set_option Elab.async false
set_option linter.all false
set_option maxRecDepth 100000
set_option maxHeartbeats 1000000
/-! DL15: nodes of ways, tables. -/
namespace DL
open PySem PySem.Spec PyProof.Rows L2
variable [Gh]

mutual
def WT.nodes : WT → List Nd
  | .nothing => [⟨"nothing", "", []⟩]
  | .one => [⟨"one", "", []⟩]
  | .letter s => [⟨"letter", s, []⟩]
  | .call s => [⟨"call", s, []⟩]
  | .un k v => v.nodes ++ [⟨k.s, "", [v.nodes.length - 1]⟩]
  | .many c ws => (WT.nodesL ws [] []).1 ++ [⟨manyS c, "", (WT.nodesL ws [] []).2⟩]
def WT.nodesL : List WT → List Nd → List Nat → List Nd × List Nat
  | [], ns, tops => (ns, tops)
  | w :: ws, ns, tops => WT.nodesL ws (ns ++ w.nodes.map (Nd.up ns.length)) (tops ++ [(ns ++ w.nodes.map (Nd.up ns.length)).length - 1])
end
mutual
/-- the parts, in the order of the nodes -/
def WT.post : WT → List WT
  | .un k v => v.post ++ [.un k v]
  | .many c ws => WT.posts ws ++ [.many c ws]
  | .nothing => [.nothing]
  | .one => [.one]
  | .letter s => [.letter s]
  | .call s => [.call s]
def WT.posts : List WT → List WT
  | [] => []
  | w :: ws => w.post ++ WT.posts ws
end
inductive All2 {α β : Type} (R : α → β → Prop) : List α → List β → Prop where
  | nil : All2 R [] []
  | cons {a b as bs} : R a b → All2 R as bs → All2 R (a :: as) (b :: bs)
/-- the nodes tell the parts at their places -/
structure GoodN (ns : List Nd) (ps : List WT) : Prop where
  len : ns.length = ps.length
  at_ : ∀ (i : Nat) (n : Nd) (v : WT), ns[i]? = some n → ps[i]? = some v → n.word = v.word ∧ n.sign = v.sign ∧ All2 (fun j u => j < i ∧ ps[j]? = some u) n.below v.inner
end DL
namespace DL
open PySem PySem.Spec PyProof.Rows L2
variable [Gh]
end DL
set_option Elab.async false
set_option linter.all false
set_option maxRecDepth 100000
set_option maxHeartbeats 1000000
/-! DL16: the table of takes. -/
namespace DL
open PySem PySem.Spec PyProof.Rows L2
variable [Gh]

structure TabAt (l : List Nat) (ps : List WT) (as : List Addr) (M : Mem) (fil : Nat → Nat → Prop) : Prop where
  len : as.length = ps.length
  row : ∀ (i : Nat) (a : Addr) (v : WT), as[i]? = some a → ps[i]? = some v → ∃ ds, M a = some (.lst ds) ∧ ds.length = l.length + 1 ∧ ∀ q, fil i q → q ≤ l.length → ds[q]? = some (optD (tk l v q))
/-- a node tells a part, its parts stand at the places below -/
structure NdOf (ps : List WT) (n : Nd) (v : WT) (fil : Nat → Prop) (bw : List (Nat × WT)) : Prop where
  word : n.word = v.word
  sign : n.sign = v.sign
  below : n.below = bw.map (·.1)
  inner : v.inner = bw.map (·.2)
  at_ : ∀ q ∈ bw, fil q.1 ∧ ps[q.1]? = some q.2
end DL
namespace DL
open PySem PySem.Spec PyProof.Rows L2
variable [Gh]
/-! ### x += e -/
end DL
namespace DL
open PySem PySem.Spec PyProof.Rows L2
variable [Gh]
end DL
namespace DL
open PySem PySem.Spec PyProof.Rows L2
variable [Gh]
end DL
set_option Elab.async false
set_option linter.all false
set_option maxRecDepth 100000
set_option maxHeartbeats 1000000
/-! DL17: the table made. -/
namespace DL
open PySem PySem.Spec PyProof.Rows L2
variable [Gh]

end DL
namespace DL
open PySem PySem.Spec PyProof.Rows L2
variable [Gh]
end DL
namespace DL
open PySem PySem.Spec PyProof.Rows L2
variable [Gh]
end DL
namespace DL
open PySem PySem.Spec PyProof.Rows L2
variable [Gh]
end DL
namespace DL
open PySem PySem.Spec PyProof.Rows L2
variable [Gh]
end DL
namespace DL
open PySem PySem.Spec PyProof.Rows L2
variable [Gh]
end DL
namespace DL
open PySem PySem.Spec PyProof.Rows L2
variable [Gh]
/-- the law: whatever the script, True -/
def spTrue : DSp := fun ds _ Q _ => ∃ ns : List Int, ds = [.lstK (ns.map D.int)] ∧ ns.length ≤ 63 ∧ ∀ M', Q (.bl true) M'
end DL
set_option Elab.async false
set_option linter.all false
set_option maxRecDepth 100000
set_option maxHeartbeats 1000000
/-! DL18: a Hook that tells of defs with super() too. -/
namespace DL
open PySem PySem.Spec PyProof.Rows L2 He

section
variable {fa : List Fa} {fn sn : List DefD} {ex : PySem.W.Frag → Bool} {K : PySem.W.Frag}
theorem SaysY.sup (c : SaysY fa fn sn ex K) (i : Nat) {d : DefD} (h : sn[i]? = some d := by rfl) : fnY K d.at_ = valY d := by
  have e : sn.map (fun d => fnY K d.at_) = sn.map valY := congrArg (fun z : AlY => z.2.2) c
  have e2 : (sn.map fun d => fnY K d.at_)[i]? = (sn.map valY)[i]? := by rw [e]
  rw [List.getElem?_map, List.getElem?_map, h] at e2
  exact Option.some.inj e2
end
end DL
namespace DL
open PySem PySem.Spec PyProof.Rows L2
theorem reps_script {K : PySem.W.Frag} {S : Hp} : ∀ ns : List Int, Reps K S (ns.map D.int) (ns.map V.int)
  | [] => trivial
  | _ :: ns => ⟨rfl, reps_script ns⟩
/-- the law is called with the script -/
theorem law_start {K : PySem.W.Frag} {H : Hp} {a : Addr} {ns : List Int} {E : XK} {Q : VK} (hl : ns.length ≤ 63) (hS : SqL K H a (ns.map V.int)) (hQ : ∀ H', Q (.bl true) H') : LSp K spTrue [.ref a] H Q E :=
  ⟨fun _ => none, H, [.lstK (ns.map D.int)], fun _ => none, fun d _ => d = .bl true, KX0, ⟨Same.refl _, fun a o e => (by cases e), fun a o e => (by cases e)⟩, ⟨⟨a, _, rfl, hS, reps_script ns⟩, trivial⟩, ⟨ns, rfl, hl, fun _ => rfl⟩,
    fun v H' S' M' d s c r q => by
      subst q
      cases r
      exact hQ _, fun _ _ _ _ _ _ _ _ _ _ z => z.elim⟩
end DL
set_option Elab.async false
set_option linter.all false
set_option maxRecDepth 100000
set_option maxHeartbeats 1000000
/-! DL28: a head's run in two: what is seen of it, and what the Hook looks at; each is a kernel run of its own (less memory). -/
namespace DL
end DL
set_option Elab.async false
set_option linter.all false
set_option maxRecDepth 100000
set_option maxHeartbeats 1000000
/-! DL19a: == of tuples whose items have an own __eq__, both answers. -/
namespace GQ2
open PySem PySem.SeqAt GQ
open AutoSeq1 (wpAny_loadPart')
open MeetsSeq MeetsSeq2 MeetsSeq3 SeqRoads2
section
variable {prog : Program} {w : World} {A : Around} {R : Result → Shared → Prop}
end
section
variable {prog : Program} {w : World} {A : Around} {E : Value → Shared → Prop} {s : Shared}
end
end GQ2
namespace DL
open PySem PySem.Spec PyProof.Rows L2
variable [Gh]
/-! ### == by data, with own __eq__ in it -/
abbrev RdB := D → D → Bool → Prop
section
variable {X : Cx} {n m : Nat} {rd rd' : RdB}
end
end DL
set_option Elab.async false
set_option linter.all false
set_option maxRecDepth 100000
set_option maxHeartbeats 1000000
/-! DL19b: == of ways. -/
namespace DL
open PySem PySem.Spec PyProof.Rows L2
variable [Gh]
/-- which sort a way is, by a number -/
def WT.tag : WT → Nat
  | .nothing => 0 | .one => 1 | .letter _ => 2 | .call _ => 3
  | .un .again _ => 4 | .un .maybe _ => 5 | .un .ahead _ => 6 | .un .unless _ => 7
  | .many false _ => 8 | .many true _ => 9
open Classical in
noncomputable def wEq (v u : WT) : Bool := decide (v = u)
/-- two ways of at most k parts on the left -/
def rdW1 (W : WA) (k : Nat) : RdB := fun d e b => ∃ v u : WT, d = v.o W ∧ e = u.o W ∧ v.hgt ≤ k ∧ b = wEq v u
/-- .. or something else on the right -/
def rdW (W : WA) (k : Nat) : RdB := fun d e b => rdW1 W k d e b ∨ ∃ v : WT, d = v.o W ∧ ((∃ z, e = .str z) ∨ ∃ es, e = .tup es) ∧ b = false
def spEqW (W : WA) (k : Nat) : DSp := fun ds M Q _ => ∃ d e b, ds = [d, e] ∧ rdW W k d e b ∧ Q (.bl b) M
/-- what the text's head must have for == of ways: f the own __eq__, Wy the base class -/
structure WEq (K : PySem.W.Frag) (W : WA) (Wy f : Addr) : Prop where
  is_ : ∀ C, W.has C → ClsIs K C
  isi : ∀ C, W.has C → PySem.W.kitOne K (.ref C) (.ref Wy) = some true
  isS : PySem.W.kitOne K (.type "str") (.ref Wy) = some false
  isT : PySem.W.kitOne K (.type "tuple") (.ref Wy) = some false
  eq : ∀ C, W.has C → PySem.W.findIn K (.ref C) "__eq__" = some (some (.ref f))
  fn : PySem.W.isFn K (.ref f) = true
  nf : ∀ C C', W.has C → W.has C' → PySem.W.notFirst K C (.ref C') = true
  nfS : ∀ C, W.has C → PySem.W.notFirst K C (.type "str") = true
  nfT : ∀ C, W.has C → PySem.W.notFirst K C (.type "tuple") = true
end DL
set_option Elab.async false
set_option linter.all false
set_option maxRecDepth 100000
set_option maxHeartbeats 1000000
/-! DL19c: == of ways, the rules. -/
namespace DL
open PySem PySem.Spec PyProof.Rows L2
variable [Gh]
section
variable {X : Cx} {n k : Nat} {W : WA}
end
end DL
set_option Elab.async false
set_option linter.all false
set_option maxRecDepth 100000
set_option maxHeartbeats 1000000
/-! DL19d: a builtin that calls an own method; len of ways; a < b < c. -/
namespace DL
open PySem PySem.Spec PyProof.Rows L2
variable [Gh]
section
variable {X : Cx} {n : Nat} {f : Addr} {fd : FuncData} {ps : List Str} {sp : Sp}
end
/-- an own method that a builtin calls, on ways -/
structure OwnM (P : Program) (w : World) (K : PySem.W.Frag) (mg : Str → Option Value) (base : Heap) (W : WA) (m : Str) (k : Nat) (sp : DSp) : Prop where
  ex : ∃ f fd ps, FnOk P w K mg base CX0 k f fd ps (LSp K sp) ∧ Binds K fd ps [] ∧ PySem.W.isFn K (.ref f) = true ∧ ∀ C, W.has C → PySem.W.findIn K (.ref C) m = some (some (.ref f))
section
variable {X : Cx} {n : Nat} {W : WA}
end
/-- a method of the text for all ways, called by its name -/
structure MethW (P : Program) (w : World) (K : PySem.W.Frag) (mg : Str → Option Value) (base : Heap) (W : WA) (m : Str) (k : Nat) (f : Addr) (sp : DSp) : Prop where
  ex : ∃ fd ps, FnOk P w K mg base CX0 k f fd ps (LSp K sp) ∧ Binds K fd ps []
  cls : ∀ C, W.has C → Cls K C ∧ Meth K C m f
  fld : ∀ v : WT, ∃ C ns ds, v.o W = .obj C ns ds ∧ fget m ns ds = none
section
variable {X : Cx} {k : Nat} {W : WA} {m : Str} {f : Addr} {sp : DSp} {o e : Expr} {es : List Expr} {pos apos : Pos} {ta : DT} {t : DTA}
end
end DL
set_option Elab.async false
set_option linter.all false
set_option maxRecDepth 100000
set_option maxHeartbeats 1000000
/-! DL20: == of ways as a rule of the layer; parts by paths. -/
namespace DL
open PySem PySem.Spec PyProof.Rows L2
variable [Gh]
/-- == of ways whose left one has at most S parts -/
structure EqM (P : Program) (w : World) (K : PySem.W.Frag) (mg : Str → Option Value) (base : Heap) (W : WA) (S : Nat) (k : Nat) : Prop where
  ex : ∃ Wy f fd ps, FnOk P w K mg base CX0 k f fd ps (LSp K (spEqW W S)) ∧ Binds K fd ps [] ∧ WEq K W Wy f
/-! ### in, by deep == -/
/-! ### tuples of ints as data -/
@[reducible] def zs (p : List Nat) : List Int := p.map fun n => ((n : Nat) : Int)
/-! ### at tells the parts -/
end DL
set_option Elab.async false
set_option linter.all false
set_option maxRecDepth 100000
set_option maxHeartbeats 1000000
/-! DL21: what a head's facts must tell of the ways' classes, as Bools. -/
namespace DL
open PySem PySem.Spec PyProof.Rows L2 He
end DL
set_option Elab.async false
set_option linter.all false
set_option maxRecDepth 100000
set_option maxHeartbeats 1000000
/-! DL22: texts joined, repeated. -/
namespace DL
open PySem PySem.Spec PyProof.Rows L2
variable [Gh]
section
variable {X : Cx}
end
end DL
set_option Elab.async false
set_option linter.all false
set_option maxRecDepth 100000
set_option maxHeartbeats 1000000
/-! DL23: papers of needs; all; is of bools. -/
namespace DL
open PySem PySem.Spec PyProof.Rows L2
variable [Gh]
/-! ### all, is -/
/-! ### fields by their names -/
/-! ### papers -/
def lookN : List Str := ["need", "one", "other"]
def endN : List Str := ["head", "ring", "one", "other"]
structure PA where
  lk : Addr
  en : Addr
structure POk (K : PySem.W.Frag) (B : PA) : Prop where
  lk : ∀ n ∈ lookN, FldOk K B.lk n
  en : ∀ n ∈ endN, FldOk K B.en n
  isL : ClsIs K B.lk
  isE : ClsIs K B.en
  no : PySem.W.kitOne K (.ref B.lk) (.ref B.en) = some false
  yes : PySem.W.kitOne K (.ref B.en) (.ref B.en) = some true
/-! ### what two texts have in common -/
/-! ### promises -/
section
variable {a b c d : D}
end
/-! ### the law's own words for papers -/
/-! ### what a head tells of papers -/
end DL
set_option Elab.async false
set_option linter.all false
set_option maxRecDepth 100000
set_option maxHeartbeats 1000000
/-! DL24: own + and |, != by an own __eq__, str by an own __str__. -/
namespace DLW
open PySem PySem.W PySem.Calls PyProof.Rows Builtin
section
variable {M : Model} {h : Heap} {K : Frag} {C C' f : Addr} {nm : String}
end
section
variable {prog : Program} {w : World} {A : Around} {E : Value → Shared → Prop} {s : Shared} {K : Frag} {x C C' L f : Addr} {h₀ : Heap} {m : Str → Option Value} {ox : Obj} {od : Option Obj}
end
end DLW
namespace DL
open PySem PySem.Spec PyProof.Rows L2
variable [Gh]
/-- of which type a value is seen to be -/
inductive TyL (K : PySem.W.Frag) (H : Hp) : V → Value → Prop where
  | str (z : Str) : TyL K H (.str z) (.type "str")
  | tup {p : Addr} {ys : List V} (h : SqT K H p ys) : TyL K H (.ref p) (.type "tuple")
  | lst {p : Addr} {ys : List V} (h : H p = some (.lst ys)) : TyL K H (.ref p) (.type "list")
  | ins {p C dx : Addr} {fs : List (Str × V)} (h : H p = some (.ins C dx fs)) : TyL K H (.ref p) (.ref C)
/-- what two ways' + and | want of the head -/
structure BinW (K : PySem.W.Frag) (W : WA) (m r : Str) (f : Addr) : Prop where
  fst : ∀ C, W.has C → PySem.W.selfFirst K C = true
  at_ : ∀ C, W.has C → PySem.W.findIn K (.ref C) m = some (some (.ref f))
  no : ∀ C, W.has C → PySem.W.findIn K (.ref C) r = some none
  nf : ∀ C C', W.has C → W.has C' → C ≠ C' → PySem.W.subIn K (.ref C') (.ref C) = some false
  fn : PySem.W.isFn K (.ref f) = true
def spBinW (W : WA) (c : Bool) : DSp := fun ds M Q _ => ∃ v u : WT, ds = [v.o W, u.o W] ∧ Q ((WT.many c [v, u]).o W) M
structure BinM (P : Program) (w : World) (K : PySem.W.Frag) (mg : Str → Option Value) (base : Heap) (W : WA) (c : Bool) (m r : Str) (k : Nat) : Prop where
  ex : ∃ f fd ps, FnOk P w K mg base CX0 k f fd ps (LSp K (spBinW W c)) ∧ Binds K fd ps [] ∧ BinW K W m r f
section
variable {X : Cx} {n : Nat} {W : WA}
end
end DL
namespace DL
open PySem PySem.Spec PyProof.Rows L2
variable [Gh]
/-- != of ways -/
structure NeM (K : PySem.W.Frag) (W : WA) : Prop where
  ne : ∀ C, W.has C → PySem.W.findIn K (.ref C) "__ne__" = some (some (.builtin "object.__ne__"))
section
variable {X : Cx} {n S : Nat} {W : WA}
end
end DL
namespace DL
open PySem PySem.Spec PyProof.Rows L2
variable [Gh]
/-! ### f-strings -/
inductive DJ (X : Cx) : List Expr → List DT → Prop where
  | nil : DJ X [] []
  | cons {e : Expr} {t : DT} {es : List Expr} {ts : List DT} (h : DE X e t) (r : DJ X es ts) : DJ X (e :: es) (t :: ts)
section
variable {X : Cx}
/-! ### d[k] of a dict of the text -/
/-- a table of the text with texts as keys -/
structure TabK (K : PySem.W.Frag) (w : World) (a : Addr) (kvs : List (Str × D)) : Prop where
  at_ : ∀ z r, kvs.lookup z = some r → ∃ v, KDct K w a z v ∧ ∀ S, Rep K S r v
end
end DL
set_option Elab.async false
set_option linter.all false
set_option maxRecDepth 100000
set_option maxHeartbeats 1000000
/-! DL25: texts of ways. -/
namespace DL
open PySem PySem.Spec PyProof.Rows L2
variable [Gh]
def brkK (v : WT) (k : Nat) : Bool := match v.tag with
  | 9 => true
  | 8 => decide (k ≠ 9)
  | 6 => decide (k = 4) || decide (k = 5)
  | 7 => decide (k = 4) || decide (k = 5)
  | _ => false
/-- ways that stand for their words -/
@[reducible] def w4 : WT := .un .again .nothing
/-! ### ways as data are equal just if they are -/
/-! ### sizes, kinds, what is told -/
end DL
set_option Elab.async false
set_option linter.all false
set_option maxRecDepth 100000
set_option maxHeartbeats 1000000
/-! DL26: k02's ways told and turned. -/
namespace DL
open PySem PySem.Spec PyProof.Rows L2
variable [Gh]
theorem rngD_nat (n : Nat) : rngD 0 n = (List.range n).map fun i => .int (i : Nat) := by
  unfold rngD
  exact List.map_congr_left fun i _ => by rw [Int.zero_add]
end DL
set_option Elab.async false
set_option linter.all false
set_option maxRecDepth 100000
set_option maxHeartbeats 1000000
/-! DL27: C(xs), xs a list of one's own: lent, and one's own still. -/
namespace DL
open PySem PySem.Spec PyProof.Rows L2
variable [Gh]
section
variable {K : PySem.W.Frag} {S S' : Hp}
end
section
variable {X : Cx} {C : Addr} {k : Nat} {ps : List Str} {g : List D → Option (List Str × List D)} {x y : Str} {p pos npos : Pos}
end
end DL
set_option Elab.async false
set_option linter.all false
set_option maxRecDepth 100000
set_option maxHeartbeats 1000000
/-! DL29: a Hook that tells of tables too; what k02's head must tell. -/
namespace DL
open PySem PySem.Spec PyProof.Rows L2 He
section
variable {fa : List Fa} {fn sn : List DefD} {ex : PySem.W.Frag → Bool} {ts : List Tab} {w : World} {K : PySem.W.Frag}
end
section
variable {K : PySem.W.Frag}
end
end DL
set_option Elab.async false
set_option linter.all false
set_option maxRecDepth 100000
set_option maxHeartbeats 1000000
/-! DL30: exceptions: calls that may raise, raise, try .. except, defs that let exceptions out. -/
namespace DL
open PySem PySem.Spec PyProof.Rows L2

/-- a wish of the lifted readings -/
abbrev KW := Addr → List Str → List D → Ev → Mem → Prop
def WD [Gh] (K : PySem.W.Frag) (Wd : KW) : WX := fun cls d σ H => ∃ F S env M C ns ds, Rel K F S σ H env M ∧ cls = .ref C ∧ XRep K S d ns ds ∧ Wd C ns ds env M
def TakesD [Gh] (X : Cx) (Wd : KW) : Prop := Takes X (WD X.K Wd)
section
variable {g : Gh} {K : PySem.W.Frag} {F S H : Hp} {σ : L2.St} {env : Ev} {M : Mem}
theorem relC (R : @Rel g K F S σ H env M) : RelC K F S H M := @Rel.c g K F S σ H env M R
theorem relG (R : @Rel g K F S σ H env M) : @GhOk g F S := @Rel.g g K F S σ H env M R
theorem relF (R : @Rel g K F S σ H env M) : Same g.f F := @GhOk.f g F S (relG R)
theorem relS (R : @Rel g K F S σ H env M) : Same g.s S := @GhOk.s g F S (relG R)
theorem relUp {S' : Hp} (R : @Rel g K F S σ H env M) (e : Same S S') : @GhOk g F S' := @GhOk.up g F S S' (relG R) e
theorem relStore {i : Nat} {d : D} {v : V} (R : @Rel g K F S σ H env M) (r : Rep K S d v) : @Rel g K F S (σ.set i (some v)) H (put env i (.val d)) M := @Rel.store g K F S H M σ env R i d v r
theorem relWipe (R : @Rel g K F S σ H env M) (v : Nat) : @Rel g K F S (σ.set v none) H (put env v .no) M := @Rel.wipe1 g K F S H M σ env R v
end
/-- the same state, other ghosts -/
theorem Rel.regh {g g' : Gh} {K : PySem.W.Frag} {F F' S H : Hp} {σ : L2.St} {env : Ev} {M : Mem} (R : @Rel g K F' S σ H env M) (e : Same F F') (ok : @GhOk g' F S) : @Rel g' K F S σ H env M :=
  @Rel.mk g' K F S σ H env M ((relC R).sub e) (@Rel.len g K F' S σ H env M R) (@Rel.val g K F' S σ H env M R) (fun i ds q => by
    obtain ⟨a, xs, e1, e2, e3, e4, e5, r⟩ := @Rel.own g K F' S σ H env M R i ds q
    refine ⟨a, xs, e1, e2, e3, e4, ?_, r⟩
    cases z : F a with
    | none => rfl
    | some o => rw [e a o z] at e5; cases e5) (@Rel.dis g K F' S σ H env M R) ok
theorem PostS.regh {g g' : Gh} {K : PySem.W.Frag} {F S : Hp} {Ed : DEnds} {E : Ends} (p : @PostS g K F S Ed E) (ok : ∀ S', Same S S' → @GhOk g F S') : @PostS g' K F S Ed E :=
  @PostS.mk g' K F S Ed E (fun σ H' S' env' M' s' R' q => @PostS.nx g K F S Ed E p σ H' S' env' M' s' (Rel.regh R' (fun _ _ z => z) (ok S' s')) q) (@PostS.rt g K F S Ed E p)
    (fun σ H' S' env' M' s' R' q => @PostS.bk g K F S Ed E p σ H' S' env' M' s' (Rel.regh R' (fun _ _ z => z) (ok S' s')) q) (fun σ H' S' env' M' s' R' q => @PostS.ct g K F S Ed E p σ H' S' env' M' s' (Rel.regh R' (fun _ _ z => z) (ok S' s')) q)
theorem ghSelf {F S : Hp} : @GhOk ⟨F, S⟩ F S := @GhOk.mk ⟨F, S⟩ F S (fun _ _ e => e) (fun _ _ e => e)
/-- a start at other ghosts -/
theorem postR {g : Gh} {K : PySem.W.Frag} {F S : Hp} {Qd : KR} {Q : VK} (p : PostR K F S Qd Q) : @PostS g K F S { nx := fun _ M' => Qd .non M', rt := Qd } { nx := fun _ H' => Q .non H', rt := Q } :=
  @PostS.mk g K F S _ _ (fun σ H' S' env' M' s' R' q' => p .non H' S' M' .non s' (relC R') rfl q') (fun v H' S' M' d s' c' r' q' => p v H' S' M' d s' c' r' q') (fun _ _ _ _ _ _ _ z => z.elim) (fun _ _ _ _ _ _ _ z => z.elim)

/-- a def of the top that may raise keeps a promise -/
structure FnX (P : Program) (w : World) (K : PySem.W.Frag) (mg : Str → Option Value) (base : Heap) (k : Nat) (x : Str) (ps : List Str) (sp : DSp) : Prop where
  ex : ∃ f fd, FnOk P w K mg base (L2.CX P w) k f fd ps (LSp K sp) ∧ mg x = some (.ref f) ∧ PySem.W.keepIn K (.ref f) = true ∧ Binds K fd ps []
/-- a call that may raise -/
@[reducible] def dCallX (Wd : KW) (sp : DSp) (t : DTA) : DT := fun env M Q => t env M fun ds env1 M1 => sp ds M1 (fun d M2 => Q d env1 M2) (fun C ns es M2 => Wd C ns es env1 M2)
section
variable [Gh]
theorem sp_ofX {K : PySem.W.Frag} {F S H : Hp} {M : Mem} {σ : L2.St} {env : Ev} {sp : DSp} {ds : List D} {vs : List V} {Qd : KD} {Q : VK} {Wd : KW} (R : Rel K F S σ H env M) (r : Reps K S ds vs)
    (q : sp ds M (fun d M2 => Qd d env M2) (fun C ns es M2 => Wd C ns es env M2)) (p : PostE K F S σ Qd Q) : LSp K sp vs H Q (WE (WD K Wd) σ) :=
  ⟨frOwn F env σ H, S, ds, M, _, _, R.toC, r, q, fun v H' S' M' d s' c r' q' => p v H' S' env M' d s' (R.back c s') r' q', fun C od H' S' M' ns es s' c x q' => ⟨F, S', env, M', C, ns, es, R.back c s', rfl, x, q'⟩⟩
end
section
variable [Gh] {X : Cx} {k : Nat} {ps : List Str} {sp : DSp} {x : Str} {p pos : Pos} {e : Expr} {es : List Expr} {t : DTA} {Wd : KW}
theorem d_callX (tk : TakesD X Wd) (h : FnX X.prog X.w X.K X.mg X.base k x ps sp) (hr : Room k X.A) (ha : DA X (e :: es) t) (hg : Gl X x := by rfl) (hdb : (x == ("__debug__" : Str)) = false := by decide) (he : starEach (e :: es) X.env = (false, eval e X.env) :: starEach es X.env := by rfl) (hpl : (backTo pos (starEach es X.env)).any (·.1) = false := by rfl) :
    DE X (.Call (.Name x p) (e :: es) [] pos) (dCallX Wd sp t) := by
  obtain ⟨f, fd, G, hm, hk, hb⟩ := h.ex
  exact pe_imp (pe_callS G hr hg hm hk hb (fun σ => passAt tk σ) ha hdb he hpl) fun σ H Q ⟨F, S, env, M, Qd, R, t, p⟩ => ⟨F, S, env, M, _, R, t, fun vs H' S' env' M' ds s' R' r q => sp_ofX R' r q (p.up s')⟩
end

section
variable {X : Cx} {k : Nat} {f : Addr} {fd : FuncData} {ps : List Str} {sp : Sp} {E : L2.St → XK} {m : Str} {pos apos : Pos} {e o : Expr} {es : List Expr} {ta : TE} {t : TA}
end
section
variable [Gh] {X : Cx} {k : Nat} {f : Addr} {fd : FuncData} {ps : List Str} {sp : DSp} {m : Str} {pos apos : Pos} {e o : Expr} {es : List Expr} {ta : DT} {t : DTA} {Wd : KW}
end

/-! ### a def that lets exceptions out, by its body -/
section
variable {P : Program} {w : World} {K : PySem.W.Frag} {mg : Str → Option Value} {base : Heap} {x qual : Str} {params : Arguments} {body : List Stmt} {scope : Scope} {dvs : List V} {kws : List (Str × V)} {f : Addr} {fd : FuncData}
abbrev kwOf (Ed : KX) : KW := fun C ns es _ M => Ed C ns es M
theorem okDX {N ps : List Str} {k : Nat} {sp : DSp} (G : FunD K x qual params body scope dvs kws f fd) (S : FnScope N ps scope) (len : ∀ ds M Q E, sp ds M Q E → ds.length = ps.length)
    (hbody : ∀ [Gh] (cdv : Value) (A : Around) (outer : List Env) (s : Shared) (H : Hp) (E : XK) (Ed : KX), Room k (A.deeper (envOfC qual scope s.heap.objs.size f cdv)) → TakesD (cxOf (L2.CX P w) P w K mg base N qual scope f cdv A outer s H E) (kwOf Ed) →
      ∃ t, DSs (cxOf (L2.CX P w) P w K mg base N qual scope f cdv A outer s H E) body t ∧ ∀ ds M Q, sp ds M Q Ed → t { nx := fun _ M' => Q .non M', rt := Q } (startD N ds) M) : FnOk P w K mg base (L2.CX P w) (k + 1) f fd ps (LSp K sp) := by
  refine G.ok S (fun vs H Q E ⟨F, S, ds, M, Qd, Ed, c, r, q, p, px⟩ => by rw [← r.length]; exact len _ _ _ _ q) fun cdv A outer s H vs Q E hr h => ?_
  obtain ⟨F, S, ds, M, Qd, Ed, c, r, q, p, px⟩ := h
  have tk : Takes (cxOf (L2.CX P w) P w K mg base N qual scope f cdv A outer s H E) (fun cls d _ H => E cls d H) := takes_of rfl rfl rfl rfl
  obtain ⟨t, ht, hq⟩ := @hbody ⟨F, S⟩ cdv A outer s H E Ed hr (Takes.imp tk fun cls d σ H' ⟨F', S', env, M', C, ns, es, R, e, xr, w⟩ => by
    subst e
    exact px C d H' S' M' ns es (relS R) ((relC R).sub (relF R)) xr w)
  refine ⟨_, ht, ?_⟩
  exact ⟨F, S, startD N ds, M, _, @rel_start ⟨F, S⟩ _ _ _ _ _ _ _ _ c r ghSelf, hq ds M Qd q, postR p⟩
end
theorem okFX {P : Program} {w : World} {K : PySem.W.Frag} {mg : Str → Option Value} {base : Heap} {x : Str} {st : Stmt} {N ps : List Str} {k : Nat} {sp : DSp} (G : DefAt K mg x ps st) (S : FnScope N ps (defScope st)) (len : ∀ ds M Q E, sp ds M Q E → ds.length = ps.length)
    (hbody : ∀ [Gh] (f : Addr) (cdv : Value) (A : Around) (outer : List Env) (s : Shared) (H : Hp) (E : XK) (Ed : KX), Room k (A.deeper (envOfC x (defScope st) s.heap.objs.size f cdv)) → TakesD (cxOf (L2.CX P w) P w K mg base N x (defScope st) f cdv A outer s H E) (kwOf Ed) →
      ∃ t, DSs (cxOf (L2.CX P w) P w K mg base N x (defScope st) f cdv A outer s H E) (defBody st) t ∧ ∀ ds M Q, sp ds M Q Ed → t { nx := fun _ M' => Q .non M', rt := Q } (startD N ds) M) : FnX P w K mg base (k + 1) x ps sp := by
  obtain ⟨f, fd, F, hm, hk, hb⟩ := G.ex
  exact ⟨⟨f, fd, okDX F S len (fun {_} cdv A outer s H E Ed hr tk => hbody f cdv A outer s H E Ed hr tk), hm, hk, hb⟩⟩

/-! ### raise -/
@[reducible] def sRaise (Wd : KW) (C : Addr) (ns : List Str) (t : DTA) : DTS := fun _ env M => t env M fun ds env1 M1 => ds.length = ns.length ∧ ns.length ≤ 1000 ∧ Wd C ns.reverse ds.reverse env1 M1
theorem Reps.rev {K : PySem.W.Frag} {S : Hp} : ∀ {ds : List D} {vs : List V}, Reps K S ds vs → Reps K S ds.reverse vs.reverse
  | [], [], _ => trivial
  | d :: ds, v :: vs, h => by
    rw [List.reverse_cons, List.reverse_cons]
    exact (Reps.rev h.2).append (show Reps K S [d] [v] from ⟨h.1, trivial⟩)
  | [], _ :: _, h => h.elim
  | _ :: _, [], h => h.elim
section
variable [Gh] {X : Cx} {k : Nat} {x : Str} {C : Addr} {ns : List Str} {p pos rpos : Pos} {e : Expr} {es : List Expr} {t : DTA} {Wd : KW}
theorem s_raise (hc : X.calm = true) (tk : TakesD X Wd) (h : ExCl X.prog X.w X.K X.mg X.base k x C ns) (hr : Room (k + 1) X.A) (ha : DA X (e :: es) t) (hg : Gl X x := by rfl) (hdb : (x == ("__debug__" : Str)) = false := by decide)
    (he : starEach (e :: es) X.env = (false, eval e X.env) :: starEach es X.env := by rfl) (hpl : (backTo pos (starEach es X.env)).any (·.1) = false := by rfl) :
    DS X (.Raise (some (.Call (.Name x p) (e :: es) [] pos)) none rpos) (sRaise Wd C ns t) := by
  obtain ⟨fI, fd, ps, h1, h2, h3, h4⟩ := h.ex
  refine ps_imp (ps_raise hc tk (pmk_oex h.oex h1 h2 h3 hr h4 .nil pass0 hg h.gm ha hdb he hpl)) fun D σ H ⟨F, S, env, M, Ed, R, t, p⟩ => ⟨F, S, env, M, _, R, t, fun vs H1 S1 env1 M1 ds s1 R1 r1 q1 => ?_⟩
  obtain ⟨l1, l2, q⟩ := q1
  have lv : vs.length = ns.length := by rw [← r1.length]; exact l1
  refine ⟨by rw [lv]; exact l2, fun a ha => ⟨a, vs ++ [], rfl, by rw [List.append_nil]; exact lv, upd_same, fun d hd hne => ⟨rfl, d, ns.reverse.zip vs.reverse, upd_same, by rw [upd_ne hne, upd_same, List.append_nil], ?_, ?_⟩⟩⟩
  · rw [upd_ne hne] at hd; exact hd
  · have hd1 : H1 d = none := by rw [upd_ne hne] at hd; exact hd
    have eH : upd (L2.del (upd (upd (upd H1 a (exo a C none)) d (exd d (ns.reverse.zip (vs ++ []).reverse))) a (exo a C (some d))) a) d (.xd (ns.reverse.zip vs.reverse)) = upd H1 d (.xd (ns.reverse.zip vs.reverse)) := by
      funext b
      by_cases hb : b = d
      · rw [hb, upd_same, upd_same]
      · rw [upd_ne hb, upd_ne hb]
        by_cases hba : b = a
        · rw [hba, del_same, ha]
        · rw [del_ne hba, upd_ne hba, upd_ne hb, upd_ne hba]
    rw [eH]
    obtain ⟨R2, s2⟩ := R1.new (o := .xd (ns.reverse.zip vs.reverse)) hd1
    exact ⟨F, _, env1, M1, C, ns.reverse, ds.reverse, R2, rfl, .inr ⟨d, vs.reverse, rfl, upd_same, by rw [List.length_reverse, List.length_reverse, lv], (r1.mono s2).rev⟩, q⟩
end

/-! ### try: .. except x as n: .. -/
@[reducible] def wTry (K : PySem.W.Frag) (c : Value) (i : Nat) (th : Addr → Addr → List Str → List D → DTS) (Wo : KW) (Ed : DEnds) : KW := fun C ns es env M =>
  ∃ b, PySem.W.exmOne K (.ref C) c = some b ∧ (b = true → ∀ a, th a C ns es { nx := fun e' M' => Ed.nx (put e' i .no) M', rt := Ed.rt, bk := fun e' M' => Ed.bk (put e' i .no) M', ct := fun e' M' => Ed.ct (put e' i .no) M' } (put env i (.val (.ref a))) M) ∧
    (b = false → Wo C ns es env M)
@[reducible] def sTry (K : PySem.W.Frag) (c : Value) (i : Nat) (tb : KW → DTS) (th : Addr → Addr → List Str → List D → DTS) (Wo : KW) : DTS := fun Ed env M => tb (wTry K c i th Wo Ed) Ed env M
section
variable [go : Gh] {X : Cx} {x n : Str} {c : Value} {i : Nat} {body suite : List Stmt} {b₀ : Stmt} {np pos pos' : Pos} {tb : KW → DTS} {th : Addr → Addr → List Str → List D → DTS} {Wo : KW}
theorem s_tryAs (tko : TakesD X Wo) (hN : X.N.Nodup) (hc : Names X x c)
    (hb : ∀ [Gh] (Wd : KW) (pn : List (Addr × Obj)) (xe : Value → Shared → Prop), TakesD (X.tr pn xe) Wd → PassesOwn (model X.prog X.w) X.A X.env xe → DSs (X.tr pn xe) body (tb Wd))
    (hsu : ∀ [Gh] (a C : Addr) (d : Option Addr) (ns : List Str) (es : List D) (oe : Obj) (pn : List (Addr × Obj)), XRep X.K Gh.s d ns es → Zc (.ref C) d oe → (∃ vs, oe.data = .fields vs) → DSs (X.suite a ((a, oe) :: pn)) (b₀ :: suite) (th a C ns es))
    (hi : X.N[i]? = some n := by rfl) (hs : X.stack = X.env :: X.outer := by rfl) (hf : X.env.frame = some X.env.locals := by rfl) (hln : X.env.kindOf n = some .local := by rfl) :
    DS X (.Try body [.ExceptHandler (some (.Name x np)) (some n) (b₀ :: suite) pos'] [] [] pos) (sTry X.K c i tb th Wo) := by
  refine ps_imp (ps_try_as (i := i) (Wout := WD X.K Wo) (ts := fun a cls d E0 σ H => ∃ (g : Gh) (C : Addr) (ns : List Str) (es : List D), cls = .ref C ∧ XRep X.K g.s d ns es ∧ @LS g X.K (th a C ns es) E0 σ H)
    (tb := fun W E0 σ H => ∃ (g : Gh) (Wd : KW), (∀ cls d σ H, @WD g X.K Wd cls d σ H → W cls d σ H) ∧ @LS g X.K (tb Wd) E0 σ H) hs hf hN hi hln hc tko
    (fun W pn xe tk po => ⟨fun pins s σ H D I ⟨g, Wd, hw, q⟩ => (@hb g Wd pn xe (Takes.imp tk hw) po).run pins s σ H D I q⟩)
    (fun a oe cls d pn hz hf => ⟨fun pins s σ H D I ⟨g, C, ns, es, e, x, q⟩ => by
      subst e
      exact (@hsu g a C d ns es oe pn x hz hf).run pins s σ H D I q⟩)) fun D σ H ⟨F, S, env, M, Ed, R, t, p⟩ => ?_
  refine ⟨⟨F, S⟩, wTry X.K c i th Wo Ed, fun cls d σ' H' ⟨F', S', env', M', C, ns, es, R', e, xr, b, hb1, hy, hn⟩ => ?_, F, S, env, M, Ed, Rel.regh R (fun _ _ z => z) ghSelf, t, PostS.regh p fun S' s' => relUp R s'⟩
  subst e
  have gs : Same S S' := relS R'
  have gf : Same F F' := relF R'
  refine ⟨b, hb1, fun eb a ha => ?_, fun eb => ?_⟩
  · refine ⟨⟨F, S'⟩, C, ns, es, rfl, xr, F, S', put env' i (.val (.ref a)), M', _, relStore (Rel.regh R' gf ghSelf) rfl, hy eb a, ?_⟩
    have back : ∀ {σ2 : L2.St} {H2 S2 : Hp} {env2 : Ev} {M2 : Mem}, Same S' S2 → @Rel ⟨F, S'⟩ X.K F S2 σ2 H2 env2 M2 → @Rel go X.K F S2 (σ2.set i none) H2 (put env2 i .no) M2 := fun s2 R2 => relWipe (Rel.regh R2 (fun _ _ z => z) (relUp R (gs.trans s2))) i
    exact @PostS.mk ⟨F, S'⟩ X.K F S' _ _ (fun σ2 H2 S2 env2 M2 s2 R2 q2 => p.nx _ H2 S2 _ M2 (gs.trans s2) (back s2 R2) q2) (fun v H2 S2 M2 d2 s2 c2 r2 q2 => p.rt v H2 S2 M2 d2 (gs.trans s2) c2 r2 q2)
      (fun σ2 H2 S2 env2 M2 s2 R2 q2 => p.bk _ H2 S2 _ M2 (gs.trans s2) (back s2 R2) q2) (fun σ2 H2 S2 env2 M2 s2 R2 q2 => p.ct _ H2 S2 _ M2 (gs.trans s2) (back s2 R2) q2)
  · exact ⟨F, S', env', M', C, ns, es, Rel.regh R' gf (relUp R gs), rfl, xr, hn eb⟩
theorem takesD0 : TakesD X (fun _ _ _ _ _ => False) := Takes.imp takes0 fun _ _ _ _ ⟨_, _, _, _, _, _, _, _, _, _, z⟩ => z
end

/-! ### a field of the exception that is held -/
structure XfOk (K : PySem.W.Frag) (C : Addr) (f : Str) : Prop where
  c : XfC K C
  no : PySem.W.findIn K (.ref C) f = some none
@[reducible] def dXf (K : PySem.W.Frag) (a C : Addr) (ns : List Str) (es : List D) (f : Str) (te : DT) : DT := fun env M Q => XfOk K C f ∧ te env M fun d env1 M1 => d = .ref a ∧ (match fget f ns es with
  | some r => Q r env1 M1
  | none => False)
section
variable [Gh] {X : Cx} {a C : Addr} {oe : Obj} {d : Option Addr} {pn : List (Addr × Obj)} {e : Expr} {te : DT} {pos : Pos} {f : Str} {ns : List Str} {es : List D}
end
end DL
set_option Elab.async false
set_option linter.all false
set_option maxRecDepth 100000
set_option maxHeartbeats 2000000
/-! DL31: super().__init__(..) in an own exception's __init__, where the next one is ValueError's. -/
namespace DL
open PySem PySem.Spec PyProof.Rows L2

/-! ### ValueError.__init__ bound to an instance -/
abbrev bv (y : Addr) : Obj := ⟨.type "method-wrapper", none, .fields #[.builtin "ValueError.__init__", .ref y], #[]⟩
theorem ty_vi : typeOf (.builtin "ValueError.__init__") = pure (.type "wrapper_descriptor") := by
  show builtinType _ = _
  rw [builtinType_eq_fast]
  kernel_rfl
theorem nac_vi : (kfb_private% "nameAndClass") (Value.builtin "ValueError.__init__") = (pure ((("__init__" : Str)), Value.type "ValueError") : Sem (Str × Value)) := by kernel_rfl
section
open PySem.W
variable {P : Program} {w : World} {md : Model} {A : Around} {E : Value → Shared → Prop} {hp : Heap} {ge : Array GenState} {dr : Drawn} {tk : Nat} {oz : OsState}
theorem run_vi {y C : Addr} {R : Fin → Shared → Prop} (hin : W.Looks md hp (isInstance (.ref y) (.type "ValueError")) true) (q : R (.done (.ret (.ref hp.objs.size))) ⟨hp.push (bv y), ge, dr, tk, oz⟩) :
    wpAny md A (Builtin.«wrapper_descriptor.__get__» ⟨[.builtin "ValueError.__init__", .ref y, .ref C], []⟩) R E ⟨hp, ge, dr, tk, oz⟩ := by
  unfold Builtin.«wrapper_descriptor.__get__»
  refine wpAny_bind (wpAny_of_eq (a := (.builtin "ValueError.__init__", some (.ref y), some (.ref C))) (by first | rfl | kernel_rfl) ?_)
  show wpAny md A ((kfb_private% "checkInstance") (.builtin "ValueError.__init__") (.ref y) >>= fun _ => newFields "method-wrapper" [.builtin "ValueError.__init__", .ref y] >>= fun r => ret r) R E _
  refine wpAny_bind ?_
  show wpAny md A ((kfb_private% "nameAndClass") (.builtin "ValueError.__init__") >>= _) _ E _
  refine wpAny_bind (wpAny_of_eq nac_vi ?_)
  show wpAny md A (isInstance (.ref y) (.type "ValueError") >>= _) _ E _
  refine wpAny_bind (hin.at ?_)
  refine KFB.if_not rfl (wpAny_pure ?_)
  exact wpAny_bind (wpAny_newObj_type (wpAny_pure q))
theorem ga_vi {z0 D y C : Addr} {m0 m1 : List Value} {K : Frag} {nm : Str} {tt : Tok} {R : Fin → Shared → Prop}
    (h1 : hp.get? z0 = some (ks_superObj D y C)) (h2 : W.Looks (model P w) hp (opaqueClassAbove (.ref C)) none)
    (h3 : W.Looks (model P w) hp (mroOf (.ref C)) m0) (h4 : (m0.dropWhile (· != .ref D)).drop 1 = m1) (kin : K.In hp)
    (h5 : alongIn K nm m1 = some (some (.builtin "ValueError.__init__"))) (h6 : y ≠ C) (h7 : (nm == ("__class__" : Str)) = false) (h8 : W.Looks (model P w) hp (isInstance (.ref y) (.type "ValueError")) true)
    (q : R (.done (.ret (.ref hp.objs.size))) ⟨hp.push (bv y), ge, dr, tk, oz⟩) :
    wpAny (model P w) A (Builtin.«super.__getattribute__» ⟨[.ref z0, .str nm tt], []⟩) R E ⟨hp, ge, dr, tk, oz⟩ := by
  have ll := ESX.slot_wd.lookup
  have ne : (Value.ref y == Value.ref C) = false := by simp [h6]
  have t1 := ty_vi
  have t2 : Shared.TypeIs ⟨hp, ge, dr, tk, oz⟩ (.builtin "ValueError.__init__") "wrapper_descriptor" := ty_vi
  have dd : (ks_superObj D y C).data = .fields #[.ref D, .ref y, .ref C] := rfl
  have a0 : (#[.ref D, .ref y, .ref C] : Array Value)[0]? = some (.ref D) := rfl
  have a1 : (#[.ref D, .ref y, .ref C] : Array Value)[1]? = some (.ref y) := rfl
  have a2 : (#[.ref D, .ref y, .ref C] : Array Value)[2]? = some (.ref C) := rfl
  unfold Builtin.«super.__getattribute__»
  repeat (first
    | (with_reducible refine wpAny_field h1 dd a0 ?_)
    | (with_reducible refine wpAny_field h1 dd a1 ?_)
    | (with_reducible refine wpAny_field h1 dd a2 ?_)
    | (with_reducible refine ks_wpAny_notOpaque h2 ?_)
    | (with_reducible refine Looks.at h3 ?_; rw [h4])
    | (refine ks_forIn_along kin (fun _ _ => rfl) rfl ?_ h5)
    | (with_reducible refine wpAny_call_entry ESX.slot_wd t2 ESX.entry_wd ?_ (ESX.args_wd _ _ _))
    | (with_reducible refine run_vi h8 ?_)
    | (with_reducible refine ⟨_, rfl, ?_⟩)
    | (simp only [h7, ne, Bool.or_false, Bool.false_eq_true, if_false])
    | wp_step
    | dsimp only)
  all_goals exact q
theorem gm_vi {z0 D y C : Addr} {m0 m1 : List Value} {K : Frag} {nm : Str} {pl : Sem Bool} {R : Value × List Value → Shared → Prop}
    (h1 : hp.get? z0 = some (ks_superObj D y C)) (h2 : W.Looks (model P w) hp (opaqueClassAbove (.ref C)) none)
    (h3 : W.Looks (model P w) hp (mroOf (.ref C)) m0) (h4 : (m0.dropWhile (· != .ref D)).drop 1 = m1) (kin : K.In hp)
    (h5 : alongIn K nm m1 = some (some (.builtin "ValueError.__init__"))) (h6 : y ≠ C) (h7 : (nm == ("__class__" : Str)) = false) (h8 : W.Looks (model P w) hp (isInstance (.ref y) (.type "ValueError")) true)
    (q : R (.ref hp.objs.size, []) ⟨hp.push (bv y), ge, dr, tk + 1, oz⟩) :
    wpAny (model P w) A (getMethod (.ref z0) nm pl) R E ⟨hp, ge, dr, tk, oz⟩ := by
  have ll := F.ks_slot_super_ga.lookup
  have cn := F.ks_canon_super_ga
  have tz : ∀ n, (⟨hp, ge, dr, n, oz⟩ : Shared).TypeIs (.ref z0) "super" := fun _ => ⟨_, h1, rfl⟩
  unfold getMethod
  refine wpAny_bind (wpAny_specialOf (tz _) ll ?_)
  show wpAny _ _ (if (Manifest.canonical "super.__getattribute__" != "object.__getattribute__") = true then _ else _) _ _ _
  rw [if_pos cn]
  unfold getAttr getAttrBy
  refine wpAny_bind (wpAny_bind (wpAny_mkText (wpAny_holding (wpAny_bind (wpAny_typeOf (tz _) (wpAny_bind (wpAny_of_eq ll ?_)))))))
  show wpAny _ _ (getAttrByItsOwn (.ref z0) (.str nm tk) (.type "super") (.builtin "super.__getattribute__") true false) _ _ _
  unfold getAttrByItsOwn hookBefore callGetattribute boundAndCalled
  refine wpAny_bind (wpAny_of_eq (show (if onTheHeap (.type "super") then typeLookup (.type "super") "__getattr__" else pure none) = pure none from rfl) ?_)
  refine wpAny_bind (wpAny_attempt (wpAny_holding ?_))
  show wpAny _ _ (bindSpecial (.builtin "super.__getattribute__") (.ref z0) >>= _) _ _ _
  refine wpAny_bind (wpAny_of_eq (F.ks_slot_super_ga.bind _) ?_)
  refine wpAny_mono (Q := fun v st => v = .ref hp.objs.size ∧ st = ⟨hp.push (bv y), ge, dr, tk + 1, oz⟩) (E := fun _ _ => False)
    (wpAny_call_entry F.ks_slot_super_ga (tz _) F.ks_entry_super_ga (ga_vi h1 h2 h3 h4 kin h5 h6 h7 h8 ⟨_, rfl, rfl, rfl⟩) (F.ks_gaArgs_super _ _)) (fun v st hv => ?_) fun _ _ z => z.elim
  obtain ⟨rfl, rfl⟩ := hv
  exact wpAny_pure (wpAny_pure q)
end
section
open PySem.W PySem.Calls PyProof.Rows
variable {P : Program} {w : World} {md : Model} {A : Around} {E : Value → Shared → Prop} {st : Shared}
theorem cw_vi {pos : Pos} {u y : Addr} {first : List Value} {env : Env} {e : Expr} {es : List Expr} {R : Value → Shared → Prop}
    (h : wpAny md A (spliced (backTo pos (starEach (e :: es) env))) (fun vs z => z.heap.get? u = some (bv y) ∧ wpAny md A (call (.ref u) (first ++ vs)) R E z) E st)
    (he : starEach (e :: es) env = (false, eval e env) :: starEach es env) (hp : (backTo pos (starEach es env)).any (·.1) = false) :
    wpAny md A (callWith pos (.ref u) first (backTo pos (starEach (e :: es) env)) []) R E st := by
  rw [he] at h ⊢
  have pl : (backTo pos ((false, eval e env) :: starEach es env)).any (·.1) = false := by
    show (false || (backTo pos (starEach es env)).any (·.1)) = false
    rw [hp]
    rfl
  have ev : wpAny md A (evalArgs (.ref u) true (backTo pos ((false, eval e env) :: starEach es env)) []) (fun a z => z.heap.get? u = some (bv y) ∧ wpAny md A (call (.ref u) (first ++ a.pos) a.kw) R E z) E st := evalArgs_plain h
  unfold callWith
  refine wpAny_bind (wpAny_holding (wpAny_mono ev (fun a z hz => wpAny_bind (wpAny_standAt ?_)) fun _ _ x => x))
  obtain ⟨ho, hc⟩ := hz
  simp only [pl, List.any_nil, Bool.or_false]
  refine wpAny_bind (m := keeperOf (.ref u)) ?_
  unfold keeperOf
  refine wpAny_bind (wpAny_load ho ?_)
  simp only [bv, show (Value.type "method-wrapper" != Value.type "method") = true by decide, show (Value.type "method-wrapper" == Value.type "builtin_function_or_method" || Value.type "method-wrapper" == Value.type "method-wrapper") = true by decide, if_true]
  refine wpAny_pure (wpAny_bind (wpAny_mono hc (fun r z hr => wpAny_bind (wpAny_holding (wpAny_point (wpAny_pure hr)))) fun _ _ x => x))
end
section
variable {P : Program} {w : World} {A : Around} {E : Value → Shared → Prop} {hp : Heap} {ge : Array GenState} {dr : Drawn} {tk : Nat} {oz : OsState}
variable {nm q : Str} {C N : Addr} {bs bm : List Value} {hdct : Bool} {sn : List Str} {sub : List Value} {ab : Bool} {col : Option Bool} {dd : Option Addr} {k0 k1 k2 k3 k5 : Option Value}
theorem call_vi {u y t0 : Addr} {rest : List Value} {R : Value → Shared → Prop}
    (hC : hp.get? C = some (excClassObj nm q C N bs bm hdct sn sub ab col dd k0 k1 k2 k3 k5 "ValueError.__new__")) (hy : hp.get? y = some (HandSPX.excO C t0)) (hu : hp.get? u = some (bv y)) (hl : rest.length ≤ sizeLine)
    (hq : ∀ h' t1, (∀ b o, b ≠ y → hp.get? b = some o → h'.get? b = some o) → h'.get? y = some (HandSPX.excO C t1) → R .none ⟨h', ge, dr, tk, oz⟩) :
    wpAny (model P w) A (call (.ref u) rest) R E ⟨hp, ge, dr, tk, oz⟩ := by
  refine wpAny_call (codeAny_of_tree ?_)
  show wpAny _ A.in1 (callAny (.ref u) ⟨rest, []⟩) _ _ _
  simp only [callAny]
  refine wpAny_bind (wpAny_load hu ?_)
  simp only [bv, show (Value.type "method-wrapper" == Value.type "method" || Value.type "method-wrapper" == Value.type "builtin_function_or_method" || Value.type "method-wrapper" == Value.type "method-wrapper") = true by decide, if_true]
  refine W.KFB.if_so (by decide) ?_
  refine wpAny_bind (ESX.check_bound F.excBase_ValueError hC hy rfl ?_)
  refine wpAny_bind (wpAny_pure (wpAny_pure ?_))
  refine ⟨Code.quiet_builtin _ (by decide +kernel), codeAny_builtin F.excBase_ValueError.initEntry ?_⟩
  rw [Around.under_plainId F.excBase_ValueError.init.plain _]
  wp_walk
  refine hq _ hp.objs.size (fun b o hb ho => ?_) ?_
  · rw [Heap.get?_update_other _ _ (Ne.symm hb)]
    exact Heap.get?_push_of_some _ ho
  · rw [Heap.get?_update_self _ (Heap.get?_push_of_some _ hy) rfl]
    rfl
end
end DL
set_option Elab.async false
set_option linter.all false
set_option maxRecDepth 100000
set_option maxHeartbeats 2000000
/-! DL32: the __init__ of an own exception class, super().__init__(..) ahead of its fields. -/
namespace DL
open PySem PySem.Spec PyProof.Rows L2

section
variable {X : Cx} {pins : List (Addr × Obj)} {σ : L2.St} {H : Hp} {s : Shared} {A : Around} {E : Value → Shared → Prop} {cc cda C f x : Addr}
theorem supx_base {body : List Stmt} {p0 p1 : Pos} {whole : Sem Value} {fo : Obj} {fd : FuncData} {ar : Arg} {Q : Value → Shared → Prop}
    (I : Inv X pins σ H s) (S : SupXK X.prog X.K cc cda C) (hef : X.env.func = some f) (hlf : X.K.lookup f = some fo) (hfo : fo.data = .func fd) (hp : (fd.params.posonlyargs ++ fd.params.args).head? = some ar)
    (hcode : X.env.code = .ref cda) (hcells : X.env.cells.lookup ("__class__" : Str) = some cc) (hks : X.env.scope.names.lookup ("super" : Str) = some .globalImplicit) (hkc : X.env.scope.names.lookup ("__class__" : Str) = some .free)
    (hka : X.env.scope.names.lookup ar.arg = some .local) (h0 : X.N[0]? = some ar.arg) (σ0 : σ[0]? = some (some (.ref x))) (hx : H x = some (exo x C none)) (hmg : X.mg "super" = none)
    (h : ∀ s', s'.heap.get? s.heap.objs.size = some (PySem.W.ks_superObj C x C) → Inv X pins σ H s' → Q (.ref s.heap.objs.size) s') :
    _root_.PySem.wpAt (model X.prog X.w) A (.func body X.env) (attributeBase (.Call (.Name "super" p0) [] [] p1) "__init__" X.env whole) Q E s := by
  obtain ⟨ccl, cdd, vs, ccs, file, tf, hc1, hvs, hfile⟩ := S.code
  obtain ⟨cl, cld, csl, hcell⟩ := S.cell
  obtain ⟨cdD, hD⟩ := S.cls
  have XK := I.kIn
  obtain ⟨t1, ho⟩ := exo_at I.hok hx
  obtain ⟨oD, hD1, hD2⟩ : ∃ oD, s.heap.get? C = some oD ∧ oD.data = .cls cdD := by
    unfold PySem.W.clsIn at hD
    split at hD
    · rename_i c d cd' sl ho
      cases hD
      exact ⟨_, XK _ _ ho, rfl⟩
    · cases hD
  refine PySem.ks_wpAt_super_base hks hkc (by decide) hef (XK _ _ hlf) hfo hp hcode (XK _ _ hc1) rfl hvs hfile S.top ?_
  obtain ⟨mb, h1, h2⟩ := I.mod.blt
  refine PySem.W.ks_loadName_global I.ok.kind hks (Calls.loadGlobal_builtin (by rw [I.ok.glob]; exact I.mod.glob.keeps I.bk) hmg (by rw [I.ok.blt]; exact h1.keeps I.bk) (v := .type "super") ((h2 _ (by decide)).trans (by decide +kernel)) ⟨rfl, ?_⟩)
  refine wpAny_loadName_free I.ok.kind hkc hcells ⟨_, XK _ _ hcell, rfl⟩ ?_
  obtain ⟨m, hm, hl⟩ := I.loc
  obtain ⟨u, ru, lk⟩ := hl 0 ar.arg (.ref x) h0 σ0 (.inl hka)
  obtain rfl : u = Value.ref x := ru
  have hmx : m ar.arg = some (.ref x) := by
    rcases lk with ⟨_, e⟩ | ⟨e | e, _⟩
    · exact e
    · have e' : X.env.scope.names.lookup ar.arg = some .cell := e
      rw [hka] at e'; cases e'
    · have e' : X.env.scope.names.lookup ar.arg = some .free := e
      rw [hka] at e'; cases e'
  refine wpAny_loadName_local I.ok.kind hka hm hmx ?_
  obtain ⟨hh, g, d, t, os⟩ := s
  refine PySem.ks_wpAny_isType_cls hD1 hD2 ⟨rfl, ?_⟩
  exact PySem.ks_wpAny_call_super hD1 hD2 ho rfl (fun c e => by cases e) (PySem.W.looks_mroIn XK S.sub) (fun h' e k => h _ e (I.kept k))
theorem supx_meth {pl : Sem Bool} {Q : Value × List Value → Shared → Prop} {so : Addr} (I : Inv X pins σ H s) (S : SupXK X.prog X.K cc cda C) (hso : s.heap.get? so = some (PySem.W.ks_superObj C x C)) (hx : H x = some (exo x C none))
    (h : ∀ s', Inv X ((s.heap.objs.size, bv x) :: pins) σ H s' → Q (.ref s.heap.objs.size, []) s') : wpAny (model X.prog X.w) A (getMethod (.ref so) "__init__" pl) Q E s := by
  have XK := I.kIn
  obtain ⟨t1, ho⟩ := exo_at I.hok hx
  have hm := S.find
  obtain ⟨hh, g, d, t, os⟩ := s
  cases hc : PySem.W.clsIn X.K C with
  | none => unfold PySem.W.ks_superIn at hm; rw [hc] at hm; cases hm
  | some cd =>
    unfold PySem.W.ks_superIn at hm
    rw [hc] at hm
    have ne : x ≠ C := fun z => by
      subst z
      unfold PySem.W.clsIn at hc
      split at hc
      · rename_i c d cd' sl hlk
        have e := XK _ _ hlk
        rw [ho] at e
        cases e
      · cases hc
    have LT : PySem.W.Looks (model X.prog X.w) hh (typeOf (.ref x)) (.ref C) := fun A Q E s k q => wpAny_typeOf_ref (k _ _ ho) q
    have LI : PySem.W.Looks (model X.prog X.w) hh (isInstance (.ref x) (.type "ValueError")) true := LT.andThen (PySem.W.looks_subIn XK S.subV)
    refine gm_vi hso (PySem.W.looks_opaque XK S.st) (m0 := cd.mro) ?_ rfl XK hm ne (by decide) LI ?_
    · exact fun A Q E s k q => wpAny_bind ((PySem.W.looks_clsIn XK hc) A _ E s k (wpAny_pure q))
    · exact h _ (ClX.pin_new I (fun _ _ z => Heap.get?_push_of_some _ z) (Nat.le_refl _) (Heap.get?_push_size hh rfl) (fun v z => nomatch z))
end

section
variable {P : Program} {w : World} {K : PySem.W.Frag} {mg : Str → Option Value} {base : Heap} {x qual : Str} {params : Arguments} {body rest : List Stmt} {scope : Scope} {cc cda f C : Addr} {fd : FuncData} {N ps : List Str} {k : Nat} {sp : Sp}
  {m : Str} {j : Nat} {p0 p1 p2 apos pos ep : Pos} {ar : Arg} {pl : Env → Sem Bool}
theorem okSupX (G : SupD K x qual params body scope cc cda f fd) (hbd : body = .Expr (.Call (.Attribute (.Call (.Name "super" p0) [] [] p1) "__init__" apos) [.Constant (.str m) j p2] [] pos) ep :: rest) (S : NdefX.NScope N ps ["__class__"] scope)
    (hks : scope.names.lookup ("super" : Str) = some .globalImplicit) (hkc : scope.names.lookup ("__class__" : Str) = some .free) (hka : scope.names.lookup ar.arg = some .local) (hp : (params.posonlyargs ++ params.args).head? = some ar) (h0 : N[0]? = some ar.arg)
    (hmg : mg "super" = none) (Sk : SupXK P K cc cda C) (len : ∀ vs H Q E, sp vs H Q E → vs.length = ps.length) (hself : ∀ vs H Q E, sp vs H Q E → ∃ a ws, vs = .ref a :: ws ∧ H a = some (exo a C none))
    (hbody : ∀ (A : Around) (outer : List Env) (s : Shared) (H : Hp) (vs : List V) (Q : VK) (E : XK), Room k (A.deeper (NdefX.envF (nfS x qual params body scope cc cda) f s.heap.objs.size)) → sp vs H Q E →
      ∃ tr, PSs (cxS P w K mg base N (nfS x qual params body scope cc cda) f A outer s H E) rest tr ∧ tr { nx := fun _ H' => Q .non H', rt := Q } (L2.start N vs) H)
    (hev : ∀ env, eval (.Call (.Attribute (.Call (.Name "super" p0) [] [] p1) "__init__" apos) [.Constant (.str m) j p2] [] pos) env = (do
      let ov ← attributeBase (.Call (.Name "super" p0) [] [] p1) "__init__" env (eval (.Call (.Name "super" p0) [] [] p1) env)
      standAt apos.atName
      let (f, first) ← holding [ov] (getMethod ov "__init__" (pl env))
      callWith pos f first (backTo pos (starEach [.Constant (.str m) j p2] env)) []) := by exact fun _ => rfl)
    (hsw : ∀ env, swapsWith (.Call (.Attribute (.Call (.Name "super" p0) [] [] p1) "__init__" apos) [.Constant (.str m) j p2] [] pos) none ep.line env = pure false := by exact fun _ => rfl) :
    FnOk P w K mg base CX0 (k + 1) f fd ps sp := by
  refine ⟨len, fun A outer s H args us vs Q E hr e0 hb r hsp => ?_⟩
  have hl := len _ _ _ _ hsp
  obtain ⟨oc, od, dV, kV, doc, pm, an, ct, osl, rfl, lk⟩ := G.ex
  have KX : K.In s.heap := e0.mod.kin.keeps fun b o e => (e0.bs b o e).1
  have lim : s.heap.NoLimit := e0.mod.nolimit.keeps fun b o e => (e0.bs b o e).1
  have hpl1 : ps.length + 1 ≤ N.length := by
    have q := congrArg List.length S.pre
    rw [List.length_take, List.length_append, List.length_singleton] at q
    omega
  obtain ⟨cl, cld, csl, hcell⟩ := Sk.cell
  refine PySem.ks_codeAny_call_defAt (body := body) (binds := ps.zip us) hr.depth (KX _ _ lk) rfl lim (PySem.W.codeRec_of KX G.cd) rfl hb (fun y hy z => S.nocell y hy z) (fun ⟨n, _⟩ hy => S.par n (List.of_mem_zip hy).1) (fun h₁ hns kp => ?_) S.co S.gen S.kind
  have hcc : H cc = none := (e0.bs cc _ (e0.mod.kin _ _ hcell)).2
  have C0 : NdefX.CellsAt [(("__class__" : Str), cc)] ["__class__"] [none] s.heap H := by
    have one : ∀ y c, List.lookup y [(("__class__" : Str), cc)] = some c → y = "__class__" ∧ c = cc := fun y c h => by
      by_cases hy : y = ("__class__" : Str)
      · subst hy
        rw [List.lookup_cons_self] at h
        exact ⟨rfl, (Option.some.inj h).symm⟩
      · have : (y == ("__class__" : Str)) = false := beq_eq_false_iff_ne.mpr hy
        simp only [List.lookup, this] at h
        cases h
    refine ⟨rfl, fun y c h => ?_, fun x y c h1 h2 => ((one x c h1).1).trans ((one y c h2).1).symm, fun i y h => ?_⟩
    · obtain ⟨_, rfl⟩ := one y c h
      exact ⟨hcc, _, ⟨_, KX _ _ hcell, rfl⟩⟩
    · cases i with
      | zero =>
        cases h
        exact ⟨cc, List.lookup_cons_self, fun v hv => by cases hv⟩
      | succ i => simp at h
  have I0 : Inv (cxS P w K mg base N (nfS x qual params body scope cc cda) f A outer s H E) [] (NdefX.startF N vs [none]) H { s with heap := h₁, toks := s.toks + (ps.zip us).length } := NdefX.inv_startN S hr.hd e0 hl r C0 hns kp
  rw [startF_eq (by rw [hl]; exact hpl1)] at I0
  obtain ⟨xa, ws, rfl, hHx⟩ := hself _ _ _ _ hsp
  obtain ⟨tr, htr, hq⟩ := hbody A outer s H _ Q E (hr.deeper _) hsp
  have σ0 : (L2.start N (V.ref xa :: ws))[0]? = some (some (.ref xa)) := rfl
  refine PySem.ks_wpAt_mono (Q := SP (cxS P w K mg base N (nfS x qual params body scope cc cda) f A outer s H E) [] { nx := fun _ H' => Q .non H', rt := Q }) ?_ (fun fl s' hs => ?_) fun _ _ y => y
  · subst hbd
    refine PySem.ks_wpAt_execs_cons (PySem.ks_wpAt_Expr_any (PySem.ks_wpAt_MethodCall ?_ (he := hev _)) (hs := hsw _) (hi := by have hki : scope.kind = .function := S.kind; show (scope.kind == ScopeKind.module && _) = false; rw [hki]; rfl))
    refine supx_base I0 Sk rfl lk rfl hp rfl List.lookup_cons_self hks hkc hka h0 σ0 hHx hmg fun s1 hso I1 => ?_
    refine supx_meth I1 Sk hso hHx fun s2 I2 => ?_
    refine cw_vi (y := xa) (thn ((pa_cons (pe_str (x := m)) pa_nil).run pos _ s2 (L2.start N (V.ref xa :: ws)) H (fun vs' H' => vs' = [V.str m] ∧ H' = H) I2 ⟨rfl, rfl⟩) fun us' s3 ⟨vs', H2, I3, rv, ev, eH⟩ => ?_) rfl rfl
    subst ev
    subst eH
    refine ⟨ClX.pin_at I3, ?_⟩
    obtain ⟨nm, q, N', bs, bm, sn, sub, ab, col, dd, k0, k1, k2, k3, k5, hC, hbm⟩ := Sk.oex.cls
    obtain ⟨t1, ho⟩ := exo_at I3.hok hHx
    obtain ⟨hh, g, d, t, os⟩ := s3
    refine call_vi (I3.kIn _ _ hC) ho (ClX.pin_at I3) (by
      have := rv.length
      show us'.length ≤ sizeLine
      rw [← this, sizeLine_eq]
      show 1 ≤ _
      decide) fun h' t2 kp' hx' => ?_
    have J := (ClX.unpin I3).write (t' := t) (x := xa) (e := xa) (o := exo xa C none) (by rw [hHx]; exact True.intro) (.inl rfl) kp' ⟨_, hx'⟩ (exo_ok hx')
    have eu : upd H2 xa (exo xa C none) = H2 := by
      funext b
      by_cases hb : b = xa
      · rw [hb, upd_same, hHx]
      · rw [upd_ne hb]
    rw [eu] at J
    exact wpAt_of_wpAny (htr.run [] _ (L2.start N (V.ref xa :: ws)) H2 _ J hq)
  · have fin : ∀ {σ' : L2.St} {H' : Hp} {v : V} {u : Value}, Inv (cxS P w K mg base N (nfS x qual params body scope cc cda) f A outer s H E) [] σ' H' s' → L2.RelV v u → Q v H' → CE outer P w H s Q u s' :=
      fun {σ' H' v u} J rv q => ⟨v, H', J.os, J.bare, J.base, J.hok, rv, q⟩
    cases fl with
    | ret u =>
      obtain ⟨v, σ', H', J, rv, q⟩ := hs
      exact fin J rv q
    | next =>
      obtain ⟨σ', H', J, q⟩ := hs
      exact fin (v := V.non) (u := Value.none) J rfl q
    | brk =>
      obtain ⟨_, _, _, q⟩ := hs
      exact False.elim q
    | cont =>
      obtain ⟨_, _, _, q⟩ := hs
      exact False.elim q
/-- nothing but super().__init__(..) -/
def spX0 (C : Addr) : Sp := fun vs H Q _ => ∃ a, vs = [.ref a] ∧ H a = some (exo a C none) ∧ Q .non H
theorem swap_none {e : Expr} {t : Option Expr} {n : Nat} {env : Env} {x : Str} {p : Pos} (h : e = .Name x p) : swapsWith e t n env = pure false := by
  subst h
  rfl
theorem ok_exc1 {sx ax fn : Str} {q1 q2 q3 q4 : Pos} (G : SupD K x qual params body scope cc cda f fd) (hbd : body = .Expr (.Call (.Attribute (.Call (.Name "super" p0) [] [] p1) "__init__" apos) [.Constant (.str m) j p2] [] pos) ep :: [.Assign [.Attribute (.Name sx q1) fn q2] (.Name ax q3) q4])
    (S : NdefX.NScope N ps ["__class__"] scope) (hks : scope.names.lookup ("super" : Str) = some .globalImplicit) (hkc : scope.names.lookup ("__class__" : Str) = some .free) (hka : scope.names.lookup sx = some .local) (hkb : scope.names.lookup ax = some .local) (hp : (params.posonlyargs ++ params.args).head?.map (·.arg) = some sx)
    (hps : ps = [sx, ax]) (hN : N = [sx, ax, "__class__"]) (hsd : (sx == ("__debug__" : Str)) = false ∧ (sx == ("__classdict__" : Str)) = false) (had : (ax == ("__debug__" : Str)) = false ∧ (ax == ("__classdict__" : Str)) = false)
    (hmg : mg "super" = none) (Sk : SupXK P K cc cda C) (hno : PySem.W.findIn K (.ref C) fn = some none)
    (hev : ∀ env, eval (.Call (.Attribute (.Call (.Name "super" p0) [] [] p1) "__init__" apos) [.Constant (.str m) j p2] [] pos) env = (do
      let ov ← attributeBase (.Call (.Name "super" p0) [] [] p1) "__init__" env (eval (.Call (.Name "super" p0) [] [] p1) env)
      standAt apos.atName
      let (f, first) ← holding [ov] (getMethod ov "__init__" (pl env))
      callWith pos f first (backTo pos (starEach [.Constant (.str m) j p2] env)) []) := by exact fun _ => rfl)
    (hsw : ∀ env, swapsWith (.Call (.Attribute (.Call (.Name "super" p0) [] [] p1) "__init__" apos) [.Constant (.str m) j p2] [] pos) none ep.line env = pure false := by exact fun _ => rfl) :
    FnOk P w K mg base CX0 (k + 1) f fd ps (spXI C [fn]) := by
  obtain ⟨ar, har, hax⟩ : ∃ ar : Arg, (params.posonlyargs ++ params.args).head? = some ar ∧ ar.arg = sx := by
    cases e : (params.posonlyargs ++ params.args).head? with
    | none => rw [e] at hp; cases hp
    | some ar => rw [e] at hp; exact ⟨ar, rfl, Option.some.inj hp⟩
  have two : ∀ vs H Q E, spXI C [fn] vs H Q E → ∃ a v, vs = [.ref a, v] ∧ H a = some (exo a C none) := fun vs H Q E ⟨a, ws, e, l, h, _⟩ => by
    match ws, l with
    | [v], _ => exact ⟨a, v, e, h⟩
  refine okSupX (ar := ar) G hbd S hks hkc (by rw [hax]; exact hka) har (by rw [hN, hax]; rfl) hmg Sk (fun vs H Q E h => by
    obtain ⟨a, v, rfl, _⟩ := two vs H Q E h
    rw [hps]; rfl) (fun vs H Q E h => by
    obtain ⟨a, v, e, h⟩ := two vs H Q E h
    exact ⟨a, _, e, h⟩) (fun A outer s H vs Q E hr h => ?_) hev hsw
  subst hN
  refine ⟨_, pss_one (ps_ost (pv 0 rfl (.inl hka) hsd.1 hsd.2) (pv 1 rfl (.inl hkb) had.1 had.2) (swap_none rfl)), ?_⟩
  obtain ⟨a, v, rfl, hH⟩ := two vs H Q E h
  obtain ⟨a', ws, e, l, h1, h2⟩ := h
  cases e
  exact ⟨v, rfl, .ref a, rfl, a, C, rfl, Sk.oex, hno, .inl ⟨hH, fun dx hd ne => h2 dx hd ne⟩⟩
theorem ok_exc2 {sx ax bx fn gn : Str} {q1 q2 q3 q4 q5 q6 q7 q8 : Pos} (G : SupD K x qual params body scope cc cda f fd) (hbd : body = .Expr (.Call (.Attribute (.Call (.Name "super" p0) [] [] p1) "__init__" apos) [.Constant (.str m) j p2] [] pos) ep :: [.Assign [.Attribute (.Name sx q1) fn q2] (.Name ax q3) q4, .Assign [.Attribute (.Name sx q5) gn q6] (.Name bx q7) q8])
    (S : NdefX.NScope N ps ["__class__"] scope) (hks : scope.names.lookup ("super" : Str) = some .globalImplicit) (hkc : scope.names.lookup ("__class__" : Str) = some .free) (hka : scope.names.lookup sx = some .local) (hkb : scope.names.lookup ax = some .local) (hkd : scope.names.lookup bx = some .local) (hp : (params.posonlyargs ++ params.args).head?.map (·.arg) = some sx)
    (hps : ps = [sx, ax, bx]) (hN : N = [sx, ax, bx, "__class__"]) (hsd : (sx == ("__debug__" : Str)) = false ∧ (sx == ("__classdict__" : Str)) = false) (had : (ax == ("__debug__" : Str)) = false ∧ (ax == ("__classdict__" : Str)) = false) (hbb : (bx == ("__debug__" : Str)) = false ∧ (bx == ("__classdict__" : Str)) = false)
    (hmg : mg "super" = none) (Sk : SupXK P K cc cda C) (hno : PySem.W.findIn K (.ref C) fn = some none) (hno2 : PySem.W.findIn K (.ref C) gn = some none)
    (hev : ∀ env, eval (.Call (.Attribute (.Call (.Name "super" p0) [] [] p1) "__init__" apos) [.Constant (.str m) j p2] [] pos) env = (do
      let ov ← attributeBase (.Call (.Name "super" p0) [] [] p1) "__init__" env (eval (.Call (.Name "super" p0) [] [] p1) env)
      standAt apos.atName
      let (f, first) ← holding [ov] (getMethod ov "__init__" (pl env))
      callWith pos f first (backTo pos (starEach [.Constant (.str m) j p2] env)) []) := by exact fun _ => rfl)
    (hsw : ∀ env, swapsWith (.Call (.Attribute (.Call (.Name "super" p0) [] [] p1) "__init__" apos) [.Constant (.str m) j p2] [] pos) none ep.line env = pure false := by exact fun _ => rfl) :
    FnOk P w K mg base CX0 (k + 1) f fd ps (spXI C [fn, gn]) := by
  obtain ⟨ar, har, hax⟩ : ∃ ar : Arg, (params.posonlyargs ++ params.args).head? = some ar ∧ ar.arg = sx := by
    cases e : (params.posonlyargs ++ params.args).head? with
    | none => rw [e] at hp; cases hp
    | some ar => rw [e] at hp; exact ⟨ar, rfl, Option.some.inj hp⟩
  have two : ∀ vs H Q E, spXI C [fn, gn] vs H Q E → ∃ a v u, vs = [.ref a, v, u] ∧ H a = some (exo a C none) := fun vs H Q E ⟨a, ws, e, l, h, _⟩ => by
    match ws, l with
    | [v, u], _ => exact ⟨a, v, u, e, h⟩
  refine okSupX (ar := ar) G hbd S hks hkc (by rw [hax]; exact hka) har (by rw [hN, hax]; rfl) hmg Sk (fun vs H Q E h => by
    obtain ⟨a, v, u, rfl, _⟩ := two vs H Q E h
    rw [hps]; rfl) (fun vs H Q E h => by
    obtain ⟨a, v, u, e, h⟩ := two vs H Q E h
    exact ⟨a, _, e, h⟩) (fun A outer s H vs Q E hr h => ?_) hev hsw
  subst hN
  refine ⟨_, pss_cons (ps_ost (pv 0 rfl (.inl hka) hsd.1 hsd.2) (pv 1 rfl (.inl hkb) had.1 had.2) (swap_none rfl)) (pss_one (ps_ost (pv 0 rfl (.inl hka) hsd.1 hsd.2) (pv 2 rfl (.inl hkd) hbb.1 hbb.2) (swap_none rfl))), ?_⟩
  obtain ⟨a, v, u, rfl, hH⟩ := two vs H Q E h
  obtain ⟨a', ws, e, l, h1, h2⟩ := h
  cases e
  refine ⟨v, rfl, .ref a, rfl, a, C, rfl, Sk.oex, hno, .inl ⟨hH, fun dx hd ne => ⟨u, rfl, .ref a, rfl, a, C, rfl, Sk.oex, hno2, .inr ⟨dx, [(fn, v)], upd_same, by rw [upd_ne ne, upd_same], by show 1 ≤ 900; decide, ?_⟩⟩⟩⟩
  have q := h2 dx hd ne
  have eH : upd (upd (upd H dx (exd dx [(fn, v)])) a (exo a C (some dx))) dx (exd dx ((gn, u) :: [(fn, v)])) = upd (upd H dx (exd dx ([fn, gn].reverse.zip [v, u].reverse))) a (exo a C (some dx)) := by
    funext b
    by_cases hb : b = dx
    · rw [hb, upd_same, upd_ne ne, upd_same]; rfl
    · rw [upd_ne hb]
      by_cases hba : b = a
      · rw [hba, upd_same, upd_same]
      · rw [upd_ne hba, upd_ne hba, upd_ne hb, upd_ne hb]
  show Q .non _
  rw [eH]
  exact q
end
end DL
set_option Elab.async false
set_option linter.all false
set_option maxRecDepth 100000
set_option maxHeartbeats 1000000
/-! DL33: lists that change, in operations that tell a plain value; x.append(e) of them; C(..) that may raise. -/
namespace DL
open PySem PySem.Spec PyProof.Rows L2
variable [Gh]

/-- a list that changes, as it is now -/
@[reducible] def rsM (d : D) (M : Mem) : D := match d with
  | .ref a => (match M a with
    | some (.lst ds) => .lst ds
    | _ => d)
  | _ => d
@[reducible] def rssM : List D → Mem → List D
  | [], _ => []
  | d :: ds, M => rsM d M :: rssM ds M
@[reducible] def plainD : D → Bool
  | .bl _ => true
  | .int _ => true
  | .str _ => true
  | .non => true
  | _ => false
theorem plain_rep {K : PySem.W.Frag} {S S' : Hp} {d : D} {v : V} (h : plainD d = true) (r : Rep K S d v) : Rep K S' d v := by
  cases d with
  | bl _ => exact r
  | int _ => exact r
  | str _ => exact r
  | non => exact r
  | _ => cases h
/-- all lists that change, taken as if they never did -/
def mvS (S H : Hp) (M : Mem) : Hp := fun b => match M b with
  | some (.lst _) => H b
  | _ => S b
open Classical in
noncomputable def mvF (S1 H : Hp) : Hp := fun b => if S1 b = none then H b else none
section
variable {K : PySem.W.Frag} {F S H : Hp} {M : Mem} {σ : L2.St} {env : Ev}
theorem mv_same (R : Rel K F S σ H env M) : Same S (mvS S H M) ∧ Same (mvS S H M) H := by
  refine ⟨fun b o e => ?_, fun b o e => ?_⟩
  · unfold mvS
    cases h : M b with
    | none => exact e
    | some m => have := (R.c.mem b m h).1; rw [e] at this; cases this
  · unfold mvS at e
    cases h : M b with
    | none => rw [h] at e; exact R.c.same b o e
    | some m =>
      rw [h] at e
      cases m with
      | lst _ => exact e
      | dK _ _ => exact R.c.same b o e
      | dN _ _ _ => exact R.c.same b o e
      | tab _ => exact R.c.same b o e
      | exc _ _ _ => exact R.c.same b o e
      | ins _ _ _ => exact R.c.same b o e
theorem mv_rep (R : Rel K F S σ H env M) {d : D} {v : V} (r : Rep K S d v) : Rep K (mvS S H M) (rsM d M) v := by
  have s1 := (mv_same R).1
  have plain : rsM d M = d → Rep K (mvS S H M) (rsM d M) v := fun e => by rw [e]; exact r.mono s1
  cases d with
  | ref a =>
    cases h : M a with
    | none => exact plain (by unfold rsM; simp only [h])
    | some m =>
      cases m with
      | lst ds =>
        cases r
        obtain ⟨_, xs, e1, rs⟩ := R.c.mem a _ h
        have e : rsM (.ref a) M = .lst ds := by unfold rsM; simp only [h]
        rw [e]
        exact ⟨a, xs, rfl, by unfold mvS; rw [h]; exact e1, rs.mono s1⟩
      | dK _ _ => exact plain (by unfold rsM; simp only [h])
      | dN _ _ _ => exact plain (by unfold rsM; simp only [h])
      | tab _ => exact plain (by unfold rsM; simp only [h])
      | exc _ _ _ => exact plain (by unfold rsM; simp only [h])
      | ins _ _ _ => exact plain (by unfold rsM; simp only [h])
  | _ => exact plain rfl
theorem mv_reps (R : Rel K F S σ H env M) : ∀ {ds : List D} {vs : List V}, Reps K S ds vs → Reps K (mvS S H M) (rssM ds M) vs
  | [], [], _ => trivial
  | _ :: _, _ :: _, h => ⟨mv_rep R h.1, mv_reps R h.2⟩
  | [], _ :: _, h => h.elim
  | _ :: _, [], h => h.elim
theorem mv_rel (R : Rel K F S σ H env M) : Rel K (mvF (mvS S H M) H) (mvS S H M) [] H [] m0 := by
  obtain ⟨s1, s2⟩ := mv_same R
  have hF : ∀ b o, mvF (mvS S H M) H b = some o → mvS S H M b = none ∧ H b = some o := fun b o e => by
    unfold mvF at e
    by_cases c : mvS S H M b = none
    · rw [if_pos c] at e; exact ⟨c, e⟩
    · rw [if_neg c] at e; cases e
  refine ⟨⟨s2, fun b o e => ⟨(hF b o e).2, (hF b o e).1, rfl⟩, fun b o e => (by cases e)⟩, rfl, fun j d z => (by cases z), fun j d z => (by cases z), fun i j a ds es _ z => (by cases z), ⟨fun b o e => ?_, R.g.s.trans s1⟩⟩
  obtain ⟨h1, h2, h3⟩ := R.c.fr b o (R.g.f b o e)
  have : mvS S H M b = none := by unfold mvS; rw [h3]; exact h2
  unfold mvF
  rw [if_pos this]
  exact h1
theorem mv_back (R : Rel K F S σ H env M) {S' H' : Hp} {env' : Ev} {M' : Mem} (s : Same (mvS S H M) S') (R' : Rel K (mvF (mvS S H M) H) S' [] H' env' M') : Rel K F S σ H' env M := by
  refine R.more fun b o e => ?_
  cases h : mvS S H M b with
  | some u =>
    have h1 := (mv_same R).2 b u h
    rw [e] at h1
    cases h1
    exact R'.c.same b o (s b o h)
  | none => exact (R'.c.fr b o (by unfold mvF; rw [if_pos h]; exact e)).1
end
section
variable {X : Cx}
theorem cd_mem {f : Value} {rd : RDA} (hc : CallD X f rd) : CallD X f (fun ds env M Q => rd (rssM ds M) [] m0 fun r _ _ => plainD r = true ∧ Q r env M) := by
  obtain ⟨r, h1, h2⟩ := hc.ex
  exact ⟨⟨r, h1, fun F S σ H env M xs ds Qd Q R rx q p => h2 _ _ [] H [] m0 xs _ _ Q (mv_rel R) (mv_reps R rx) q fun v H' S' env' M' d' s' R' rv qv => p v H' S env M d' (Same.refl _) (mv_back R s' R') (plain_rep qv.1 rv) qv.2⟩⟩
end

/-! ### xs.append(e): xs a list that changes -/
section
variable {X : Cx} {e : Expr} {te : DT} {pos apos cpos npos : Pos}
end
end DL
namespace DL
open PySem PySem.Spec PyProof.Rows L2
section
variable {X : Cx} {k : Nat} {f C : Addr} {fd : FuncData} {ps : List Str} {sp : Sp} {E : L2.St → XK} {x : Str} {p pos : Pos} {e : Expr} {es : List Expr} {t : TA}
end
end DL
namespace DL
open PySem PySem.Spec PyProof.Rows L2
variable [Gh]
section
variable {X : Cx} {k : Nat} {f C : Addr} {fd : FuncData} {ps : List Str} {sp : DSp} {x : Str} {p pos : Pos} {e : Expr} {es : List Expr} {t : DTA} {Wd : KW}
end
end DL
set_option Elab.async false
set_option linter.all false
set_option maxRecDepth 100000
set_option maxHeartbeats 1000000
/-! DL34: isinstance(e, T) of an error that is held. -/
namespace DL
open PySem PySem.Spec PyProof.Rows L2
/-- what the class of a held error must tell -/
structure XiC (K : PySem.W.Frag) (C : Addr) : Prop where
  cl : (PySem.W.clsIn K C).isSome = true
  ga : PySem.W.findIn K (.ref C) "__getattribute__" = some (some (.builtin "BaseException.__getattribute__"))
  gt : PySem.W.findIn K (.ref C) "__getattr__" = some none
  sb : PySem.W.subIn K (.ref C) (.type "BaseException") = some true
  at_ : PySem.W.findIn K (.ref C) "__class__" = some (some (.builtin "object.__class__"))
  sp : PySem.W.specialIn K (.builtin "object.__class__") "__get__" = some (some (.builtin "getset_descriptor.__get__"))
  tk : PySem.W.takesIn K (.builtin "object.__class__") = some true
  mo : PySem.W.mroIn K C (.type "object") = some true
def rIsX (K : PySem.W.Frag) (C a : Addr) (d : Option Addr) : List V → Hp → VK → Prop := fun xs H Q => ∃ (c : V) (cv : Value) (b : Bool), xs = [.ref a, c] ∧ (∀ u, RelV c u → u = cv) ∧ XiC K C ∧ PySem.W.kitOne K (.ref C) cv = some b ∧
  (d = none ∨ ∃ dd fs, d = some dd ∧ H dd = some (.xd fs)) ∧ Q (.bl b) H
theorem call_isX {X : Cx} {a C : Addr} {oe : Obj} {d : Option Addr} {pn : List (Addr × Obj)} (hz : Zc (.ref C) d oe) (hf : ∃ vs, oe.data = .fields vs) : CallR (X.suite a ((a, oe) :: pn)) (.builtin "isinstance") (rIsX X.K C a d) := by
  intro pins s σ H xs us Q I r h
  obtain ⟨c, cv, b, rfl, hcv, T, e, hd, q⟩ := h
  cases r with
  | cons rx rr =>
    cases rr with
    | cons rt rr =>
      cases rr
      cases rx
      have ec := hcv _ rt
      subst ec
      obtain ⟨hget, _⟩ := I.pin (a, oe) (List.mem_append.mpr (.inl List.mem_cons_self))
      obtain ⟨vs, hv⟩ := hf
      obtain ⟨od, J⟩ : ∃ od, PySem.W.InstAt s.heap a oe C od := by
        obtain ⟨oc, oo, oda, osl⟩ := oe
        obtain ⟨h1, h2⟩ := hz
        dsimp only at h1 h2 hv
        subst h1 h2 hv
        rcases hd with rfl | ⟨dd, fs, rfl, hdd⟩
        · exact ⟨none, hget, rfl, rfl, trivial⟩
        · obtain ⟨mA, ⟨o, es, ep, ho, _⟩, _⟩ := (show ObjOk X.prog X.w H s.heap dd (.xd fs) from I.hok dd _ hdd)
          exact ⟨some o, hget, rfl, rfl, ho⟩
      exact PySem.W.kia_one (PySem.W.kitx_exc T.cl T.ga T.gt T.sb T.at_ T.sp T.tk T.mo) I.kIn J e (fun z => nomatch z) fun tk => ⟨.bl b, H, I.kept (t' := tk) fun _ _ z => z, rfl, q⟩
section
variable [Gh] {X : Cx} {a C : Addr} {oe : Obj} {d : Option Addr} {pn : List (Addr × Obj)} {ns : List Str} {es : List D}
@[reducible] def rdIsX (K : PySem.W.Frag) (a C : Addr) : RDA := fun ds env M Q => ∃ c b, ds = [.ref a, c] ∧ XiC K C ∧ ((∃ D, c = .ref D ∧ PySem.W.kitOne K (.ref C) (.ref D) = some b) ∨ ∃ n, c = .ty n ∧ PySem.W.kitOne K (.ref C) (.type n) = some b) ∧ Q (.bl b) env M
theorem cd_isX (xr : XRep X.K Gh.s d ns es) (hz : Zc (.ref C) d oe) (hf : ∃ vs, oe.data = .fields vs) : CallD (X.suite a ((a, oe) :: pn)) (.builtin "isinstance") (rdIsX X.K a C) := by
  refine ⟨⟨_, call_isX hz hf, fun F S σ H env M xs ds Qd Q R r q p => ?_⟩⟩
  obtain ⟨c, b, rfl, T, hc, q⟩ := q
  obtain ⟨v, u, rfl, r1, r2⟩ := r.two
  cases r1
  have hd : d = none ∨ ∃ dd fs, d = some dd ∧ H dd = some (.xd fs) := by
    rcases xr with ⟨_, _, h⟩ | ⟨dd, xs, h1, h2, _⟩
    · exact .inl h
    · exact .inr ⟨dd, _, h1, R.c.same _ _ (R.g.s _ _ h2)⟩
  rcases hc with ⟨D, rfl, e⟩ | ⟨n, rfl, e⟩
  · cases r2
    exact ⟨.ref D, .ref D, b, rfl, fun u h => h, T, e, hd, p _ H S env M (.bl b) (Same.refl _) R rfl q⟩
  · cases r2
    exact ⟨.ty n, .type n, b, rfl, fun u h => h, T, e, hd, p _ H S env M (.bl b) (Same.refl _) R rfl q⟩
end
end DL
namespace DL
open PySem PySem.Spec PyProof.Rows L2
/-- a class whose __init__ may raise -/
structure ClE (P : Program) (w : World) (K : PySem.W.Frag) (mg : Str → Option Value) (base : Heap) (k : Nat) (x : Str) (C : Addr) (ps : List Str) (sp : DSp) : Prop where
  ex : ∃ f fd, FnOk P w K mg base (L2.CX P w) k f fd ps (LSp K sp) ∧ Mk K C f ∧ mg x = some (.ref C) ∧ Binds K fd ps []
end DL
set_option Elab.async false
set_option linter.all false
set_option maxRecDepth 100000
set_option maxHeartbeats 1000000
/-! DL35: books: rules as data, the first wrong name; what the laws' defs about rules promise. -/
namespace DL
open PySem PySem.Spec PyProof.Rows L2

/-! ### names -/
/-! ### the first wrong name -/
/-! ### promises -/
@[reducible] def itemsM (d : D) (M : Mem) : Option (List D) := itemsD (rsM d M)
def spPickM : DSp := fun ds M Q _ => ∃ p it es n o, ds = [.ref p, it] ∧ itemsM it M = some es ∧ 0 < es.length ∧ es.length < 1000000 ∧ n < 2 ^ 40 ∧ M p = some o ∧ PenO o n ∧ ∀ r o', r ∈ es → PenO o' (n + 1) → Q r (mset M p o')
end DL

/-! ### len of a thing with an own __len__ -/
namespace DL
open PySem PySem.Spec PyProof.Rows L2
variable [Gh]
structure OwnC (P : Program) (w : World) (K : PySem.W.Frag) (mg : Str → Option Value) (base : Heap) (C : Addr) (m : Str) (k : Nat) (sp : DSp) : Prop where
  ex : ∃ f fd ps, FnOk P w K mg base CX0 k f fd ps (LSp K sp) ∧ Binds K fd ps [] ∧ PySem.W.isFn K (.ref f) = true ∧ PySem.W.findIn K (.ref C) m = some (some (.ref f))
end DL
namespace DL
open PySem PySem.Spec PyProof.Rows L2
end DL
namespace DL
open PySem PySem.Spec PyProof.Rows L2
end DL
namespace DL
open PySem PySem.Spec PyProof.Rows L2
section
variable [Gh] {X : Cx} {e : Expr} {te : DT} {pos npos : Pos} {x : Str}
end
end DL
namespace DL
open PySem PySem.Spec PyProof.Rows L2
end DL
namespace DL
open PySem PySem.Spec PyProof.Rows L2
end DL
set_option Elab.async false
set_option linter.all false
set_option maxRecDepth 100000
set_option maxHeartbeats 1000000
/-! DL36: what a head must tell of own exception classes, as Bools. -/
namespace DL
open PySem PySem.Spec PyProof.Rows L2 He
theorem excB_ok {K : PySem.W.Frag} {C : Addr} (h : excB K C = true) : ∃ nm q N bs bm sn sub ab col dd k0 k1 k2 k3 k5, K.lookup C = some (excClassObj nm q C N bs bm true sn sub ab col dd k0 k1 k2 k3 k5 "ValueError.__new__") ∧ PySem.HandSPX.refsVE bm = true := by
  unfold excB at h
  split at h
  · rename_i dd cd sl ho
    split at h
    · rename_i C' bm k0 k1 k2 k3 n k5 hm hs
      obtain ⟨a1, h⟩ := ba h
      obtain ⟨a2, h⟩ := ba h
      obtain ⟨a3, h⟩ := ba h
      obtain ⟨a4, a5⟩ := ba h
      have a1 := of_decide_eq_true a1
      have a2 := of_decide_eq_true a2
      obtain ⟨nm, bs, mro, ns, qn, hd, sn, sub, ab, col, del⟩ := cd
      dsimp only at hm a3 a4
      subst a1 a2 hm a4
      obtain rfl : del = false := by cases del <;> first | rfl | cases a3
      obtain rfl : sl = #[k0, k1, k2, k3, some (.builtin "ValueError.__new__"), k5] := by
        obtain ⟨l⟩ := sl
        simp only at hs
        rw [hs]
      exact ⟨nm, qn, ns, bs, bm, sn, sub, ab, col, dd, k0, k1, k2, k3, k5, ho, a5⟩
    · cases h
  · cases h
structure ExFac (P : Program) (K : PySem.W.Frag) (C : Addr) (nm qual : Str) (ps : List Str) (st : Stmt) (f : Addr) (fl : List Str) : Prop where
  at_ : SupXAt P K C nm qual ps st f
  init : PySem.W.findIn K (.ref C) "__init__" = some (some (.ref f))
  ty : PySem.W.typeIn K (.ref f) = some (.type "function")
  xf : XfC K C
  xi : XiC K C
  no : ∀ g ∈ fl, PySem.W.findIn K (.ref C) g = some none
theorem exFac_of {P : Program} {K : PySem.W.Frag} {d : DefD} {ps fl : List Str} {st : Stmt} (e : fnY K d.at_ = valY d) (c : exB P.main.file K d fl = true) (top : (P.main.scope.names.lookup ("super" : Str)).isSome = false)
    (h1 : d.params = defArgs st) (h2 : d.body = defBody st) (h3 : d.scope = defScope st)
    (hb : ∀ (kV doc pm : Value) (an : Option Addr) (cdv ct : Value) (cl : List (Str × Addr)) (us : List Value), us.length = ps.length → bindArgs (PySem.W.fnX d.name d.qual d.params d.body d.scope cl .none kV doc pm an cdv ct) ⟨us, []⟩ = pure (ps.zip us)) :
    ExFac P K (ga K d.at_.1) d.name d.qual ps st (fAd K d.at_) fl := by
  obtain ⟨c, b⟩ := ba c
  obtain ⟨b1, b⟩ := ba b
  obtain ⟨b2, b⟩ := ba b
  obtain ⟨b3, b⟩ := ba b
  obtain ⟨b4, b⟩ := ba b
  obtain ⟨b5, b⟩ := ba b
  obtain ⟨b6, b⟩ := ba b
  obtain ⟨b7, b⟩ := ba b
  obtain ⟨b8, b⟩ := ba b
  obtain ⟨b9, b⟩ := ba b
  obtain ⟨b10, b⟩ := ba b
  obtain ⟨b11, b⟩ := ba b
  obtain ⟨b12, b⟩ := ba b
  obtain ⟨b13, b⟩ := ba b
  obtain ⟨b14, b⟩ := ba b
  obtain ⟨b15, b⟩ := ba b
  obtain ⟨b16, b⟩ := ba b
  obtain ⟨b17, b⟩ := ba b
  obtain ⟨b18, b⟩ := ba b
  obtain ⟨b19, b20⟩ := ba b
  refine ⟨?_, eqO_ok b18, of_decide_eq_true b19, ⟨eqO_ok b11, eqO_ok b12, of_decide_eq_true b8, b13⟩, ⟨b1, eqO_ok b11, eqO_ok b12, of_decide_eq_true b8, eqO_ok b14, eqO_ok b15, of_decide_eq_true b16, of_decide_eq_true b17⟩, fun g hg => eqO_ok (List.all_eq_true.mp b20 g hg)⟩
  have O : OexC K (ga K d.at_.1) := ⟨excB_ok b6, eqO_ok b7, of_decide_eq_true b8, of_decide_eq_true b9, b10⟩
  unfold fnY at e
  unfold supB at c
  cases q : K.lookup (fAd K d.at_) with
  | none => rw [q] at c; cases c
  | some o =>
    obtain ⟨oc, od, dt, osl⟩ := o
    rw [q] at c e
    cases dt with
    | func fd =>
      obtain ⟨n1, n2, n3, n4, n5, n6, n7, n8, n9, n10, n11, n12, n13, n14, n15⟩ := fd
      have e2 : (some (n1, n2, n3, n4, n5, n6, n7.map (·.1), n15) : FnY) = (some (d.name, d.qual, d.params, FuncBody.stmts d.body, d.scope, mainGlobals, [("__class__" : Str)], builtinsNs) : FnY) := e
      simp only [Option.some.injEq, Prod.mk.injEq] at e2
      obtain ⟨g1, g2, g3, g4, g5, g6, g7, g8⟩ := e2
      obtain ⟨cc, rfl⟩ : ∃ cc, n7 = [(("__class__" : Str), cc)] := by
        match n7, g7 with
        | [(x, cc)], g7 =>
          simp only [List.map_cons, List.map_nil, List.cons.injEq, and_true] at g7
          subst g7
          exact ⟨cc, rfl⟩
      subst g4 g6 g8
      cases n13 with
      | ref cda =>
       cases n8 with
       | none =>
        have c2 : (PySem.W.codeIn K (.ref cda) d.qual && ((match K.lookup cda with
          | some ⟨_, _, .fields vs, _⟩ => (match (vs[2]? : Option Value) with
            | some (Value.str fl _) => (P.main.file : Str) == fl
            | _ => false)
          | _ => false) && (match K.lookup cc with
          | some ⟨_, _, .cell (some (.ref D)), _⟩ => decide (D = ga K d.at_.1)
          | _ => false))) = true := c
        obtain ⟨c3, c4⟩ := ba c2
        obtain ⟨c5, c6⟩ := ba c4
        refine ⟨cc, cda, _, ⟨⟨oc, od, .none, n9, n10, n11, n12, n14, osl, ?_, q⟩, c3⟩, ⟨?_, ?_, ?_, of_decide_eq_true b2, of_decide_eq_true b3, eqO_ok b4, eqO_ok b5, top, O⟩, ?_⟩
        · rw [← h1, ← h2, ← h3, ← g1, ← g2, ← g3, ← g5]
        · cases z : K.lookup cda with
          | none => rw [z] at c5; cases c5
          | some o2 =>
            obtain ⟨a1, a2, a3, a4⟩ := o2
            rw [z] at c5
            cases a3 with
            | fields vs =>
              have c7 : (match (vs[2]? : Option Value) with
                | some (Value.str fl _) => (P.main.file : Str) == fl
                | _ => false) = true := c5
              cases y : (vs[2]? : Option Value) with
              | none => rw [y] at c7; cases c7
              | some u =>
                rw [y] at c7
                cases u with
                | str fl tf => exact ⟨a1, a2, vs, a4, fl, tf, rfl, y, c7⟩
                | _ => cases c7
            | _ => cases c5
        · cases z : K.lookup cc with
          | none => rw [z] at c6; cases c6
          | some o2 =>
            obtain ⟨a1, a2, a3, a4⟩ := o2
            rw [z] at c6
            cases a3 with
            | cell v =>
              cases v with
              | none => cases c6
              | some u =>
                cases u with
                | ref D =>
                  have := of_decide_eq_true (show decide (D = ga K d.at_.1) = true from c6)
                  subst this
                  exact ⟨a1, a2, a4, rfl⟩
                | _ => cases c6
            | _ => cases c6
        · exact Option.isSome_iff_exists.mp b1
        · refine .all fun us hl => ?_
          have := hb n9 n10 n11 n12 (.ref cda) n14 [(("__class__" : Str), cc)] us hl
          rw [← g1, ← g2, ← g3, ← g5] at this
          exact this
       | _ => cases c
      | _ => cases c
    | _ => cases c
end DL
set_option Elab.async false
set_option linter.all false
set_option maxRecDepth 100000
set_option maxHeartbeats 4000000
/-! DL37: sorted(set(a list of ints)). set_lstI goes the road of HandS.SetFor (there: of a tuple), sorted_setN that of HandS.Set (there: fewer than 64). -/
namespace DL
open PySem PySem.Spec PyProof.Rows L2
section
variable {P : Program} {w : World} {A : Around} {E : Value → Shared → Prop} {s : Shared}
theorem set_lstI {l : Addr} {items : Array Value} (ns : List Int) {Q : Value → Shared → Prop} (hh : A.handled = none) (hl : s.heap.IsList l items) (hit : IntsAre items.toList ns) (hb : ns.length + 1 < scanBound)
    (h : ∀ (h' : Heap) (tk c : Nat), SetR w h' s.heap.objs.size (fun j => decide (j ∈ ns)) c → c ≤ ns.length → (∀ b o, s.heap.get? b = some o → h'.get? b = some o) → Q (.ref s.heap.objs.size) { s with heap := h', toks := tk }) :
    wpAny (model P w) A (call (.type "set") [.ref l]) Q E s := by
  have hisz : items.size = ns.length := by
    have q := IntsAre.length hit
    rw [Array.length_toList] at q
    exact q
  obtain ⟨c, tl, hmro⟩ := F.called_set.mro
  have hmade := F.called_set.made
  have hsub := F.called_set.sub
  refine wpAny_call (codeAny_of_tree ?_)
  show wpAny _ _ (callAny (.type "set") _) _ _ _
  refine wpAny_pure ⟨Code.quiet_builtin _ (by decide +kernel), codeAny_builtin F.entry_type_call ?_⟩
  rw [Around.under_plain (weight_type_call_type "set" [.ref l] []) rfl]
  have h1 := F.called_set.notType
  have h2 := F.called_set.canCreate
  have hct := F.typeCall_set_1 (.ref l)
  repeat (any_goals (first | assumption | wp_step))

  refine codeAny_mono (code_set_led1 (.ref l) (E := E) (Q₁ := fun obj s₁ => obj = .ref s.heap.objs.size ∧ s₁ = { s with heap := s.heap.push { cls := .type "set", dict := none, data := .set #[] 0 (.fresh 0 0 (!w.params.followText "set-order")) } }) ⟨rfl, rfl⟩) fun r s₁ hr => ?_
  cases r with
  | error e => exact hr
  | ok fl =>
    cases fl with
    | ret obj =>
      obtain ⟨rfl, rfl⟩ := hr
      have hS : (s.heap.push { cls := .type "set", dict := none, data := .set #[] 0 (.fresh 0 0 (!w.params.followText "set-order")) }).get? s.heap.objs.size = some { cls := .type "set", dict := none, data := .set #[] 0 (.fresh 0 0 (!w.params.followText "set-order")) } := Heap.get?_push_size _ rfl
      have hT : Shared.TypeIs { s with heap := s.heap.push { cls := .type "set", dict := none, data := .set #[] 0 (.fresh 0 0 (!w.params.followText "set-order")) } } (.ref s.heap.objs.size) "set" := ⟨_, hS, rfl⟩
      have hli := F.called_set.init.lookup
      have hbi := F.called_set.init.bind (.ref s.heap.objs.size)
      repeat (any_goals (first | assumption | wp_step))

      refine codeAny_mono (codeAny_call_builtin (R := wants (fun r s₂ => r = .none ∧ ∃ h' tk c, s₂ = { s with heap := h', toks := tk } ∧ SetR w h' s.heap.objs.size (fun j => decide (j ∈ ns)) c ∧ c ≤ ns.length ∧
          (∀ b o, s.heap.get? b = some o → h'.get? b = some o)) E) F.called_set.init.plain F.entry_set_init (check_set_init_1 hT ?_)) fun r₂ s₂ hr₂ => ?_
      · obtain ⟨ol, hol, hcl, nl, hdl⟩ := hl
        obtain ⟨ocls, odict, odata, oslots⟩ := ol
        simp only at hcl hdl
        subst hcl; subst hdl
        have hol' : (s.heap.push { cls := .type "set", dict := none, data := .set #[] 0 (.fresh 0 0 (!w.params.followText "set-order")) }).get? l = some { cls := .type "list", dict := odict, data := .seq items nl, slots := oslots } := Heap.get?_push_of_some _ hol
        have hsls := F.sub_list_set
        have hslf := F.sub_list_frozenset
        have hne : (Value.type "list" == Value.type "dict") = false := by decide
        have hl1 : (s.heap.push { cls := .type "set", dict := none, data := .set #[] 0 (.fresh 0 0 (!w.params.followText "set-order")) }).IsList l items := ⟨_, hol', rfl, nl, rfl⟩
        unfold Builtin.«set.__init__» noKeywords Builtin.Frozenset.updateFrom
        generalize hPI : pyIter = PI
        wp_walk
        subst hPI

        refine wpAny_pyIter_list hl1 ?_
        refine wpAny_bind (wpAny_runValue ?_)
        have hlS : l < s.heap.objs.size := Heap.lt_size hol
        have hh3 : A.in1.in1.in1.handled = none := by simp [hh]
        have hz1 : (s.heap.push { cls := .type "set", dict := none, data := .set #[] 0 (.fresh 0 0 (!w.params.followText "set-order")) }).objs.size = s.heap.objs.size + 1 := Heap.size_push ..
        have hneI : l ≠ (s.heap.push { cls := .type "set", dict := none, data := .set #[] 0 (.fresh 0 0 (!w.params.followText "set-order")) }).objs.size := by
          rw [Heap.size_push]; exact Nat.ne_of_lt (Nat.lt_succ_of_lt hlS)
        have hSf : s.heap.objs.size ∉ [(s.heap.push { cls := .type "set", dict := none, data := .set #[] 0 (.fresh 0 0 (!w.params.followText "set-order")) }).objs.size, l] := by
          rw [Heap.size_push]; simp only [List.mem_cons, List.mem_singleton, List.not_mem_nil, or_false, not_or]
          exact ⟨Nat.ne_of_lt (Nat.lt_succ_self _), Nat.ne_of_gt hlS⟩
        have hval : ∀ (i : Nat) (v : Value), items[i]? = some v → ∃ k t, ns[i]? = some k ∧ v = .int k t := fun i v hv => by
          have hi : i < ns.length := by rw [← hisz]; exact (Array.getElem?_eq_some_iff.mp hv).1
          obtain ⟨t, e⟩ := PyProof.Rows.IntsAre.int_at hit i v (by rw [Array.getElem?_toList]; exact hv)
          refine ⟨ns[i], t, List.getElem?_eq_getElem hi, ?_⟩
          rw [e, List.getD_eq_getElem?_getD, List.getElem?_eq_getElem hi] <;> rfl
        refine set_update_ints ((Walks.list hh3 _ l hneI items).toS) s.heap.objs.size
          hSf ns hisz hb hval (items.size - 0) 0 _ (by omega) (Nat.zero_le _)
          ⟨⟨_, Heap.get?_push_size _ rfl, rfl, rfl⟩, (hl1.push _)⟩ ?hS0 ?hR
        case hS0 =>
          have hget : ((s.heap.push { cls := .type "set", dict := none, data := .set #[] 0 (.fresh 0 0 (!w.params.followText "set-order")) }).push { cls := .type "list_iterator", data := .fields #[.ref l, .int 0 0] }).get? s.heap.objs.size
              = some { cls := .type "set", dict := none, data := .set #[] 0 (.fresh 0 0 (!w.params.followText "set-order")) } := Heap.get?_push_of_some _ hS
          exact ⟨0, Nat.le_refl 0, setR_new_at hget⟩
        case hR =>
          intro s' c' hm hc' hS'
          obtain ⟨h', g2, d', tk', os'⟩ := s'
          have eg : g2 = s.gens := hm.gens
          have ed : d' = s.drawn := hm.drawn
          have eo : os' = s.os := hm.os
          subst eg; subst ed; subst eo
          show wpAny _ _ _ _ _ _
          refine wpAny_pure ?_
          show wpAny _ _ (ret Value.none) _ _ _
          rw [hisz] at hc'
          refine wpAny_pure ⟨rfl, h', tk', c', rfl, hS', hc', fun b o e => ?_⟩
          have hb0 : b < s.heap.objs.size := Heap.lt_size e
          have hb1 : b ≠ s.heap.objs.size := Nat.ne_of_lt hb0
          have hb2 : b ≠ (s.heap.push { cls := .type "set", dict := none, data := .set #[] 0 (.fresh 0 0 (!w.params.followText "set-order")) }).objs.size := by
            rw [Heap.size_push]; exact Nat.ne_of_lt (Nat.lt_succ_of_lt hb0)
          exact hm.heap b o (by simp only [List.mem_cons, List.mem_singleton, List.not_mem_nil, or_false, not_or]; exact ⟨hb1, hb2⟩) (Heap.get?_push_of_some _ (Heap.get?_push_of_some _ e))

      · cases r₂ with
        | error e => exact hr₂
        | ok fl₂ =>
          cases fl₂ with
          | ret r =>
            obtain ⟨rfl, h', tk, c', rfl, hS', hc', hk'⟩ := hr₂
            repeat (any_goals (first | assumption | wp_step))
            exact h _ _ _ hS' hc' hk'
          | _ => exact hr₂.elim
    | _ => exact hr.elim
open SrtO in
theorem sorted_setN {a : Addr} {S : Int → Bool} {n : Nat} {Q : Value → Shared → Prop} (R : SetR w s.heap a S n) (hh : A.handled = none)
    (hQ : ∀ s' p (out : List Value) (c : Nat) (ns : List Int), (∀ b o, s.heap.get? b = some o → s'.heap.get? b = some o) → s'.gens = s.gens → s'.os = s.os → s.heap.objs.size ≤ p →
      s'.heap.get? p = some (seqObj "list" out.toArray c) → IntsAre out ns → ns.Pairwise (· < ·) → (∀ k, k ∈ ns ↔ S k = true) → ns.length ≤ sizeLine → Q (.ref p) s') :
    wpAny (model P w) A (call (.builtin "sorted") [.ref a]) Q E s := by
  obtain ⟨o, es, ep, t, ho, hex, hd, g, nd, hm, hb, hf, hn, hr, hl⟩ := R
  refine Calls.call_function_entry kind_sorted plain_sorted entry_sorted (args_sorted1 _) ?_
  unfold Builtin.«sorted»
  refine wpAny_bind (m := checkCount "sorted" 1 1 _) (wpAny_pure ?_)
  refine wpAny_bind (collect_set (A := A.in1) hh ⟨o, ho, hex.1, hd⟩ hf hb hr hl fun s1 vs k1 hz g1 o1 pm => ?_)
  have hvl : vs.length = es.size := by rw [pm.length_eq, List.length_map, Array.length_toList]
  have hvz : vs.length ≤ sizeLine := by rw [hvl]; exact fits_of_scanBound hb
  have hI : IntsAre vs (vs.map Builtin.Re.reRawOf) := ints_of vs fun v hv => by
    obtain ⟨e, he, q⟩ := List.mem_map.mp (pm.mem_iff.mp hv)
    obtain ⟨k, tk, h1, _⟩ := g e he
    exact ⟨k, tk, by rw [← q]; exact h1⟩
  have pk : (vs.map Builtin.Re.reRawOf).Perm (es.toList.map keyOf) := by
    have q := pm.map Builtin.Re.reRawOf
    rw [List.map_map] at q
    exact q
  refine wpAny_bind (wpAny_newList ?_ hvz)
  have hoL : (s1.heap.push (seqObj "list" vs.toArray 0)).get? s1.heap.objs.size = some (seqObj "list" vs.toArray 0) := Heap.get?_push_size _ rfl
  refine wpAny_bind (wpAny_holding (wpAny_call_entry slot_list_sort ⟨_, hoL, rfl⟩ entry_list_sort (list_sort_ord swo_int hoL hvz (fun h2 => ints_sortable hI h2) fun out h1 h2 => ⟨_, rfl, ?_⟩) (args_list_sort _)))
  obtain ⟨c, hc⟩ := sortedHeap_at (vs := vs) (out := out.toArray) hoL
  obtain ⟨a1, a2, a3⟩ := ints_out hI h1 h2
  have pn : (out.map iv).Perm (es.toList.map keyOf) := a2.trans pk
  refine wpAny_pure ⟨_, rfl, hQ _ s1.heap.objs.size out c (out.map iv) (fun b u e => ?_) g1 o1 hz hc a1 (lt_of_le_nodup _ a3 (pn.nodup_iff.mpr nd)) (fun k => by rw [pn.mem_iff, ← hm k]) ?_⟩
  · have q := k1 b u e
    have hlt := Heap.lt_size q
    show (sortedHeap (s1.heap.push (seqObj "list" vs.toArray 0)) s1.heap.objs.size vs out.toArray).get? b = some u
    rw [sortedHeap_old (Nat.ne_of_lt hlt) (by rw [size_push']; exact Nat.lt_succ_of_lt hlt)]
    exact Heap.get?_push_of_some _ q
  · rw [pn.length_eq, List.length_map, Array.length_toList]
    exact fits_of_scanBound hb
end
section
variable {X : Cx}
end
end DL
set_option Elab.async false
set_option linter.all false
set_option maxRecDepth 100000
set_option maxHeartbeats 1000000
/-! DL38: sorted(set(..)) as a rule; repr; a law that shows lists. -/
namespace DL
open PySem PySem.Spec PyProof.Rows L2
variable [Gh]
section
variable {X : Cx} {e : Expr} {t : DTA} {p q pos pos2 npos : Pos} {x : Str}
end
end DL
namespace DL
open PySem PySem.Spec PyProof.Rows L2
variable [Gh]
/-! ### repr of None, an int, a list of ints, nested lists and tuples -/
mutual
def rpB : D → Bool
  | .non => true
  | .bl _ => true
  | .int i => decide (i.natAbs < 10 ^ 12)
  | .str s => PyData.strOk s
  | .tup ds => rpBs ds
  | .lst ds => rpBs ds
  | .lstK _ => false
  | .ref _ => false
  | .ty _ => false
  | .obj _ _ _ => false
  | .dct _ _ _ => false
def rpBs : List D → Bool
  | [] => true
  | d :: r => rpB d && rpBs r
end
inductive RpD : D → Prop
  | non : RpD .non
  | int {i : Int} (h : i.natAbs < 10 ^ 12) : RpD (.int i)
  | lsi {ns : List Int} (l : ns.length ≤ 1000) (h : ∀ i ∈ ns, i.natAbs < 10 ^ 12) : RpD (.lst (ns.map D.int))
  | ti {ns : List Int} (l : ns.length ≤ 1000) (h : ∀ i ∈ ns, i.natAbs < 10 ^ 40) : RpD (.tup (ns.map D.int))
  | tp {ds : List D} (hb : rpBs ds = true) (hd : depDs ds ≤ 8) (hw : PyData.weightAll (pds ds) ≤ 2 ^ 20) : RpD (.tup ds)
  | ls {ds : List D} (hb : rpBs ds = true) (hd : depDs ds ≤ 8) (hw : PyData.weightAll (pds ds) ≤ 2 ^ 20) : RpD (.lst ds)
section
variable {X : Cx}
end
end DL
namespace DL
open PySem PySem.Spec PyProof.Rows L2
/-! ### a law whose Around is known -/
structure FnOkC (P : Program) (w : World) (K : PySem.W.Frag) (mg : Str → Option Value) (base : Heap) (k : Nat) (f : Addr) (fd : FuncData) (ps : List Str) (sp : Sp) : Prop where
  run : ∀ (s : Shared) (H : Hp) (args : Args) (us : List Value) (vs : List V) (Q : VK) (E : XK), Room k callerA → Env0 P w K mg base callerA [] s H → BindsTo s fd args (ps.zip us) → Vals vs us → sp vs H Q E →
    codeAny (model P w) callerA (.call (.ref f) args) (CR CX0 [] P w H s Q E) s
section
variable {P : Program} {w : World} {K : PySem.W.Frag} {mg : Str → Option Value} {base : Heap} {x qual : Str} {params : Arguments} {body : List Stmt} {scope : Scope} {dvs : List V} {kws : List (Str × V)} {f : Addr} {fd : FuncData}
end
end DL
namespace DL
open PySem PySem.Spec PyProof.Rows L2
end DL
set_option Elab.async false
set_option linter.all false
set_option maxRecDepth 100000
set_option maxHeartbeats 1000000
/-! DL39: the places where a way can end: plain. -/
namespace DL
open PySem PySem.Spec PyProof.Rows L2
variable [Gh]

inductive Rt (R : Nat → Nat → Prop) (a : Nat) : Nat → Prop
  | refl : Rt R a a
  | step {b c : Nat} : Rt R a b → R b c → Rt R a c

/-! ### ascending lists of places -/
abbrev Asc (l : List Nat) : Prop := l.Pairwise (· < ·)
/-! ### the closure, found round by round -/
structure Clo (R : Nat → Nat → Prop) (L : Nat) (ps found latest : List Nat) : Prop where
  nd : found.Nodup
  le : ∀ b ∈ found, b ≤ L
  all_ : ∀ p ∈ ps, p ∈ found
  of : ∀ b ∈ found, ∃ a ∈ ps, Rt R a b
  lt : ∀ b ∈ latest, b ∈ found
  asc : Asc latest
  cl : ∀ a ∈ found, a ∉ latest → ∀ b, R a b → b ∈ found
end DL
set_option Elab.async false
set_option linter.all false
set_option maxRecDepth 100000
set_option maxHeartbeats 1000000
/-! DL40: promises of the defs that look for ends; sorted(a list). -/
namespace DL
open PySem PySem.Spec PyProof.Rows L2
variable [Gh]
section
variable {X : Cx} {c a b : Expr} {pos : Pos} {tc : DTT} {ta tb : DTN}
end
section
variable {X : Cx} {e : Expr} {p pos : Pos} {te : DT}
end
section
variable {X : Cx}
end
end DL
namespace DL
open PySem PySem.Spec PyProof.Rows L2
end DL
set_option Elab.async false
set_option linter.all false
set_option maxRecDepth 100000
set_option maxHeartbeats 1000000
/-! DL41: defs that show lists, called by a law. -/
namespace DL
open PySem PySem.Spec PyProof.Rows L2
structure FnOkG (P : Program) (w : World) (K : PySem.W.Frag) (mg : Str → Option Value) (base : Heap) (k : Nat) (f : Addr) (fd : FuncData) (ps : List Str) (sp : Sp) : Prop where
  len : ∀ vs H Q E, sp vs H Q E → vs.length = ps.length
  run : ∀ (A : Around) (outer : List Env) (s : Shared) (H : Hp) (args : Args) (us : List Value) (vs : List V) (Q : VK) (E : XK), A.guards = some [] → Room k A → Env0 P w K mg base A outer s H → BindsTo s fd args (ps.zip us) → Vals vs us → sp vs H Q E →
    codeAny (model P w) A (.call (.ref f) args) (CR CX0 outer P w H s Q E) s
section
variable {P : Program} {w : World} {K : PySem.W.Frag} {mg : Str → Option Value} {base : Heap} {x qual : Str} {params : Arguments} {body : List Stmt} {scope : Scope} {dvs : List V} {kws : List (Str × V)} {f : Addr} {fd : FuncData}
end
/-- a def of the top that keeps a promise where nothing is being shown -/
structure FnG (P : Program) (w : World) (K : PySem.W.Frag) (mg : Str → Option Value) (base : Heap) (k : Nat) (x : Str) (ps : List Str) (sp : DSp) : Prop where
  ex : ∃ f fd, FnOkG P w K mg base k f fd ps (LSp K sp) ∧ mg x = some (.ref f) ∧ PySem.W.keepIn K (.ref f) = true ∧ Binds K fd ps []
section
variable [Gh] {X : Cx} {k : Nat} {f : Addr} {fd : FuncData} {ps : List Str} {sp : Sp} {E : XK} {x : Str} {p pos : Pos} {e : Expr} {es : List Expr} {t : TA}
end
end DL
set_option Elab.async false
set_option linter.all false
set_option maxRecDepth 100000
set_option maxHeartbeats 1000000
/-! DL42: sums: plain. -/
namespace DL
open PySem PySem.Spec PyProof.Rows L2
variable [Gh]
/-- a text that begins by just n times c -/
structure TextC (tt : List Nat) (c n : Nat) : Prop where
  eq : ∀ i, i < n → tt[i]? = some c
  ne : tt[n]? ≠ some c
  le : n ≤ tt.length
section
variable {tt : List Nat} {c n : Nat}
/-! ### rounds -/
def Stp (n : Nat) (ss : List Nat) (a b : Nat) : Prop := ∃ s ∈ ss, b = a + s ∧ b ≤ n
/-- the law's sums, up to T -/
structure SumsTo (n : Nat) (ss : List Nat) (T : Nat) (qs : List Nat) : Prop where
  asc : Asc qs
  mem : ∀ b, b ∈ qs ↔ b ≤ T ∧ Rt (Stp n ss) 0 b
end
end DL
namespace DL
open PySem PySem.Spec PyProof.Rows L2
variable [Gh]
/-! ### a row of maybes -/
section
variable {tt : List Nat} {c n : Nat}
end
/-! ### sizes and widths -/
end DL
set_option Elab.async false
set_option linter.all false
set_option maxRecDepth 100000
set_option maxHeartbeats 1000000
/-! DL43: promises of the defs of k16. -/
namespace DL
open PySem PySem.Spec PyProof.Rows L2
variable [Gh]
structure SumsOk (c n : Nat) (ss tt : List Nat) : Prop where
  ne : ss ≠ []
  few : ss.length ≤ 3
  sz : ∀ s ∈ ss, 1 ≤ s ∧ s ≤ 9
  tc : TextC tt c n
  len : tt.length ≤ 200
  cp : CpOk tt
  ok : PyData.strOk (tx [c]) = true
section
variable {c n : Nat} {ss tt : List Nat}
end
end DL
set_option Elab.async false
set_option linter.all false
set_option maxRecDepth 100000
set_option maxHeartbeats 1000000
/-! DL44: texts of k16. -/
namespace DL
open PySem PySem.Spec PyProof.Rows L2
variable [Gh]
end DL
set_option Elab.async false
set_option linter.all false
set_option maxRecDepth 100000
set_option maxHeartbeats 1000000
/-! DL45: a mutable thing: o.f += e; C(..) that stays mutable; a def held in a field is called. -/
namespace DL
open PySem PySem.Spec PyProof.Rows L2
variable [Gh]
section
variable {X : Cx} {o value : Expr} {f : Str} {pos tpos : Pos} {ta tv : DT}
end
section
variable {X : Cx} {k : Nat} {g : Addr} {fd : FuncData} {ps : List Str} {sp : Sp} {E : XK} {m : Str} {pos apos : Pos} {e o : Expr} {es : List Expr} {ta : TE} {t : TA}
end
section
variable {X : Cx} {k : Nat} {ps : List Str} {sp : DSp} {m x : Str} {pos apos : Pos} {e o : Expr} {es : List Expr} {ta : DT} {t : DTA}
end
end DL
set_option Elab.async false
set_option linter.all false
set_option maxRecDepth 100000
set_option maxHeartbeats 1000000
/-! DL46: C(..) that stays mutable; classmethods that may raise. -/
namespace DL
open PySem PySem.Spec PyProof.Rows L2 ClX
variable [Gh]
section
variable {X : Cx} {k : Nat} {f C : Addr} {fd : FuncData} {ps : List Str} {sp : DSp} {x : Str} {p pos : Pos} {e : Expr} {es : List Expr} {t : DTA}
end
/-! ### classmethods -/
section
variable {X : Cx} {k : Nat} {C p g : Addr} {mc : Value} {fd : FuncData} {ps : List Str} {sp : Sp} {E : L2.St → XK} {o e : Expr} {es : List Expr} {m : Str} {pos apos : Pos} {ta : TE} {t : TA} {pl : Sem Bool}
end
section
variable {X : Cx} {k : Nat} {C p g : Addr} {mc : Value} {fd : FuncData} {ps : List Str} {sp : DSp} {o e : Expr} {es : List Expr} {m : Str} {pos apos : Pos} {ta : DT} {t : DTA} {Wd : KW}
end
end DL
set_option Elab.async false
set_option linter.all false
set_option maxRecDepth 100000
set_option maxHeartbeats 1000000
/-! DL47: a sign in a text; how texts of ways are read: plain. -/
namespace DL
open PySem PySem.Spec PyProof.Rows L2
variable [Gh]
section
variable {X : Cx}
end
/-! ### reading -/
/-- behind the spaces -/
def sk (t : List Nat) (p : Nat) : Nat := p + ((t.drop p).takeWhile fun c => decide (c = 32)).length
inductive Res where
  | bad (p : Nat)
  | ok (w : WT) (p : Nat)
/-- the codes of the signs: / & ! * ? . < > ( ) -/
abbrev cSlash : Nat := 47
abbrev cAmp : Nat := 38
abbrev cBang : Nat := 33
abbrev cStar : Nat := 42
abbrev cQuest : Nat := 63
abbrev cDot : Nat := 46
abbrev cLt : Nat := 60
abbrev cGt : Nat := 62
abbrev cOpen : Nat := 40
abbrev cClose : Nat := 41
def isLet (t : List Nat) (p : Nat) : Bool := match t[p]? with
  | some c => decide (c ∈ lettersN)
  | none => false
def nameEnd (t : List Nat) : Nat → Nat → Nat
  | 0, p => p
  | k + 1, p => if isLet t p then nameEnd t k (p + 1) else p
/-- .. at most twelve letters from p; none: the place where it is refused -/
def pName (t : List Nat) (p : Nat) : Option Nat × Nat :=
  let s := sk t p
  let e := nameEnd t 12 s
  if e = s ∨ isLet t e = true then (none, e) else (some s, e)
def begC (c : Nat) : Bool := decide (c ∈ lettersN) || decide (c ∈ [cDot, cLt, cOpen, cAmp, cBang])
def begins (t : List Nat) (p : Nat) : Bool := match t[sk t p]? with
  | some c => begC c
  | none => false
def pStep (t : List Nat) (c p : Nat) : Option Nat := if t[sk t p]? = some c then some (sk t p + 1) else none
def pOne (t : List Nat) (choice : Nat → Res) (p : Nat) : Res :=
  let s := sk t p
  match t[s]? with
  | none => .bad s
  | some c =>
    if !begC c || decide (c = cAmp) || decide (c = cBang) then .bad s
    else if c ∈ lettersN then .ok (.letter (tx [c])) (s + 1)
    else if c = cDot then .ok .one (s + 1)
    else if c = cLt then match pName t (s + 1) with
      | (none, e) => .bad e
      | (some b, e) => match pStep t cGt e with
        | none => .bad (sk t e)
        | some q => .ok (.call (tx ((t.drop b).take (e - b)))) q
    else if t[sk t (s + 1)]? = some cClose then .ok .nothing (sk t (s + 1) + 1)
    else match choice (sk t (s + 1)) with
      | .bad q => .bad q
      | .ok w q => match pStep t cClose q with
        | none => .bad (sk t q)
        | some r => .ok w r
def pReps (t : List Nat) : Nat → WT → Nat → WT × Nat
  | 0, w, p => (w, p)
  | k + 1, w, p => match t[sk t p]? with
    | some c => if c = cStar then pReps t k (.un .again w) (sk t p + 1) else if c = cQuest then pReps t k (.un .maybe w) (sk t p + 1) else (w, sk t p)
    | none => (w, sk t p)
def pRepeat (t : List Nat) (choice : Nat → Res) (p : Nat) : Res := match pOne t choice p with
  | .bad q => .bad q
  | .ok w q => let r := pReps t (t.length + 1) w q; .ok r.1 r.2
def mkW (c : Bool) (ws : List WT) : WT := match ws with
  | [w] => w
  | _ => .many c ws
def pRows (t : List Nat) (look : Nat → Res) : Nat → List WT → Nat → Res
  | 0, _, p => .bad p
  | k + 1, ws, p => if begins t p then match look (sk t p) with
      | .bad q => .bad q
      | .ok w q => pRows t look k (ws ++ [w]) q
    else .ok (mkW false ws) (sk t p)
def pRow (t : List Nat) (look : Nat → Res) (p : Nat) : Res := match look p with
  | .bad q => .bad q
  | .ok w q => pRows t look (t.length + 1) [w] q
def pAlts (t : List Nat) (row : Nat → Res) : Nat → List WT → Nat → Res
  | 0, _, p => .bad p
  | k + 1, ws, p => if t[sk t p]? = some cSlash then match row (sk t p + 1) with
      | .bad q => .bad q
      | .ok w q => pAlts t row k (ws ++ [w]) q
    else .ok (mkW true ws) (sk t p)
def pChoice (t : List Nat) (look : Nat → Res) (p : Nat) : Res := match pRow t look p with
  | .bad q => .bad q
  | .ok w q => pAlts t (pRow t look) (t.length + 1) [w] q
def pLook (t : List Nat) : Nat → Nat → Res
  | 0, p => .bad p
  | n + 1, p => match t[sk t p]? with
    | some c => if c = cAmp ∨ c = cBang then match pLook t n (sk t p + 1) with
        | .bad q => .bad q
        | .ok w q => .ok (.un (if c = cAmp then .ahead else .unless) w) q
      else pRepeat t (pChoice t (pLook t n)) (sk t p)
    | none => pRepeat t (pChoice t (pLook t n)) (sk t p)
end DL
set_option Elab.async false
set_option linter.all false
set_option maxRecDepth 100000
set_option maxHeartbeats 1000000
/-! DL48: methods of one class, that do not raise (RM) or may raise (RX). -/
namespace DL
open PySem PySem.Spec PyProof.Rows L2
structure RM (P : Program) (w : World) (K : PySem.W.Frag) (mg : Str → Option Value) (base : Heap) (k : Nat) (RC : Addr) (m : Str) (ps : List Str) (sp : DSp) : Prop where
  ex : ∃ f fd, FnOk P w K mg base CX0 k f fd ps (LSp K sp) ∧ Binds K fd ps [] ∧ Cls K RC ∧ Meth K RC m f
structure RX (P : Program) (w : World) (K : PySem.W.Frag) (mg : Str → Option Value) (base : Heap) (k : Nat) (RC : Addr) (m : Str) (ps : List Str) (sp : DSp) : Prop where
  ex : ∃ f fd, FnOk P w K mg base (L2.CX P w) k f fd ps (LSp K sp) ∧ Binds K fd ps [] ∧ Cls K RC ∧ Meth K RC m f
section
variable {P : Program} {w : World} {K : PySem.W.Frag} {mg : Str → Option Value} {base : Heap}
end
section
variable [Gh] {X : Cx} {k : Nat} {RC : Addr} {ps : List Str} {sp : DSp} {m : Str} {pos apos : Pos} {e o : Expr} {es : List Expr} {ta : DT} {t : DTA} {Wd : KW}
end
end DL
set_option Elab.async false
set_option linter.all false
set_option maxRecDepth 100000
set_option maxHeartbeats 1000000
/-! DL49: promises of Reader's methods. -/
namespace DL
open PySem PySem.Spec PyProof.Rows L2
end DL
local macro_rules | `(tactic| walk_at "rd") => `(tactic| ((first | rw [DL.insD_set] | rw [DL.insD_ref (by assumption)]); walk_at "dl"; refine And.intro (by assumption) ?_; (first | rw [DL.fg_text] | rw [DL.fg_place] | rw [DL.fg_line] | rw [DL.fg_make]); walk_at "dl"))
local macro_rules | `(tactic| walk_at "rm") => `(tactic| ((first | rw [DL.insD_set] | rw [DL.insD_ref (by assumption)]); walk_at "dl"; refine And.intro rfl (And.intro (DL.fg_no (by decide +kernel) (by decide +kernel) (by decide +kernel) (by decide +kernel)) ?_); walk_at "dl"))
local macro_rules | `(tactic| walk_at "fa") => `(tactic| ((first | rw [DL.mset_same] | (rw [show _ = some _ from by assumption])); walk_at "dl"; refine And.intro (by assumption) (Exists.intro _ (And.intro DL.fg_place ?_)); walk_at "dl"; refine Exists.intro 1 (And.intro rfl (And.intro (by first | exact DL.mset_same | assumption) (And.intro (by decide) ?_))); walk_at "dl"; rw [DL.fp_N, DL.fp_D, DL.mset_mset]))
set_option Elab.async false
set_option linter.all false
set_option maxRecDepth 100000
set_option maxHeartbeats 1000000
/-! DL50: what is read goes on: bounds of the places. -/
namespace DL
open PySem PySem.Spec PyProof.Rows L2
/-- how deep it can go from p on -/
def dc (t : List Nat) (p : Nat) : Nat := ((t.drop p).filter fun c => decide (c ∈ [cOpen, cAmp, cBang])).length
end DL
set_option Elab.async false
set_option linter.all false
set_option maxRecDepth 100000
set_option maxHeartbeats 1000000
/-! DL51: promises of the reading methods. -/
namespace DL
open PySem PySem.Spec PyProof.Rows L2
end DL
set_option Elab.async false
set_option linter.all false
set_option maxRecDepth 100000
set_option maxHeartbeats 1000000
/-! DL52: loose texts; the words of ways. -/
namespace DL
open PySem PySem.Spec PyProof.Rows L2
/-! ### loose texts -/
/-- a text of words, with any spaces between -/
def Lo : List (List Nat) → List Nat → Prop
  | [], t => ∀ c ∈ t, c = 32
  | w :: ws, t => ∃ s t', t = s ++ (w ++ t') ∧ (∀ c ∈ s, c = 32) ∧ Lo ws t'
def At (t : List Nat) (p : Nat) (ws : List (List Nat)) : Prop := p ≤ t.length ∧ Lo ws (t.drop p)
def hd : List (List Nat) → Option Nat
  | [] => none
  | [] :: _ => none
  | (c :: _) :: _ => some c
/-- words that are not empty and begin with no space -/
def Wd (ws : List (List Nat)) : Prop := ∀ w ∈ ws, ∃ c r, w = c :: r ∧ c ≠ 32
/-! ### the words of a way -/
def isep (sep : List (List Nat)) : List (List (List Nat)) → List (List Nat)
  | [] => []
  | [t] => t
  | t :: u :: r => t ++ sep ++ isep sep (u :: r)
def itk (v : WT) (k : Nat) (ts : List (List Nat)) : List (List Nat) := match brkK v k with
  | true => [40] :: (ts ++ [[41]])
  | false => ts
mutual
/-- .. without those for spaces -/
def toks : WT → List (List Nat)
  | .nothing => [[40], [41]]
  | .one => [[46]]
  | .letter s => [s.cps.toList]
  | .call s => [[60], s.cps.toList, [62]]
  | .un .again w => itk w 4 (toks w) ++ [[42]]
  | .un .maybe w => itk w 5 (toks w) ++ [[63]]
  | .un .ahead w => [38] :: itk w 6 (toks w)
  | .un .unless w => [33] :: itk w 7 (toks w)
  | .many false ws => isep [] (tokss 8 ws)
  | .many true ws => isep [[47]] (tokss 9 ws)
def tokss (k : Nat) : List WT → List (List (List Nat))
  | [] => []
  | w :: ws => itk w k (toks w) :: tokss k ws
end
/-- the first sign of a way's words -/
structure Fst (v : WT) : Prop where
  ex : ∃ c w r, toks v = (c :: w) :: r ∧ begC c = true ∧ (v.tag ≠ 6 → v.tag ≠ 7 → v.tag ≠ 8 → v.tag ≠ 9 → c ≠ 38 ∧ c ≠ 33)
  wd : Wd (toks v)
end DL
set_option Elab.async false
set_option linter.all false
set_option maxRecDepth 100000
set_option maxHeartbeats 1000000
/-! DL53: what is written is read: plain. -/
namespace DL
open PySem PySem.Spec PyProof.Rows L2
/-! ### what is written is read -/
def okR (o : Option Nat) : Prop := o ≠ some 42 ∧ o ≠ some 63
def okB (o : Option Nat) : Prop := ∀ c, o = some c → begC c = false
def okS (o : Option Nat) : Prop := o ≠ some 47
structure PP (t : List Nat) (v : WT) : Prop where
  ch : ∀ n p rest, Wd rest → At t p (toks v ++ rest) → dc t p < n → okR (hd rest) → okB (hd rest) → okS (hd rest) → ∃ q, pChoice t (pLook t n) p = .ok v q ∧ At t q rest
  row : v.tag ≠ 9 → ∀ n p rest, Wd rest → At t p (toks v ++ rest) → dc t p < n → okR (hd rest) → okB (hd rest) → ∃ q, pRow t (pLook t n) p = .ok v q ∧ At t q rest
  look : v.tag ≠ 9 → v.tag ≠ 8 → ∀ n p rest, Wd rest → At t p (toks v ++ rest) → dc t p < n → okR (hd rest) → ∃ q, pLook t n p = .ok v q ∧ At t q rest
  rep : v.tag ≠ 9 → v.tag ≠ 8 → v.tag ≠ 7 → v.tag ≠ 6 → ∀ m p rest, Wd rest → At t p (toks v ++ rest) → dc t p < m + 1 →
    ∃ w0 q0 j q, pOne t (pChoice t (pLook t m)) p = .ok w0 q0 ∧ (∀ f, pReps t (f + j) w0 q0 = pReps t f v q) ∧ j ≤ q ∧ At t q rest
/-! ### the words with those for spaces -/
/-! ### the text of a way is what the law writes -/
/-! ### fuel enough is enough -/
end DL
set_option Elab.async false
set_option linter.all false
set_option maxRecDepth 100000
set_option maxHeartbeats 1000000
/-! DL54: classmethods that may raise, as promises; ways read from a text. -/
namespace DL
open PySem PySem.Spec PyProof.Rows L2 ClX
/-- a classmethod m of the class at C keeps a promise -/
structure CMX (P : Program) (w : World) (K : PySem.W.Frag) (mg : Str → Option Value) (base : Heap) (k : Nat) (C : Addr) (m : Str) (ps : List Str) (sp : DSp) : Prop where
  ex : ∃ mc p g fd, CRead K C mc ∧ CMet K C mc m p g ∧ FnOk P w K mg base (L2.CX P w) k g fd ps (LSp K sp) ∧ Binds K fd ps []
/-- .. as the top leaves it -/
structure CMAt (K : PySem.W.Frag) (C : Addr) (m qual : Str) (ps : List Str) (st : Stmt) : Prop where
  ex : ∃ mc p g fd, CRead K C mc ∧ CMet K C mc m p g ∧ FunD K m qual (defArgs st) (defBody st) (defScope st) [] [] g fd ∧ Binds K fd ps []
section
variable {P : Program} {w : World} {K : PySem.W.Frag} {mg : Str → Option Value} {base : Heap}
end
section
variable [Gh] {X : Cx} {k : Nat} {C : Addr} {ps : List Str} {sp : DSp} {o e : Expr} {es : List Expr} {m : Str} {pos apos : Pos} {ta : DT} {t : DTA} {Wd : KW}
end
/-! C(..) that stays mutable, its __init__ a method RM -/
section
variable [Gh] {X : Cx} {k : Nat} {f C : Addr} {ps : List Str} {sp : DSp} {x : Str} {p pos : Pos} {e : Expr} {es : List Expr} {t : DTA}
end
end DL
namespace DL
open PySem PySem.Spec PyProof.Rows L2 ClX
end DL
set_option Elab.async false
set_option linter.all false
set_option maxRecDepth 100000
set_option maxHeartbeats 1000000
/-! DL55: promises of the laws about texts of ways. -/
namespace DL
open PySem PySem.Spec PyProof.Rows L2
end DL
set_option Elab.async false
set_option linter.all false
set_option maxRecDepth 100000
set_option maxHeartbeats 1000000
/-! DL56: a Hook that looks at a written list of addresses, proved part by part (less memory); classmethods' defs. -/
namespace DL
open PySem PySem.Spec PyProof.Rows L2 He
section
variable {fa fa2 : List Fa} {fn sn : List DefD} {ex : PySem.W.Frag → Bool} {cs : List He5.DefA} {ts : List Tab} {w : World} {K : PySem.W.Frag}
end
end DL
set_option Elab.async false
set_option linter.all false
set_option maxRecDepth 100000
set_option maxHeartbeats 1000000
/-! DL163: calls by names (f(k = v), C(k = v)). -/
namespace DL
open PySem PySem.Spec PyProof.Rows L2
/-- the values of names in the parameters' order -/
def pk {α : Type} (p : List Nat) (ws : List α) : List α := p.filterMap fun i => ws[i]?
theorem pk_rel {vs : List V} {us : List Value} (h : Vals vs us) (p : List Nat) : Vals (pk p vs) (pk p us) := by
  have get : ∀ (i : Nat), (vs[i]? = none ∧ us[i]? = none) ∨ ∃ v u, vs[i]? = some v ∧ us[i]? = some u ∧ RelV v u := by
    induction h with
    | nil => exact fun i => Or.inl ⟨rfl, rfl⟩
    | cons h1 h2 ih =>
      intro i
      cases i with
      | zero => exact Or.inr ⟨_, _, rfl, rfl, h1⟩
      | succ i => exact ih i
  induction p with
  | nil => exact .nil
  | cons i p ih =>
    unfold pk at ih ⊢
    rcases get i with ⟨e1, e2⟩ | ⟨v, u, e1, e2, e3⟩
    · rw [List.filterMap_cons_none e1, List.filterMap_cons_none e2]; exact ih
    · rw [List.filterMap_cons_some e1, List.filterMap_cons_some e2]; exact .cons e3 ih
theorem reps_get {K : PySem.W.Frag} {S : Hp} : ∀ {ds : List D} {vs : List V}, Reps K S ds vs → ∀ (i : Nat), (ds[i]? = none ∧ vs[i]? = none) ∨ ∃ d v, ds[i]? = some d ∧ vs[i]? = some v ∧ Rep K S d v
  | [], [], _, _ => Or.inl ⟨rfl, rfl⟩
  | d :: ds, v :: vs, h, 0 => Or.inr ⟨d, v, rfl, rfl, h.1⟩
  | d :: ds, v :: vs, h, i + 1 => reps_get (ds := ds) (vs := vs) h.2 i
theorem pk_reps {K : PySem.W.Frag} {S : Hp} {ds : List D} {vs : List V} (h : Reps K S ds vs) (p : List Nat) : Reps K S (pk p ds) (pk p vs) := by
  induction p with
  | nil => exact trivial
  | cons i p ih =>
    unfold pk at ih ⊢
    rcases reps_get h i with ⟨e1, e2⟩ | ⟨v, u, e1, e2, e3⟩
    · rw [List.filterMap_cons_none e1, List.filterMap_cons_none e2]; exact ih
    · rw [List.filterMap_cons_some e1, List.filterMap_cons_some e2]; exact ⟨e3, ih⟩
/-- what a call by names ks binds behind n values by position: p tells where each parameter's value stands among the names' values and the defaults -/
structure KwB (K : PySem.W.Frag) (fd : FuncData) (ps : List Str) (n : Nat) (ks : List Str) (p : List Nat) (dds : List D) : Prop where
  ex : ∃ (its : List Value) (dvs : List V), KBn K fd ps n ks (fun us ws => us ++ pk p (ws ++ its)) (fun vs zs => vs ++ pk p (zs ++ dvs)) ∧ ∀ S, Reps K S dds dvs
section
variable {K : PySem.W.Frag} {x qual : Str} {params : Arguments} {body : List Stmt} {scope : Scope} {f : Addr} {fd : FuncData} {ps ks : List Str} {n : Nat} {p : List Nat}
end
/-! ### f(k = v, ..) -/
section
variable {X : Cx} {CX : CXT} {k : Nat} {f C : Addr} {fd : FuncData} {ps ks : List Str} {sp : Sp} {E : XK} {x : Str} {p pos : Pos} {kws : List Keyword} {tk : TA} {g : List Value → List Value → List Value} {gV : List V → List V → List V}
end
/-- a def of the top that keeps a promise; R tells how it is called -/
structure FnQ (P : Program) (w : World) (K : PySem.W.Frag) (mg : Str → Option Value) (base : Heap) (k : Nat) (x : Str) (ps : List Str) (R : FuncData → Prop) (sp : DSp) : Prop where
  ex : ∃ f fd, FnOk P w K mg base CX0 k f fd ps (LSp K sp) ∧ mg x = some (.ref f) ∧ PySem.W.keepIn K (.ref f) = true ∧ R fd
/-- a def as the top leaves it -/
structure DefQ (K : PySem.W.Frag) (mg : Str → Option Value) (x : Str) (ps : List Str) (dvs : List V) (st : Stmt) (R : FuncData → Prop) : Prop where
  ex : ∃ f fd, FunD K x x (defArgs st) (defBody st) (defScope st) dvs [] f fd ∧ mg x = some (.ref f) ∧ PySem.W.keepIn K (.ref f) = true ∧ R fd
section
variable [Gh] {X : Cx} {k : Nat} {ps ks : List Str} {R : FuncData → Prop} {sp : DSp} {x : Str} {q pos : Pos} {kws : List Keyword} {t : DTA} {p : List Nat} {dds : List D}
end
end DL
set_option Elab.async false
set_option linter.all false
set_option maxRecDepth 100000
set_option maxHeartbeats 4000000
/-! DL171: own exceptions without fields: their __init__, raise C(). -/
namespace DL
open PySem PySem.Spec PyProof.Rows L2
section
variable {X : Cx}
theorem mk_none {pins : List (Addr × Obj)} {σ : L2.St} {H : Hp} {hp hq h2 : Heap} {g1 g2 : Array GenState} {d1 d2 : Drawn} {t1 t2 : Nat} {os1 os2 : OsState} {a C : Addr} (I : L2.Inv X pins σ H ⟨hp, g1, d1, t1, os1⟩) (la : hp.objs.size ≤ a)
    (k : ∀ b o, hp.get? b = some o → hq.get? b = some o) (un : L2.Un (frs X.stack) [] (upd H a (exo a C none)) (upd H a (exo a C none)) hq h2) (ok : HOk X.prog X.w (upd H a (exo a C none)) h2) (eo : os2 = os1) (br : AllBare g2) :
    ∃ (t : Addr) (G : Heap), L2.Inv X pins σ H ⟨G, g2, d2, t2, os2⟩ ∧ (∀ b o, G.get? b = some o → h2.get? b = some o) ∧ G.get? a = none ∧ h2.get? a = some ({ cls := .ref C, dict := none, data := .fields #[.ref t, .none, .none, .none, .bool false, .none] } : Obj) ∧ H a = none := by
  have at_a : upd H a (exo a C none) a = some (exo a C none) := upd_same
  obtain ⟨t, hoe⟩ := exo_at ok at_a
  have nH : H a = none := I.hok.fresh la
  obtain ⟨G, ge, gn⟩ := restrict h2 fun b => decide (b ≠ a)
  have same : ∀ b, b ≠ a → G.get? b = h2.get? b := fun b hb => ge b (decide_eq_true hb)
  have none_a : G.get? a = none := gn a (by simp)
  have off : ∀ {b : Addr} {o : Obj}, hp.get? b = some o → b ≠ a := fun {b o} z => Nat.ne_of_lt (Nat.lt_of_lt_of_le (Heap.lt_size z) la)
  have up : ∀ {b : Addr}, b ≠ a → H b = none → upd H a (exo a C none) b = none := fun {b} hb n => by rw [upd_ne hb]; exact n
  have U : L2.Un (frs X.stack) [] H H hp G :=
    { keep := fun b o z n hf hx => by rw [same b (off z)]; exact un.keep b o (k b o z) (up (off z) n) hf hx
      slot := fun b o z n hf hx => by rw [same b (off z)]; exact un.slot b o (k b o z) (up (off z) n) hf hx
      free := fun b o z n hx => n
      there := fun b o z hx => by rw [same b (off z)]; exact un.there b o (k b o z) hx
      tups := fun b xs z => z
      frzs := fun b o v z => z
      tbls := fun b ps z => ⟨#[], by simpa using z⟩ }
  have ok3 : HOk X.prog X.w H G := fun b o z => by
    have ba : b ≠ a := ne_of_none z nH
    have z2 : upd H a (exo a C none) b = some o := by rw [upd_ne ba]; exact z
    have far : ∀ {c : Addr}, upd H a (exo a C none) c = some (.own b) → c ≠ a := fun {c} hc => at_ne at_a hc exo_own
    refine (ok b o z2).stay (fun c v hc y => ?_) (fun c hc => ?_) fun c xs hc => ?_
    · have ca : c ≠ a := by
        rcases hc with hc | hc
        · rw [hc]; exact ba
        · exact far hc
      rw [same c ca]
      exact y
    · have ca := far hc
      rw [upd_ne ca] at hc
      exact hc
    · have ca : c ≠ a := at_ne at_a hc exo_tup
      rw [upd_ne ca] at hc
      exact hc
  refine ⟨t, G, I.call' (ch := []) eo U ok3 br (fun b z => absurd z (by simp)), fun b o z => ?_, none_a, hoe, nH⟩
  by_cases ba : b = a
  · rw [ba, none_a] at z
    cases z
  · exact (same b ba).symm.trans z
/-- C(), C an own exception class without fields -/
theorem pmk_none {CX : CXT} {x : Str} {C fI : Addr} {k : Nat} {fd : FuncData} {ps : List Str} {p pos : Pos} (T : OexC X.K C) (iC : PySem.W.findIn X.K (.ref C) "__init__" = some (some (.ref fI))) (tI : PySem.W.typeIn X.K (.ref fI) = some (.type "function"))
    (Fi : FnOk X.prog X.w X.K X.mg X.base CX k fI fd ps (spX0 C)) (hr : Room (k + 1) X.A) (hb : Binds X.K fd ps []) (hx : Passes CX X (fun _ _ _ => False)) (hg : Gl X x) (hm : X.mg x = some (.ref C)) (hdb : (x == ("__debug__" : Str)) = false := by decide) :
    PMk X (.Call (.Name x p) [] [] pos) (fun _ H Q => Q (.ref C) none H) := by
  intro pins s σ H Q I h
  obtain ⟨nm, q, N, bs, bm, sn, sub, ab, col, dd, k0, k1, k2, k3, k5, hC, hbm⟩ := T.cls
  refine wpAny_Call_Name_kw (ld_glob I hg hm ?_ hdb)
  refine PySem.W.callWith_K0 I.kIn T.kC ?_
  obtain ⟨hp, g, dr, tk, os⟩ := s
  have up1 : hp.objs.size ≤ hp.objs.size + 1 := Nat.le_succ _
  have kk : ∀ b o, hp.get? b = some o → ((hp.push (PySem.W.kdv_tup [])).push (PySem.HandSPX.excO C hp.objs.size)).get? b = some o := fun b o e => Heap.get?_push_of_some _ (Heap.get?_push_of_some _ e)
  have at1 : ((hp.push (PySem.W.kdv_tup [])).push (PySem.HandSPX.excO C hp.objs.size)).get? (hp.objs.size + 1) = some (PySem.HandSPX.excO C hp.objs.size) := by heap_get
  have J : L2.Inv X pins σ (upd H (hp.objs.size + 1) (exo (hp.objs.size + 1) C none)) ⟨(hp.push (PySem.W.kdv_tup [])).push (PySem.HandSPX.excO C hp.objs.size), g, dr, tk, os⟩ :=
    I.laid (t' := tk) (a := hp.objs.size + 1) (o := exo (hp.objs.size + 1) C none) kk up1 (exo_ok at1)
  have told : spX0 C [.ref (hp.objs.size + 1)] (upd H (hp.objs.size + 1) (exo (hp.objs.size + 1) C none)) (fun v H2 => v = .non ∧ H2 = upd H (hp.objs.size + 1) (exo (hp.objs.size + 1) C none)) (fun _ _ _ => False) := ⟨_, rfl, upd_same, rfl, rfl⟩
  have hl := Fi.len _ _ _ _ told
  show wpAny _ _ (call (.ref C) []) _ _ _
  refine wpAny_call (PySem.HandSPX.call_own F.excBase_ValueError (fun Y => PySem.HandSPX.refsVE_contains Y bm hbm) (I.kIn _ _ hC) (PySem.W.looks_findIn I.kIn iC) (fun self => PySem.W.bind_fn I.kIn self tI) (by show 0 ≤ sizeLine; exact Nat.zero_le _)
    (codeAny_mono (Fi.run _ X.stack _ _ ⟨[.ref (hp.objs.size + 1)], []⟩ [.ref (hp.objs.size + 1)] _ _ (fun _ _ _ => False) (hr.make C [] []) (J.env0.make C [] []) (hb _ [.ref (hp.objs.size + 1)] J.kIn (by simpa using hl)) (show Vals [V.ref (hp.objs.size + 1)] [Value.ref (hp.objs.size + 1)] from .cons rfl .nil) told) fun r s' hq => ?_))
  cases r with
  | error er => exact hx pins σ _ _ er s' J hq
  | ok fl =>
    cases fl with
    | ret u =>
      obtain ⟨v, H2, os2, bare2, un2, hok2, rv, ev, eH⟩ := hq
      subst ev
      subst eH
      obtain ⟨h2, g2, d2, t2, os'⟩ := s'
      obtain ⟨t0, G, J2, kG, gA, hoe, nA⟩ := mk_none (d2 := d2) (t2 := t2) I up1 kk un2 hok2 os2 bare2
      exact ⟨rv, _, _, _, ⟨G, g2, d2, t2, os'⟩, H, .ref C, none, rfl, J2, kG, gA, hoe, ⟨rfl, rfl⟩, rfl, rfl, nA, rfl, bare2, raises_own T.exC T.tyC, h⟩
    | next => exact hq.elim
    | brk => exact hq.elim
    | cont => exact hq.elim
end
/-- an own exception class without fields -/
structure ExCl0 (P : Program) (w : World) (K : PySem.W.Frag) (mg : Str → Option Value) (base : Heap) (k : Nat) (x : Str) (C : Addr) : Prop where
  oex : OexC K C
  gm : mg x = some (.ref C)
  ex : ∃ fI fd ps, PySem.W.findIn K (.ref C) "__init__" = some (some (.ref fI)) ∧ PySem.W.typeIn K (.ref fI) = some (.type "function") ∧ FnOk P w K mg base CX0 k fI fd ps (spX0 C) ∧ Binds K fd ps []
@[reducible] def sRaise0 (Wd : KW) (C : Addr) : DTS := fun _ env M => Wd C [] [] env M
theorem s_raise0 [Gh] {X : Cx} {k : Nat} {x : Str} {C : Addr} {p pos rpos : Pos} {Wd : KW} (hc : X.calm = true) (tk : TakesD X Wd) (h : ExCl0 X.prog X.w X.K X.mg X.base k x C) (hr : Room (k + 1) X.A) (hg : Gl X x := by rfl) (hdb : (x == ("__debug__" : Str)) = false := by decide) :
    DS X (.Raise (some (.Call (.Name x p) [] [] pos)) none rpos) (sRaise0 Wd C) := by
  obtain ⟨fI, fd, ps, h1, h2, h3, h4⟩ := h.ex
  exact ps_imp (ps_raise hc tk (pmk_none h.oex h1 h2 h3 hr h4 pass0 hg h.gm hdb)) fun D σ H ⟨F, S, env, M, Ed, R, t, p⟩ => ⟨F, S, env, M, C, [], [], R, rfl, .inl ⟨rfl, rfl, rfl⟩, t⟩
section
variable {P : Program} {w : World} {K : PySem.W.Frag} {mg : Str → Option Value} {base : Heap} {x qual : Str} {params : Arguments} {body : List Stmt} {scope : Scope} {cc cda f C : Addr} {fd : FuncData} {N ps : List Str} {k : Nat}
  {m : Str} {j : Nat} {p0 p1 p2 apos pos ep : Pos} {pl : Env → Sem Bool}
theorem ok_exc0 {sx : Str} (G : SupD K x qual params body scope cc cda f fd) (hbd : body = .Expr (.Call (.Attribute (.Call (.Name "super" p0) [] [] p1) "__init__" apos) [.Constant (.str m) j p2] [] pos) ep :: [])
    (S : NdefX.NScope N ps ["__class__"] scope) (hks : scope.names.lookup ("super" : Str) = some .globalImplicit) (hkc : scope.names.lookup ("__class__" : Str) = some .free) (hka : scope.names.lookup sx = some .local) (hp : (params.posonlyargs ++ params.args).head?.map (·.arg) = some sx)
    (hps : ps = [sx]) (hN : N = [sx, "__class__"]) (hmg : mg "super" = none) (Sk : SupXK P K cc cda C)
    (hev : ∀ env, eval (.Call (.Attribute (.Call (.Name "super" p0) [] [] p1) "__init__" apos) [.Constant (.str m) j p2] [] pos) env = (do
      let ov ← attributeBase (.Call (.Name "super" p0) [] [] p1) "__init__" env (eval (.Call (.Name "super" p0) [] [] p1) env)
      standAt apos.atName
      let (f, first) ← holding [ov] (getMethod ov "__init__" (pl env))
      callWith pos f first (backTo pos (starEach [.Constant (.str m) j p2] env)) []) := by exact fun _ => rfl)
    (hsw : ∀ env, swapsWith (.Call (.Attribute (.Call (.Name "super" p0) [] [] p1) "__init__" apos) [.Constant (.str m) j p2] [] pos) none ep.line env = pure false := by exact fun _ => rfl) :
    FnOk P w K mg base CX0 (k + 1) f fd ps (spX0 C) := by
  obtain ⟨ar, har, hax⟩ : ∃ ar : Arg, (params.posonlyargs ++ params.args).head? = some ar ∧ ar.arg = sx := by
    cases e : (params.posonlyargs ++ params.args).head? with
    | none => rw [e] at hp; cases hp
    | some ar => rw [e] at hp; exact ⟨ar, rfl, Option.some.inj hp⟩
  refine okSupX (ar := ar) G hbd S hks hkc (by rw [hax]; exact hka) har (by rw [hN, hax]; rfl) hmg Sk (fun vs H Q E ⟨a, e, _⟩ => by rw [e, hps]; rfl) (fun vs H Q E ⟨a, e, h, _⟩ => ⟨a, [], e, h⟩) (fun A outer s H vs Q E hr h => ?_) hev hsw
  obtain ⟨a, e, h1, h2⟩ := h
  subst e
  exact ⟨_, pss_nil, h2⟩
end
end DL
set_option Elab.async false
set_option linter.all false
set_option maxRecDepth 100000
set_option maxHeartbeats 4000000
namespace PySem
namespace KwX
open PySem.W PySem.Calls PyProof.Rows PySem.HandSPX
section
variable {prog : Program} {w : World} {A : Around} {E : Value → Shared → Prop} {R : Result → Shared → Prop} {h : Heap} {g : Array GenState} {d : Drawn} {t : Nat} {os : OsState}
variable {nm q : Str} {C N : Addr} {bs bm bmB : List Value} {hdct : Bool} {sn : List Str} {sub : List Value} {ab : Bool} {col : Option Bool} {dd : Option Addr} {k0 k1 k2 k3 k5 : Option Value} {B newId initId : String} {rest : List Value} {kw : List (Str × Value)} {fI : Addr}
/-- what stands behind C's base tells that a class is among them -/
theorem hasN {X : String} {b : Bool} (hT : ∀ X : String, bm.contains (.type X) = bmB.contains (.type X)) (e : bmB.contains (.type X) = b) : (Value.ref C :: bm).contains (.type X) = b := by
  rw [List.contains_cons, hT, e]
  cases b <;> rfl
theorem kw_checkNew {M : Model} (F : ExcBaseFacts B newId initId bmB) (hT : ∀ X : String, bm.contains (.type X) = bmB.contains (.type X)) {Q : Unit → Shared → Prop}
    (hC : h.get? C = some (excClassObj nm q C N bs bm hdct sn sub ab col dd k0 k1 k2 k3 k5 newId)) (hq : Q () ⟨h, g, d, t, os⟩) : wpAny M A (checkBuiltinCall newId ⟨.ref C :: rest, kw⟩) Q E ⟨h, g, d, t, os⟩ := by
  have inB := hasN (C := C) hT F.hasB
  have noStar := F.noStar
  simp only [checkBuiltinCall, F.newKind, F.newSplit, F.newRow]
  repeat (first
    | refine wpAny_loadPart_at hC ?_
    | (refine wpAny_isSubtype_exc hC ?_; rw [inB])
    | refine wpAny_staticBase_exc hC ?_
    | refine wpAny_madeBy_exc hC ?_
    | simp only [bne_self_eq_false, Bool.false_eq_true, if_false]
    | wp_step)
  all_goals exact hq
theorem kw_new (F : ExcBaseFacts B newId initId bmB) (hT : ∀ X : String, bm.contains (.type X) = bmB.contains (.type X)) (hC : h.get? C = some (excClassObj nm q C N bs bm hdct sn sub ab col dd k0 k1 k2 k3 k5 newId)) (hrest : rest.length ≤ sizeLine)
    (hq : R (.ok (.ret (.ref (h.objs.size + 1)))) ⟨(h.push (W.kdv_tup rest)).push (excO C h.objs.size), g, d, t, os⟩) : codeAny (model prog w) A (.builtin newId ⟨.ref C :: rest, kw⟩) R ⟨h, g, d, t, os⟩ := by
  have inB := hasN (C := C) hT F.hasB
  have noA := hasN (C := C) hT F.noAttr
  have noN := hasN (C := C) hT F.noName
  have ends := F.ends
  refine codeAny_builtinAt F.entry ?_
  unfold Builtin.«BaseException.__new__»
  refine wpAt_bind ?_
  show wpAt _ _ _ (stack >>= _) _ _ _
  refine wpAt_bind (wpAt_stack fun p below => wpAt_of_wpAny ?_)
  wp_walk
  refine wpAt_of_wpAny ?_
  rw [F.owner]
  repeat (first
    | with_reducible refine wpAny_madeHere_exc F.canon hC ?_
    | with_reducible refine wpAny_loadPart_at hC ?_
    | (with_reducible refine wpAny_isSubtype_exc hC ?_
       first | rw [inB] | rw [noA] | rw [noN])
    | wp_step)
  show R _ _
  rw [Heap.size_push]
  exact hq
theorem kw_checkCall {M : Model} {Q : Unit → Shared → Prop} (hC : h.get? C = some (excClassObj nm q C N bs bm hdct sn sub ab col dd k0 k1 k2 k3 k5 newId)) (hq : Q () ⟨h, g, d, t, os⟩) : wpAny M A (checkBuiltinCall "type.__call__" ⟨.ref C :: rest, kw⟩) Q E ⟨h, g, d, t, os⟩ := by
  have sT := tc_sub
  have isT : (⟨h, g, d, t, os⟩ : Shared).TypeIs (.ref C) "type" := ⟨_, hC, rfl⟩
  simp only [checkBuiltinCall, tc_kind, tc_split]
  repeat (any_goals (first
    | assumption
    | with_reducible refine wpAny_loadPart_at hC ?_
    | with_reducible refine wpAny_onRaise ?_
    | with_reducible refine wpAny_map ?_
    | wp_step))
theorem kw_typeCall (F : ExcBaseFacts B newId initId bmB) (hT : ∀ X : String, bm.contains (.type X) = bmB.contains (.type X)) {Q : Fin → Shared → Prop} (hC : h.get? C = some (excClassObj nm q C N bs bm hdct sn sub ab col dd k0 k1 k2 k3 k5 newId))
    (hi : W.Looks (model prog w) h (typeLookup (.ref C) "__init__") (some (.ref fI))) (hb : ∀ self, W.Looks (model prog w) h (bindSpecial (.ref fI) self) (.ref fI, [self])) (hrest : rest.length ≤ sizeLine)
    (hq : codeAny (model prog w) A (.call (.ref fI) ⟨.ref (h.objs.size + 1) :: rest, kw⟩) (fun r s' => match r with
        | .ok (.ret v) => v = .none ∧ Q (.done (.ret (.ref (h.objs.size + 1)))) s'
        | .ok _ => False
        | .error e => E e s') ⟨(h.push (W.kdv_tup rest)).push (excO C h.objs.size), g, d, t, os⟩) :
    wpAny (model prog w) A (Builtin.«type.__call__» ⟨.ref C :: rest, kw⟩) Q E ⟨h, g, d, t, os⟩ := by
  repeat (first
    | with_reducible refine wpAny_loadPart_at hC ?_
    | with_reducible refine wpAny_madeBy_exc hC ?_
    | wp_step)
  refine codeAny_call_builtin_code (Code.quiet_builtin _ F.quiet) (kw_checkNew F hT hC (kw_new F hT hC hrest ?_))
  show wpAny _ _ _ _ _ _
  have up : ∀ b o, h.get? b = some o → ((h.push (W.kdv_tup rest)).push (excO C h.objs.size)).get? b = some o := fun b o e => Heap.get?_push_of_some _ (Heap.get?_push_of_some _ e)
  have hC2 := up _ _ hC
  have here : ((h.push (W.kdv_tup rest)).push (excO C h.objs.size)).get? (h.objs.size + 1) = some (excO C h.objs.size) := by heap_get
  have own : (Value.ref C :: bm).contains (.ref C) = true := by simp
  have hi2 := hi.keeps up
  have hb2 := (hb (.ref (h.objs.size + 1))).keeps up
  unfold isInstance
  repeat (first
    | with_reducible refine wpAny_loadPart_at here ?_
    | (with_reducible refine wpAny_isSubtype_exc hC2 ?_; rw [own])
    | wp_step)
  show wpAny _ _ (typeLookup (.ref C) _) _ _ _
  refine hi2.at (wpAny_holding (wpAny_bind (hb2.at (wpAny_bind (wpAny_call (codeAny_mono hq fun r s' z => ?_))))))
  match r, z with
  | .ok (.ret v), ⟨e, z⟩ =>
    subst e
    first
      | exact wpAny_pure (wpAny_pure z)
      | (wp_walk; exact z)
  | .error e, z => exact z
theorem kw_call (F : ExcBaseFacts B newId initId bmB) (hT : ∀ X : String, bm.contains (.type X) = bmB.contains (.type X)) (hC : h.get? C = some (excClassObj nm q C N bs bm hdct sn sub ab col dd k0 k1 k2 k3 k5 newId))
    (hi : W.Looks (model prog w) h (typeLookup (.ref C) "__init__") (some (.ref fI))) (hb : ∀ self, W.Looks (model prog w) h (bindSpecial (.ref fI) self) (.ref fI, [self])) (hrest : rest.length ≤ sizeLine)
    (hq : codeAny (model prog w) (A.under (.builtin "type.__call__" ⟨.ref C :: rest, kw⟩)) (.call (.ref fI) ⟨.ref (h.objs.size + 1) :: rest, kw⟩) (W.InitBack (h.objs.size + 1) R) ⟨(h.push (W.kdv_tup rest)).push (excO C h.objs.size), g, d, t, os⟩) :
    codeAny (model prog w) A (.call (.ref C) ⟨rest, kw⟩) R ⟨h, g, d, t, os⟩ := by
  have l1 := tc_lookup
  have l2 := tc_bind (.ref C)
  have isT : (⟨h, g, d, t, os⟩ : Shared).TypeIs (.ref C) "type" := ⟨_, hC, rfl⟩
  refine codeAny_of_tree ?_
  show wpAny _ _ (callAny (.ref C) _) _ _ _
  repeat (any_goals (first
    | assumption
    | with_reducible refine wpAny_loadPart_at hC ?_
    | wp_step))
  refine ⟨rfl, codeAny_call_builtin_at (Code.quiet_builtin _ (by decide +kernel)) entry_typeCall (kw_checkCall hC (kw_typeCall F hT hC hi hb hrest (codeAny_mono hq fun r s' z => ?_)))⟩
  match r, z with
  | .ok (.ret v), z => exact z
  | .error e, z => exact z
end
end KwX
end PySem
set_option Elab.async false
set_option linter.all false
set_option maxRecDepth 100000
set_option maxHeartbeats 2000000
/-! DL219: errors as values, made by names; their fields; defs that are called within an except suite, about the error that is held. -/
namespace DL
open PySem PySem.Spec PyProof.Rows L2
/-! ### C(k = v, ..): an error as a value -/
/-- the error stands, its __init__ has run -/
def tMkV (C : Addr) (m : Nat) (sp : Sp) (gV : List V → List V → List V) (tk : TA) : TE := fun σ H Q => tk σ H fun zs H1 => zs.length = m ∧ ∀ a, H1 a = none → sp (gV [.ref a] zs) (upd H1 a (exo a C none)) (fun v H2 => v = .non ∧ Q (.ref a) H2) (fun _ _ _ => False)
section
variable {X : Cx} {CX : CXT} {k : Nat} {fI C : Addr} {fd : FuncData} {ps ks : List Str} {sp : Sp} {x : Str} {p pos : Pos} {kws : List Keyword} {tk : TA} {g : List Value → List Value → List Value} {gV : List V → List V → List V}
theorem run_mkV {pins : List (Addr × Obj)} {σ : L2.St} {H : Hp} {s : Shared} {Q : VK} {ws : List Value} {zs : List V} (T : OexC X.K C) (iC : PySem.W.findIn X.K (.ref C) "__init__" = some (some (.ref fI))) (tI : PySem.W.typeIn X.K (.ref fI) = some (.type "function"))
    (Fi : FnOk X.prog X.w X.K X.mg X.base CX k fI fd ps sp) (hr : Room (k + 1) X.A) (hb : KBn X.K fd ps 1 ks g gV) (hx : Passes CX X (fun _ _ _ => False)) (I : Inv X pins σ H s) (rz : Vals zs ws) (lz : zs.length = ks.length)
    (told : ∀ a, H a = none → sp (gV [.ref a] zs) (upd H a (exo a C none)) (fun v H2 => v = .non ∧ Q (.ref a) H2) (fun _ _ _ => False)) :
    wpAny (model X.prog X.w) X.A (call (.ref C) [] (ks.zip ws)) (EP X pins σ Q) X.xe s := by
  obtain ⟨nm, q, N, bs, bm, sn, sub, ab, col, dd, k0, k1, k2, k3, k5, hC, hbm⟩ := T.cls
  obtain ⟨hp, gn, dr, tk, os⟩ := s
  have up1 : hp.objs.size ≤ hp.objs.size + 1 := Nat.le_succ _
  have told := told (hp.objs.size + 1) (I.hok.fresh up1)
  have at1 : ((hp.push (PySem.W.kdv_tup [])).push (PySem.HandSPX.excO C hp.objs.size)).get? (hp.objs.size + 1) = some (PySem.HandSPX.excO C hp.objs.size) := by heap_get
  have J : Inv X pins σ (upd H (hp.objs.size + 1) (exo (hp.objs.size + 1) C none)) ⟨(hp.push (PySem.W.kdv_tup [])).push (PySem.HandSPX.excO C hp.objs.size), gn, dr, tk, os⟩ :=
    I.laid (t' := tk) (a := hp.objs.size + 1) (o := exo (hp.objs.size + 1) C none) (fun b o e => Heap.get?_push_of_some _ (Heap.get?_push_of_some _ e)) up1 (exo_ok at1)
  have rs : Vals [V.ref (hp.objs.size + 1)] [Value.ref (hp.objs.size + 1)] := .cons rfl .nil
  have lw : ws.length = ks.length := rz.length.symm.trans lz
  refine wpAny_call (PySem.KwX.kw_call (kw := ks.zip ws) F.excBase_ValueError (fun Y => PySem.HandSPX.refsVE_contains Y bm hbm) (I.kIn _ _ hC) (PySem.W.looks_findIn I.kIn iC) (fun self => PySem.W.bind_fn I.kIn self tI) (by show 0 ≤ sizeLine; exact Nat.zero_le _)
    (codeAny_mono (Fi.run _ X.stack _ _ ⟨[Value.ref (hp.objs.size + 1)], ks.zip ws⟩ (g [Value.ref (hp.objs.size + 1)] ws) _ _ (fun _ _ _ => False) (hr.make C [] (ks.zip ws)) (J.env0.make C [] (ks.zip ws)) (hb.to _ [Value.ref (hp.objs.size + 1)] ws J.kIn rfl lw) (hb.rel rs rz) told) fun r s' hq => ?_))
  cases r with
  | error e => exact hx pins σ _ _ e s' J hq
  | ok fl =>
    cases fl with
    | ret u =>
      obtain ⟨v, H', J2, rv, ev, q3⟩ := J.after hq
      subst ev
      exact ⟨rv, V.ref (hp.objs.size + 1), H', J2, rfl, q3⟩
    | next => exact hq.elim
    | brk => exact hq.elim
    | cont => exact hq.elim
theorem pe_mkV (T : OexC X.K C) (iC : PySem.W.findIn X.K (.ref C) "__init__" = some (some (.ref fI))) (tI : PySem.W.typeIn X.K (.ref fI) = some (.type "function"))
    (Fi : FnOk X.prog X.w X.K X.mg X.base CX k fI fd ps sp) (hr : Room (k + 1) X.A) (hb : KBn X.K fd ps 1 ks g gV) (hx : Passes CX X (fun _ _ _ => False)) (hg : Gl X x) (hm : X.mg x = some (.ref C)) (hkw : PK X kws tk)
    (hall : (backToKw pos (keywordEach kws X.env)).all (·.1.isSome) = true := by rfl) (hks : (backToKw pos (keywordEach kws X.env)).filterMap (·.1) = ks := by rfl) (hdb : (x == ("__debug__" : Str)) = false := by decide)
    (hpl : ((backTo pos (starEach [] X.env)).any (·.1) || (backToKw pos (keywordEach kws X.env)).any (·.1.isNone)) = false := by rfl) :
    PE X (.Call (.Name x p) [] kws pos) (tMkV C ks.length sp gV tk) := by
  refine ⟨fun pins s σ H Q I h => ?_⟩
  refine wpAny_Call_Name_kw (ld_glob I hg hm ?_ hdb)
  refine PySem.W.callWith_KW0 (h₀ := X.base) I.ok.mod.kin T.kC hall ?_ hpl
  refine thn (hkw.run pos pins s σ H _ I h) fun ws s2 ⟨zs, H2, J, rz, l2, q2⟩ => ⟨J.kIn, ?_⟩
  rw [hks]
  exact run_mkV T iC tI Fi hr hb hx J rz l2 q2
theorem pe_mkV0 (T : OexC X.K C) (iC : PySem.W.findIn X.K (.ref C) "__init__" = some (some (.ref fI))) (tI : PySem.W.typeIn X.K (.ref fI) = some (.type "function"))
    (Fi : FnOk X.prog X.w X.K X.mg X.base CX k fI fd ps sp) (hr : Room (k + 1) X.A) (hb : Binds X.K fd ps []) (hps : ps.length = 1) (hx : Passes CX X (fun _ _ _ => False)) (hg : Gl X x) (hm : X.mg x = some (.ref C)) (hdb : (x == ("__debug__" : Str)) = false := by decide) :
    PE X (.Call (.Name x p) [] [] pos) (fun σ H Q => ∀ a, H a = none → sp [.ref a] (upd H a (exo a C none)) (fun v H2 => v = .non ∧ Q (.ref a) H2) (fun _ _ _ => False)) := by
  refine ⟨fun pins s σ H Q I h => ?_⟩
  refine wpAny_Call_Name_kw (ld_glob I hg hm ?_ hdb)
  refine PySem.W.callWith_K0 I.kIn T.kC ?_
  exact run_mkV (ks := []) (g := fun us _ => us) (gV := fun vs _ => vs) T iC tI Fi hr ⟨fun s us ws K0 l1 l2 => by
    have := hb s us K0 (by rw [List.append_nil, l1, hps])
    rw [List.append_nil] at this
    exact this, fun r1 _ => r1⟩ hx I .nil rfl h
end
/-- an own error class whose fields are told by names ks, where each parameter's value stands among them -/
structure ExClQ (P : Program) (w : World) (K : PySem.W.Frag) (mg : Str → Option Value) (base : Heap) (k : Nat) (x : Str) (C : Addr) (ns ks : List Str) (p : List Nat) : Prop where
  oex : OexC K C
  gm : mg x = some (.ref C)
  ex : ∃ fI fd ps, PySem.W.findIn K (.ref C) "__init__" = some (some (.ref fI)) ∧ PySem.W.typeIn K (.ref fI) = some (.type "function") ∧ FnOk P w K mg base CX0 k fI fd ps (spXI C ns) ∧ KwB K fd ps 1 ks p []
@[reducible] def dMkV (C : Addr) (ns : List Str) (p : List Nat) (m : Nat) (t : DTA) : DT := fun env M Q => t env M fun ds env1 M1 => ds.length = m ∧ (pk p ds).length = ns.length ∧ ∀ a, M1 a = none → Q (.ref a) env1 (mset M1 a (.exc C ns.reverse (pk p ds).reverse))
@[reducible] def dMkV0 (C : Addr) : DT := fun env M Q => ∀ a, M a = none → Q (.ref a) env (mset M a (.exc C [] []))
section
variable [Gh] {X : Cx} {k : Nat} {ns ks : List Str} {x : Str} {C : Addr} {q pos : Pos} {kws : List Keyword} {t : DTA} {p : List Nat}
theorem d_mkV (h : ExClQ X.prog X.w X.K X.mg X.base k x C ns ks p) (hr : Room (k + 1) X.A) (hkw : DKw X kws t) (hg : Gl X x := by rfl)
    (hall : (backToKw pos (keywordEach kws X.env)).all (·.1.isSome) = true := by rfl) (hks : (backToKw pos (keywordEach kws X.env)).filterMap (·.1) = ks := by rfl) (hdb : (x == ("__debug__" : Str)) = false := by decide)
    (hpl : ((backTo pos (starEach [] X.env)).any (·.1) || (backToKw pos (keywordEach kws X.env)).any (·.1.isNone)) = false := by rfl) :
    DE X (.Call (.Name x q) [] kws pos) (dMkV C ns p ks.length t) := by
  obtain ⟨fI, fd, ps, h1, h2, h3, h4⟩ := h.ex
  obtain ⟨its, dvs, hb, hdd⟩ := h4.ex
  refine pe_imp (pe_mkV h.oex h1 h2 h3 hr hb pass0 hg h.gm hkw hall hks hdb hpl) fun σ H Q ⟨F, S, env, M, Qd, R, t, p⟩ => ⟨F, S, env, M, _, R, t, fun vs H' S' env' M' ds s' R' r q => ?_⟩
  obtain ⟨q1, q2, q3⟩ := q
  refine ⟨r.length.symm.trans q1, fun a ha => ?_⟩
  have rp := pk_reps (r.append (hdd S')) ‹List Nat›
  rw [List.append_nil] at rp
  refine ⟨a, pk ‹List Nat› (vs ++ dvs), rfl, by rw [← rp.length]; exact q2, upd_same, fun d hd hne => ⟨rfl, ?_⟩⟩
  have hd1 : H' d = none := by rw [upd_ne hne] at hd; exact hd
  obtain ⟨R2, s2⟩ := R'.new (o := exd d (ns.reverse.zip (pk ‹List Nat› (vs ++ dvs)).reverse)) hd1
  have ha2 : upd H' d (exd d (ns.reverse.zip (pk ‹List Nat› (vs ++ dvs)).reverse)) a = none := by rw [upd_ne (Ne.symm hne)]; exact ha
  have R3 := R2.newM (o := exo a C (some d)) (m := .exc C ns.reverse (pk ‹List Nat› ds).reverse) ha2 ⟨some d, upd_same, .inr ⟨d, _, rfl, upd_same, by rw [List.length_reverse, List.length_reverse, ← rp.length]; exact q2, (rp.mono s2).rev⟩⟩
  have eH : upd (upd (upd H' a (exo a C none)) d (exd d (ns.reverse.zip (pk ‹List Nat› (vs ++ dvs)).reverse))) a (exo a C (some d)) = upd (upd H' d (exd d (ns.reverse.zip (pk ‹List Nat› (vs ++ dvs)).reverse))) a (exo a C (some d)) := by
    funext b
    by_cases hb : b = a
    · rw [hb, upd_same, upd_same]
    · rw [upd_ne hb, upd_ne hb]
      by_cases hbd : b = d
      · rw [hbd, upd_same, upd_same]
      · rw [upd_ne hbd, upd_ne hb, upd_ne hbd]
  rw [eH]
  exact p (.ref a) _ _ env' _ (.ref a) (s'.trans s2) R3 rfl (q3 a (R'.c.mfree ha))
theorem d_mkV0 (h : ExCl0 X.prog X.w X.K X.mg X.base k x C) (hps : ∀ fI fd ps, FnOk X.prog X.w X.K X.mg X.base CX0 k fI fd ps (spX0 C) → ps.length = 1) (hr : Room (k + 1) X.A) (hg : Gl X x := by rfl) (hdb : (x == ("__debug__" : Str)) = false := by decide) :
    DE X (.Call (.Name x q) [] [] pos) (dMkV0 C) := by
  obtain ⟨fI, fd, ps, h1, h2, h3, h4⟩ := h.ex
  refine pe_imp (pe_mkV0 h.oex h1 h2 h3 hr h4 (hps _ _ _ h3) pass0 hg h.gm hdb) fun σ H Q ⟨F, S, env, M, Qd, R, t, p⟩ => fun a ha => ?_
  refine ⟨a, rfl, upd_same, rfl, ?_⟩
  exact p (.ref a) _ _ env _ (.ref a) (Same.refl _) (R.newM (o := exo a C none) (m := .exc C [] []) ha ⟨none, upd_same, .inl ⟨rfl, rfl, rfl⟩⟩) rfl (t a (R.c.mfree ha))
end
theorem spX0_one {P : Program} {w : World} {K : PySem.W.Frag} {mg : Str → Option Value} {base : Heap} {k : Nat} {C fI : Addr} {fd : FuncData} {ps : List Str} (h : FnOk P w K mg base CX0 k fI fd ps (spX0 C)) : ps.length = 1 :=
  (h.len [.ref 0] (upd (fun _ => none) 0 (exo 0 C none)) (fun _ _ => True) (fun _ _ _ => True) ⟨0, rfl, upd_same, trivial⟩).symm
/-! ### its fields -/
section
variable {X : Cx} {e : Expr} {te : TE} {pos : Pos} {n : Str}
theorem pe_xv (he : PE X e te) (hb : attributeBase e n X.env (eval e X.env) = eval e X.env := by rfl) :
    PE X (.Attribute e n pos) (fun σ H Q => te σ H fun x H1 => ∃ (a C dd : Addr) (fs : List (Str × V)) (v : V), x = .ref a ∧ H1 a = some (exo a C (some dd)) ∧ H1 dd = some (exd dd fs) ∧ XfC X.K C ∧ PySem.W.findIn X.K (.ref C) n = some none ∧ fs.lookup n = some v ∧ Q v H1) := by
  refine ⟨fun pins s σ H Q I h => ?_⟩
  refine attr_of hb (thn (he.run pins s σ H _ I h) fun u s1 hh => ?_)
  obtain ⟨x, H1, J, rx, a, C, dd, fs, v, ex, ea, ed, T, hno, l, q⟩ := hh
  subst ex
  obtain rfl : u = Value.ref a := rx
  obtain ⟨t1, ha⟩ := exo_at J.hok ea
  obtain ⟨mA, hns, hr⟩ := exd_at J.hok ed
  obtain ⟨od, ho, hl⟩ := lookIn_ns hns
  obtain ⟨u, hu, ru⟩ := RelO.some_of (v := v) (o := mA n) (by rw [← l]; exact hr n)
  have at_a : PySem.W.InstAt s1.heap a ({ cls := .ref C, dict := some dd, data := .fields #[.ref t1, .none, .none, .none, .bool false, .none] } : Obj) C (some od) := ⟨ha, rfl, rfl, ho⟩
  exact HandSPX.exc_get J.kIn at_a T.ga T.gg T.exC (PySem.W.findObj_own T.hdC hno rfl (by rw [hl, hu])) (handed_of ru) ⟨v, H1, J.tok _, ru, q⟩
end
@[reducible] def dXv (K : PySem.W.Frag) (n : Str) (te : DT) : DT := fun env M Q => te env M fun d env1 M1 => ∃ a C ns es r, d = .ref a ∧ M1 a = some (.exc C ns es) ∧ XfOk K C n ∧ fget n ns es = some r ∧ Q r env1 M1
section
variable [Gh] {X : Cx} {e : Expr} {te : DT} {pos : Pos} {n : Str}
theorem d_xv (he : DE X e te) (hb : attributeBase e n X.env (eval e X.env) = eval e X.env := by rfl) : DE X (.Attribute e n pos) (dXv X.K n te) := by
  refine pe_imp (pe_xv he hb) fun σ H Q ⟨F, S, env, M, Qd, R, t, p⟩ => ⟨F, S, env, M, _, R, t, fun v H' S' env' M' d s' R' r q => ?_⟩
  obtain ⟨a, C, ns, es, y, rfl, hM, ok, hg, q⟩ := q
  cases r
  obtain ⟨od, ea, hh⟩ := (R'.c.mem a _ hM).2
  rcases hh with ⟨rfl, rfl, rfl⟩ | ⟨dd, xs, rfl, e1, l, rs⟩
  · cases hg
  · obtain ⟨u, e2, r2⟩ := reps_fget rs hg
    exact ⟨a, C, dd, _, u, rfl, ea, R'.c.same _ _ e1, ok.c, ok.no, e2, p u H' S' env' M' y s' R' r2 q⟩
end
end DL
set_option Elab.async false
set_option linter.all false
set_option maxRecDepth 100000
set_option maxHeartbeats 2000000
/-! DL220: defs that are called within an except suite, about the error that is held. -/
namespace DL
open PySem PySem.Spec PyProof.Rows L2 L2H
/-- a def that keeps a promise about a pinned object, whatever is handled -/
structure FnZ (P : Program) (w : World) (K : PySem.W.Frag) (mg : Str → Option Value) (base : Heap) (k : Nat) (f : Addr) (fd : FuncData) (ps : List Str) (sp : Addr × Obj → Sp) : Prop where
  len : ∀ p vs H Q E, sp p vs H Q E → vs.length = ps.length
  run : ∀ (A : Around) (outer : List Env) (s : Shared) (H : Hp) (args : Args) (us : List Value) (vs : List V) (Q : VK) (E : XK) (p : Addr × Obj), RoomH k A → PinOk outer H s p → Env0 P w K mg base A outer s H → BindsTo s fd args (ps.zip us) → Vals vs us → sp p vs H Q E →
    codeAny (model P w) A (.call (.ref f) args) (CR CX0 outer P w H s Q E) s
section
variable {P : Program} {w : World} {K : PySem.W.Frag} {mg : Str → Option Value} {base : Heap} {x qual : Str} {params : Arguments} {body : List Stmt} {scope : Scope} {dvs : List V} {kws : List (Str × V)} {f : Addr} {fd : FuncData}
theorem fnZ_of {N ps : List Str} {k : Nat} {sp : Addr × Obj → Sp} (G : FunD K x qual params body scope dvs kws f fd) (S : FnScope N ps scope) (len : ∀ p vs H Q E, sp p vs H Q E → vs.length = ps.length)
    (hbody : ∀ (cdv : Value) (A : Around) (outer : List Env) (s : Shared) (H : Hp) (vs : List V) (Q : VK) (E : XK) (p : Addr × Obj), RoomH k (A.deeper (envOfC qual scope s.heap.objs.size f cdv)) → sp p vs H Q E →
      ∃ t, PSs (cxH CX0 P w K mg base N qual scope f cdv A outer s H E p) body t ∧ t { nx := fun _ H' => Q .non H', rt := Q } (L2.start N vs) H) : FnZ P w K mg base (k + 1) f fd ps sp := by
  obtain ⟨oc, od, dV, kV, doc, pm, an, cdv, ct, osl, rfl, lk, hcd, _, _⟩ := G.ex
  refine ⟨len, fun A outer s H args us vs Q E p hr hpin e0 hb r hsp => ?_⟩
  have KX : K.In s.heap := e0.mod.kin.keeps fun b o e => (e0.bs b o e).1
  have NL : s.heap.NoLimit := e0.mod.nolimit.keeps fun b o e => (e0.bs b o e).1
  have kinds : ∀ y ∈ ps.zip us, scope.names.lookup y.1 = some .local ∨ (scope.names.lookup y.1 = some .cell ∧ ((cellsFrom (s.heap.objs.size + 1) scope.names []).lookup y.1).isSome = true) := fun ⟨n, v⟩ hy =>
    (S.par n (List.of_mem_zip hy).1).imp id fun q => ⟨q, PySem.W.cellsFrom_some _ _ _ (.inl q)⟩
  refine codeAny_call_function hr.depth (KX _ _ lk) rfl S.co S.gen rfl (PySem.W.codeRec_of KX hcd) (hb _ _ _ _ ?_)
  refine wpAny_newFunctionEnv_cells S.kind kinds fun env he s1 hc => ?_
  subst he
  refine ⟨NL.keeps hc.toInCall.keep, codeAny_func ?_⟩
  obtain ⟨t, ht, hq⟩ := hbody cdv A outer s H vs Q E p (hr.deeper _) hsp
  have J : Inv (cxH CX0 P w K mg base N qual scope f cdv A outer s H E p) [] (L2.start N vs) H s1 := inv_startH S hpin e0 (len _ _ _ _ _ hsp) r hc
  refine wpAny_mono (ht.run [] s1 (L2.start N vs) H _ J hq) (fun fl s' hs => ?_) fun e s' hs => hs
  match fl, hs with
  | .ret u, ⟨v, σ', H', I, rv, q⟩ => exact ⟨v, H', I.os, I.bare, I.base, I.hok, rv, q⟩
  | .next, ⟨σ', H', I, q⟩ => exact ⟨V.non, H', I.os, I.bare, I.base, I.hok, rfl, q⟩
  | .brk, ⟨_, _, _, q⟩ => exact q.elim
  | .cont, ⟨_, _, _, q⟩ => exact q.elim
end
/-- a promise about an error that is held: at a, of the class at C, with fields -/
abbrev ZSp := Addr → Addr → List Str → List D → DSp
def LSpZ (K : PySem.W.Frag) (sp : ZSp) : Addr × Obj → Sp := fun p vs H Q _ => ∃ F S ds M Qd C d ns es, RelC K F S H M ∧ Reps K S ds vs ∧ XRep K S d ns es ∧ Zc (.ref C) d p.2 ∧ (∃ vs, p.2.data = .fields vs) ∧ sp p.1 C ns es ds M Qd KX0 ∧ PostR K F S Qd Q
structure FnZd (P : Program) (w : World) (K : PySem.W.Frag) (mg : Str → Option Value) (base : Heap) (k : Nat) (x : Str) (ps : List Str) (sp : ZSp) : Prop where
  ex : ∃ f fd, FnZ P w K mg base k f fd ps (LSpZ K sp) ∧ mg x = some (.ref f) ∧ PySem.W.keepIn K (.ref f) = true ∧ Binds K fd ps []
theorem okFZ {P : Program} {w : World} {K : PySem.W.Frag} {mg : Str → Option Value} {base : Heap} {x : Str} {st : Stmt} {N ps : List Str} {k : Nat} {sp : ZSp} (G : DefAt K mg x ps st) (S : FnScope N ps (defScope st)) (len : ∀ a C ns es ds M Q E, sp a C ns es ds M Q E → ds.length = ps.length)
    (hbody : ∀ [Gh] (f : Addr) (cdv : Value) (A : Around) (outer : List Env) (s : Shared) (H : Hp) (E : XK) (a C : Addr) (d : Option Addr) (ns : List Str) (es : List D) (oe : Obj), RoomH k (A.deeper (envOfC x (defScope st) s.heap.objs.size f cdv)) → XRep K Gh.s d ns es → Zc (.ref C) d oe → (∃ vs, oe.data = .fields vs) →
      ∃ t, DSs (cxH CX0 P w K mg base N x (defScope st) f cdv A outer s H E (a, oe)) (defBody st) t ∧ ∀ ds M Q, sp a C ns es ds M Q KX0 → t { nx := fun _ M' => Q .non M', rt := Q } (startD N ds) M) : FnZd P w K mg base (k + 1) x ps sp := by
  obtain ⟨f, fd, F, hm, hk, hb⟩ := G.ex
  refine ⟨⟨f, fd, fnZ_of F S (fun p vs H Q E ⟨F, S, ds, M, Qd, C, d, ns, es, c, r, _, _, _, q, _⟩ => by rw [← r.length]; exact len _ _ _ _ _ _ _ _ q) (fun cdv A outer s H vs Q E p hr h => ?_), hm, hk, hb⟩⟩
  obtain ⟨F, S, ds, M, Qd, C, d, ns, es, c, r, xr, hz, hf, q, post⟩ := h
  obtain ⟨a, oe⟩ := p
  obtain ⟨t, ht, hq⟩ := @hbody ⟨F, S⟩ f cdv A outer s H E a C d ns es oe hr xr hz hf
  exact ⟨_, ht, F, S, startD N ds, M, _, @rel_start ⟨F, S⟩ _ _ _ _ _ _ _ _ c r ghSelf, hq ds M Qd q, postR post⟩
/-! ### what such a body may ask -/
section
variable [Gh] {X : Cx} {a C : Addr} {oe : Obj} {d : Option Addr} {ns : List Str} {es : List D}
theorem call_isZ (hp : (a, oe) ∈ X.pn) (hz : Zc (.ref C) d oe) (hf : ∃ vs, oe.data = .fields vs) : CallR X (.builtin "isinstance") (rIsX X.K C a d) := by
  intro pins s σ H xs us Q I r h
  obtain ⟨c, cv, b, rfl, hcv, T, e, hd, q⟩ := h
  cases r with
  | cons rx rr =>
    cases rr with
    | cons rt rr =>
      cases rr
      cases rx
      obtain rfl := hcv _ rt
      obtain ⟨here, _⟩ := I.pin (a, oe) (List.mem_append_left _ hp)
      obtain ⟨vs, hv⟩ := hf
      have J : ∃ od, PySem.W.InstAt s.heap a oe C od := by
        obtain ⟨oc, oo, oda, osl⟩ := oe
        obtain ⟨z1, z2⟩ := hz
        dsimp only at z1 z2 hv
        subst z1 z2 hv
        rcases hd with rfl | ⟨dd, fs, rfl, hdd⟩
        · exact ⟨none, here, rfl, rfl, trivial⟩
        · obtain ⟨mA, ⟨o, _, _, ho, _⟩, _⟩ := (show ObjOk X.prog X.w H s.heap dd (.xd fs) from I.hok dd _ hdd)
          exact ⟨some o, here, rfl, rfl, ho⟩
      obtain ⟨od, J⟩ := J
      exact PySem.W.kia_one (PySem.W.kitx_exc T.cl T.ga T.gt T.sb T.at_ T.sp T.tk T.mo) I.kIn J e (fun z => nomatch z) fun tk => ⟨.bl b, H, I.kept (t' := tk) fun _ _ z => z, rfl, q⟩
theorem cd_isZ (hp : (a, oe) ∈ X.pn) (xr : XRep X.K Gh.s d ns es) (hz : Zc (.ref C) d oe) (hf : ∃ vs, oe.data = .fields vs) : CallD X (.builtin "isinstance") (rdIsX X.K a C) := by
  refine ⟨⟨_, call_isZ hp hz hf, fun F S σ H env M xs ds Qd Q R r q post => ?_⟩⟩
  obtain ⟨c, b, rfl, T, hc, q⟩ := q
  obtain ⟨v, u, rfl, r1, r2⟩ := r.two
  cases r1
  have hd : d = none ∨ ∃ dd fs, d = some dd ∧ H dd = some (.xd fs) := by
    rcases xr with ⟨_, _, h⟩ | ⟨dd, xs, h1, h2, _⟩
    · exact .inl h
    · exact .inr ⟨dd, _, h1, R.c.same _ _ (R.g.s _ _ h2)⟩
  have fin := post (.bl b) H S env M (.bl b) (Same.refl _) R rfl q
  rcases hc with ⟨D, rfl, e⟩ | ⟨n, rfl, e⟩
  · cases r2
    exact ⟨.ref D, .ref D, b, rfl, fun u h => h, T, e, hd, fin⟩
  · cases r2
    exact ⟨.ty n, .type n, b, rfl, fun u h => h, T, e, hd, fin⟩
end
theorem pe_xz {X : Cx} {a C : Addr} {oe : Obj} {cls : Value} {d : Option Addr} {e : Expr} {te : TE} {pos : Pos} {n : Str} (hp : (a, oe) ∈ X.pn) (T : XfC X.K C) (hno : PySem.W.findIn X.K (.ref C) n = some none)
    (hz : Zc cls d oe) (hf : ∃ vs, oe.data = .fields vs) (he : PE X e te) (hb : attributeBase e n X.env (eval e X.env) = eval e X.env := by rfl) : PE X (.Attribute e n pos) (tXf a cls d C n te) := by
  refine ⟨fun pins s σ H Q I h => ?_⟩
  refine attr_of hb (thn (he.run pins s σ H _ I h) fun u s1 hh => ?_)
  obtain ⟨x, H1, J, rx, rfl, rfl, dd, fs, v, rfl, ea, l, q⟩ := hh
  obtain rfl : u = Value.ref a := rx
  obtain ⟨here, _⟩ := J.pin (a, oe) (List.mem_append_left _ hp)
  obtain ⟨vs, hd⟩ := hf
  obtain ⟨mA, hns, hr⟩ := (show ObjOk X.prog X.w H1 s1.heap dd (.xd fs) from J.hok dd _ ea)
  obtain ⟨od, ho, hl⟩ := lookIn_ns hns
  obtain ⟨u, hu, ru⟩ := RelO.some_of (v := v) (o := mA n) (by rw [← l]; exact hr n)
  have at_a : PySem.W.InstAt s1.heap a oe C (some od) := ⟨here, hz.1, by unfold PySem.W.notCls; rw [hd] <;> rfl, by rw [hz.2]; exact ho⟩
  exact HandSPX.exc_get J.kIn at_a T.ga T.gg T.exC (PySem.W.findObj_own T.hdC hno rfl (by rw [hl, hu])) (handed_of ru) ⟨v, H1, J.tok _, ru, q⟩
section
variable [Gh] {X : Cx} {a C : Addr} {oe : Obj} {d : Option Addr} {e : Expr} {te : DT} {pos : Pos} {f : Str} {ns : List Str} {es : List D}
theorem d_xz (hp : (a, oe) ∈ X.pn) (xr : XRep X.K Gh.s d ns es) (hz : Zc (.ref C) d oe) (hf : ∃ vs, oe.data = .fields vs) (he : DE X e te) (hb : attributeBase e f X.env (eval e X.env) = eval e X.env := by rfl) :
    DE X (.Attribute e f pos) (dXf X.K a C ns es f te) := by
  refine ⟨fun pins s σ H Q I h => ?_⟩
  obtain ⟨F, S, env, M, Qd, R, ⟨ok, t⟩, p⟩ := h
  refine (pe_xz hp ok.c ok.no hz hf he hb).run pins s σ H Q I ⟨F, S, env, M, _, R, t, fun v H' S' env' M' d' s' R' r q => ?_⟩
  obtain ⟨rfl, q⟩ := q
  cases r
  refine ⟨rfl, rfl, ?_⟩
  cases hg : fget f ns es with
  | none => simp only [hg] at q
  | some y =>
    simp only [hg] at q
    rcases xr.mono R'.g.s with ⟨rfl, _, _⟩ | ⟨dd, xs, rfl, e1, l, rs⟩
    · cases hg
    · obtain ⟨u, e2, r2⟩ := reps_fget rs hg
      exact ⟨dd, _, u, rfl, R'.c.same _ _ e1, e2, p u H' S' env' M' y s' R' r2 q⟩
end
/-! ### its call -/
@[reducible] def dCallZ (sp : ZSp) (a C : Addr) (ns : List Str) (es : List D) (t : DTA) : DT := fun env M Q => t env M fun ds env1 M1 => sp a C ns es ds M1 (fun d M2 => Q d env1 M2) KX0
section
variable {X : Cx} {k : Nat} {f : Addr} {fd : FuncData} {ps : List Str} {sp : Addr × Obj → Sp} {x : Str} {q pos : Pos} {e : Expr} {es : List Expr} {t : TA}
theorem pe_callZ {p : Addr × Obj} (G : FnZ X.prog X.w X.K X.mg X.base k f fd ps sp) (hp : p ∈ X.pn) (hr : RoomH k X.A) (hg : Gl X x) (hm : X.mg x = some (.ref f)) (hk : PySem.W.keepIn X.K (.ref f) = true) (hb : Binds X.K fd ps [])
    (ha : L2.PA X (e :: es) t) (hdb : (x == ("__debug__" : Str)) = false := by decide) (he : starEach (e :: es) X.env = (false, eval e X.env) :: starEach es X.env := by rfl) (hpl : (backTo pos (starEach es X.env)).any (·.1) = false := by rfl) :
    PE X (.Call (.Name x q) (e :: es) [] pos) (fun σ H Q => t σ H fun vs H1 => sp p vs H1 Q (fun _ _ _ => False)) := by
  refine ⟨fun pins s σ H Q I h => ?_⟩
  refine wpAny_Call_Name_kw (ld_glob I hg hm ?_ hdb)
  refine PySem.W.callWith_K (h₀ := X.base) I.ok.mod.kin hk (thn (ha.run pos pins s σ H _ I h) fun us s1 ⟨vs, H1, J, r, q⟩ => ⟨J.kIn, ?_⟩) he hpl
  have hl : us.length = ps.length := by rw [← r.length]; exact G.len _ _ _ _ _ q
  have b := hb s1 us J.kIn (by rw [List.append_nil]; exact hl)
  rw [List.append_nil] at b
  obtain ⟨g1, g2, g3, g4, g5⟩ := J.pin p (List.mem_append_left _ hp)
  have pin : PinOk X.stack H1 s1 p := ⟨g1, g2, fun hm => (List.mem_cons.mp (J.stkSub p.1 hm)).elim g3 g4, g5⟩
  refine wpAny_call (codeAny_mono (G.run X.A X.stack s1 H1 ⟨us, []⟩ us vs Q (fun _ _ _ => False) p hr pin J.env0 b r q) fun r s' hq => ?_)
  match r, hq with
  | .error e, hq => exact hq.elim
  | .ok (.ret u), hq => exact J.after hq
end
theorem d_callZ [Gh] {X : Cx} {k : Nat} {ps : List Str} {sp : ZSp} {x : Str} {q pos : Pos} {e : Expr} {es : List Expr} {t : DTA} {a C : Addr} {d : Option Addr} {ns : List Str} {fs : List D} {oe : Obj} (hp : (a, oe) ∈ X.pn) (xr : XRep X.K Gh.s d ns fs) (hz : Zc (.ref C) d oe) (hf : ∃ vs, oe.data = .fields vs)
    (h : FnZd X.prog X.w X.K X.mg X.base k x ps sp) (hr : RoomH k X.A) (ha : DA X (e :: es) t) (hg : Gl X x := by rfl) (hdb : (x == ("__debug__" : Str)) = false := by decide) (he : starEach (e :: es) X.env = (false, eval e X.env) :: starEach es X.env := by rfl) (hpl : (backTo pos (starEach es X.env)).any (·.1) = false := by rfl) :
    DE X (.Call (.Name x q) (e :: es) [] pos) (dCallZ sp a C ns fs t) := by
  obtain ⟨f, fd, G, hm, hk, hb⟩ := h.ex
  refine pe_imp (pe_callZ G hp hr hg hm hk hb ha hdb he hpl) fun σ H Q ⟨F, S, env, M, Qd, R, t, p⟩ => ⟨F, S, env, M, _, R, t, fun vs H' S' env' M' ds s' R' r q => ?_⟩
  exact ⟨frOwn F env' σ H', S', ds, M', _, C, d, ns, fs, R'.toC, r, xr.mono R'.g.s, hz, hf, q, fun v H2 S2 M2 d2 s2 c2 r2 q2 => p v H2 S2 env' M2 d2 (s'.trans s2) (R'.back c2 s2) r2 q2⟩
theorem roomZ {k : Nat} {A : Around} {v : Option Value} (r : Room k A) : RoomH k (A.mark v) := ⟨r.dp, r.un⟩
theorem od_eqZ [Gh] {X : Cx} {k : Nat} (hr : RoomH k X.A) : OpD X (compareOp .Eq) rdEq :=
  ⟨⟨_, op_eqD (by have := hr.un; omega), fun F S σ H env M x y d e Qd Q R r1 r2 ⟨h1, h2, q⟩ p =>
    ⟨pd d, pd e, Dp.mono R.c.same (r1.dp h1.1), Dp.mono R.c.same (r2.dp h2.1), h1.shaped, h2.shaped, p _ H S env M (.bl _) (Same.refl _) R rfl q⟩⟩⟩
end DL
set_option Elab.async false
set_option linter.all false
set_option maxRecDepth 100000
set_option maxHeartbeats 1000000
/-! DL221: k01: the errors of the package, their fields. -/
namespace DL
open PySem PySem.Spec PyProof.Rows L2 L2H
/-- where the six classes stand, in the order of the numbers -/
structure EC where
  t : Addr
  n : Addr
  m : Addr
  k : Addr
  l : Addr
  b : Addr
def EC.at (c : EC) : Nat → Addr
  | 0 => c.t
  | 1 => c.n
  | 2 => c.m
  | 3 => c.k
  | 4 => c.l
  | _ => c.b
/-- the names of the fields, the last one first -/
def errN : Nat → List Str
  | 0 => ["place", "line"]
  | 1 => ["name"]
  | 2 => ["what"]
  | 3 => ["guard"]
  | _ => []
def errV (k : Nat) (x y : D) : List D := match k with
  | 0 => [y, x]
  | 1 => [x]
  | 2 => [x]
  | 3 => [x]
  | _ => []
def errF (k : Nat) (x y : D) : List D := match k with
  | 0 => [x, y]
  | 1 => [x]
  | 2 => [x]
  | 3 => [x]
  | _ => []
def kindL (k : Nat) : List D := (List.range 6).map fun j => D.bl (decide (j = k))
/-- what the kept part tells of the classes -/
structure ECOk (K : PySem.W.Frag) (c : EC) (AW : Addr) : Prop where
  xi : ∀ k, k < 6 → XiC K (c.at k)
  kit : ∀ k j, k < 6 → j < 6 → PySem.W.kitOne K (.ref (c.at k)) (.ref (c.at j)) = some (decide (j = k))
  ve : ∀ k, k < 6 → PySem.W.kitOne K (.ref (c.at k)) (.type "ValueError") = some true
  ex : ∀ k, k < 6 → PySem.W.exmOne K (.ref (c.at k)) (.ref AW) = some true
  f0 : XfOk K c.t "line"
  f0p : XfOk K c.t "place"
  f1 : XfOk K c.n "name"
  f2 : XfOk K c.m "what"
  f3 : XfOk K c.k "guard"
def spLRaise (c : EC) : DSp := fun ds M _ E => ∃ (k : Nat) (x y : D), ds = [.int (k : Nat), x, y] ∧ k < 6 ∧ E (c.at k) (errN k) (errV k x y) M
def spLNamed (c : EC) : DSp := fun ds M Q _ => ∃ (k : Nat) (x y : D), ds = [.int (k : Nat), x, y] ∧ k < 6 ∧ ∀ p, M p = none → Q (.ref p) (mset M p (.exc (c.at k) (errN k) (errV k x y)))
def spKindsZ (c : EC) : ZSp := fun a C _ _ ds M Q _ => ∃ k : Nat, ds = [.ref a] ∧ k < 6 ∧ C = c.at k ∧ Q (.lst (kindL k)) M
def spFieldsZ (c : EC) : ZSp := fun a C ns es ds M Q _ => ∃ (k : Nat) (x y : D), ds = [.int (k : Nat), .ref a] ∧ k < 6 ∧ C = c.at k ∧ ns = errN k ∧ es = errV k x y ∧ Q (.lst (errF k x y)) M
def spFieldsV (c : EC) : DSp := fun ds M Q _ => ∃ (k : Nat) (x y : D) (p : Addr), ds = [.int (k : Nat), .ref p] ∧ k < 6 ∧ M p = some (.exc (c.at k) (errN k) (errV k x y)) ∧ Q (.lst (errF k x y)) M
def spCaught : DSp := fun ds M Q _ => ∃ (k : Nat) (x y : D), ds = [.int (k : Nat), x, y] ∧ k < 6 ∧ Q (.lst [.lst (kindL k), .lst (errF k x y), .bl true]) M
theorem six {k : Nat} (h : k < 6) : k = 0 ∨ k = 1 ∨ k = 2 ∨ k = 3 ∨ k = 4 ∨ k = 5 := by omega
theorem fget_hd {f : Str} {ns : List Str} {d : D} {ds : List D} : fget f (f :: ns) (d :: ds) = some d := by
  unfold fget
  rw [List.zip_cons_cons, List.lookup_cons_self]
theorem fget_tl {f g : Str} {ns : List Str} {d : D} {ds : List D} (h : (f == g) = false) : fget f (g :: ns) (d :: ds) = fget f ns ds := by
  unfold fget
  rw [List.zip_cons_cons, List.lookup_cons, h]
theorem fgP {x y : D} : fget "place" (errN 0) (errV 0 x y) = some y := fget_hd
theorem fgL {x y : D} : fget "line" (errN 0) (errV 0 x y) = some x := (fget_tl (by decide +kernel)).trans fget_hd
/-- where a class's name leads -/
structure GmA (mg : Str → Option Value) (x : Str) (A : Addr) : Prop where
  gm : mg x = some (.ref A)
/-! ### the law's values -/
def plD (d : D) : Prop := isData d = true ∧ depD d ≤ 8
theorem plD_int (i : Int) : plD (.int i) := ⟨rfl, Nat.zero_le _⟩
theorem okEq_errF {k : Nat} {x y : D} (hk : k < 6) (hx : plD x) (hy : plD y) : okEq (.lst (errF k x y)) := by
  obtain ⟨x1, x2⟩ := hx
  obtain ⟨y1, y2⟩ := hy
  rcases six hk with rfl | rfl | rfl | rfl | rfl | rfl
  all_goals
    constructor
    · simp only [errF, isData, areData, x1, y1, Bool.and_self]
    · simp only [errF, depD, depDs]
      omega
theorem okEq_caught {k : Nat} {x y : D} (hk : k < 6) (hx : plD x) (hy : plD y) : okEq (.lst [.lst (kindL k), .lst (errF k x y), .bl true]) := by
  obtain ⟨f1, f2⟩ := okEq_errF hk hx hy
  simp only [isData] at f1
  simp only [depD] at f2
  have g1 : areData (kindL k) = true ∧ depDs (kindL k) ≤ 1 := by
    rcases six hk with rfl | rfl | rfl | rfl | rfl | rfl <;> exact ⟨by decide +kernel, by decide +kernel⟩
  constructor
  · simp only [isData, areData, f1, g1.1, Bool.and_self]
  · have f3 : depDs (errF k x y) ≤ 8 := by
      obtain ⟨x1, x2⟩ := hx
      obtain ⟨y1, y2⟩ := hy
      rcases six hk with rfl | rfl | rfl | rfl | rfl | rfl <;> (simp only [errF, depDs]; omega)
    have := g1.2
    simp only [depD, depDs]
    omega
theorem deq_same {d : D} (h : okEq d) : deq d d = true := PySem.SeqAt.eqv_refl _ (pd_lay h.1)
theorem grow_a {a d j : Nat} (h1 : a < 2 ^ (20 * j)) (h3 : d < 1000003) : a * 1000003 + d < 2 ^ (20 * (j + 1)) := by
  have e : (2 : Nat) ^ (20 * (j + 1)) = 2 ^ (20 * j) * 1048576 := by rw [Nat.mul_add, Nat.pow_add]
  rw [e]
  omega
theorem small_a {a j : Nat} (hj : j ≤ 7) (h1 : a < 2 ^ (20 * j)) : ((a : Nat) : Int).natAbs < 2 ^ 200 := by
  have h2 : (2 : Nat) ^ (20 * j) ≤ 2 ^ 140 := Nat.pow_le_pow_right (by decide) (by omega)
  have h3 : (2 : Nat) ^ 140 < 2 ^ 200 := by decide
  rw [Int.natAbs_natCast]
  omega
end DL
set_option Elab.async false
set_option linter.all false
set_option maxRecDepth 100000
set_option maxHeartbeats 1000000
/-! DL222: what a head tells of error classes whose fields are told by names. -/
namespace DL
open PySem PySem.Spec PyProof.Rows L2 He
theorem ExCl0.ofK {P : Program} {w : World} {K : PySem.W.Frag} {mg : Str → Option Value} {base : Heap} {k : Nat} {x nm qual : Str} {C f : Addr} {ps : List Str} {st : Stmt} (D : SupXAt P K C nm qual ps st f) (hm : mg x = some (.ref C)) (hi : PySem.W.findIn K (.ref C) "__init__" = some (some (.ref f))) (ht : PySem.W.typeIn K (.ref f) = some (.type "function"))
    (h : ∃ fd, FnOk P w K mg base CX0 k f fd ps (spX0 C) ∧ Binds K fd ps []) {j : Nat} (l : k ≤ j) : ExCl0 P w K mg base j x C := by
  obtain ⟨cc, cda, fd, G, Sk, hb⟩ := D.ex
  obtain ⟨fd, F, hb⟩ := h
  exact ⟨Sk.oex, hm, f, fd, ps, hi, ht, F.mono l, hb⟩
/-- an exception's __init__ as it stands behind the top; R tells how it is called -/
structure SupXAtQ (P : Program) (K : PySem.W.Frag) (C : Addr) (nm qual : Str) (ps : List Str) (st : Stmt) (f : Addr) (R : FuncData → Prop) : Prop where
  ex : ∃ cc cda fd, SupD K nm qual (defArgs st) (defBody st) (defScope st) cc cda f fd ∧ SupXK P K cc cda C ∧ Binds K fd ps [] ∧ R fd
theorem SupXAtQ.of {P : Program} {K : PySem.W.Frag} {d : DefD} {ps ks fl : List Str} {p : List Nat} {st : Stmt} (X : ExFac P K (ga K d.at_.1) d.name d.qual ps st (fAd K d.at_) fl) (e : fnY K d.at_ = valY d) (c : exB P.main.file K d fl = true)
    (h1 : d.params = defArgs st) (h2 : d.body = defBody st) (h3 : d.scope = defScope st)
    (hk : ∀ (kV doc pm : Value) (an : Option Addr) (cdv ct : Value) (cl : List (Str × Addr)) (us ws : List Value), us.length = 1 → ws.length = ks.length → bindArgs (PySem.W.fnX d.name d.qual d.params d.body d.scope cl .none kV doc pm an cdv ct) ⟨us, ks.zip ws⟩ = pure (ps.zip (us ++ pk p ws))) :
    SupXAtQ P K (ga K d.at_.1) d.name d.qual ps st (fAd K d.at_) (fun fd => KwB K fd ps 1 ks p []) := by
  obtain ⟨cc, cda, fd, G, Sk, hb⟩ := X.at_.ex
  refine ⟨cc, cda, fd, G, Sk, hb, ?_⟩
  obtain ⟨oc, od, dV, kV, doc, pm, an, ct, osl, rfl, lk⟩ := G.ex
  have c1 := (ba c).1
  unfold supB at c1
  rw [lk] at c1
  have dn : dV = .none := by
    cases dV with
    | none => rfl
    | _ => cases c1
  subst dn
  refine ⟨[], [], ⟨fun s us ws Y l1 l2 => ?_, fun r1 r2 => r1.append (pk_rel (r2.append .nil) p)⟩, fun _ => trivial⟩
  rw [List.append_nil]
  have := hk kV doc pm an (.ref cda) ct [(("__class__" : Str), cc)] us ws l1 l2
  rw [h1, h2, h3] at this
  exact .of_eq this
theorem ExClQ.of {P : Program} {w : World} {K : PySem.W.Frag} {mg : Str → Option Value} {base : Heap} {k : Nat} {x nm qual : Str} {C f : Addr} {ps ns ks : List Str} {p : List Nat} {st : Stmt} (D : SupXAtQ P K C nm qual ps st f (fun fd => KwB K fd ps 1 ks p [])) (hm : mg x = some (.ref C)) (hi : PySem.W.findIn K (.ref C) "__init__" = some (some (.ref f))) (ht : PySem.W.typeIn K (.ref f) = some (.type "function"))
    (h : ∀ {cc cda : Addr} {fd : FuncData}, SupD K nm qual (defArgs st) (defBody st) (defScope st) cc cda f fd → SupXK P K cc cda C → FnOk P w K mg base CX0 k f fd ps (spXI C ns)) {j : Nat} (l : k ≤ j) : ExClQ P w K mg base j x C ns ks p := by
  obtain ⟨cc, cda, fd, G, Sk, hb, hR⟩ := D.ex
  exact ⟨Sk.oex, hm, f, fd, ps, hi, ht, (h G Sk).mono l, hR⟩
/-- the six classes -/
def ecK (K : PySem.W.Frag) : EC := ⟨ga K "BadText", ga K "BadName", ga K "TooMany", ga K "NotKept", ga K "NothingLeft", ga K "Busy"⟩
theorem ecAt_eq (K : PySem.W.Frag) : ∀ k, (ecK K).at k = ecAt K k
  | 0 => rfl
  | 1 => rfl
  | 2 => rfl
  | 3 => rfl
  | 4 => rfl
  | _ + 5 => rfl
theorem ecB_ok {K : PySem.W.Frag} (h : ecB K = true) : (∀ k j, k < 6 → j < 6 → PySem.W.kitOne K (.ref ((ecK K).at k)) (.ref ((ecK K).at j)) = some (decide (j = k))) ∧ (∀ k, k < 6 → PySem.W.kitOne K (.ref ((ecK K).at k)) (.type "ValueError") = some true) ∧ ∀ k, k < 6 → PySem.W.exmOne K (.ref ((ecK K).at k)) (.ref (ga K "WayError")) = some true := by
  have g := fun k (hk : k < 6) => ba (List.all_eq_true.mp h k (List.mem_range.mpr hk))
  refine ⟨fun k j hk hj => ?_, fun k hk => ?_, fun k hk => ?_⟩
  · rw [ecAt_eq, ecAt_eq]
    exact of_decide_eq_true (List.all_eq_true.mp (g k hk).1 j (List.mem_range.mpr hj))
  · rw [ecAt_eq]
    exact of_decide_eq_true (ba (g k hk).2).1
  · rw [ecAt_eq]
    exact of_decide_eq_true (ba (g k hk).2).2
end DL

set_option Elab.async false
set_option linter.all false
set_option maxRecDepth 100000
set_option maxHeartbeats 4000000
namespace K01
open PySem PySem.Spec PyProof.Rows L2 DL

local macro_rules | `(tactic| walk_at "dl") => `(tactic| with_reducible conv => whnf)
local macro_rules | `(tactic| walk_at "pen") => `(tactic| (walk_at "dl"; repeat (first | rw [mset_same] | rw [pen_cells] | rw [pen_at] | rw [pen_left] | rw [penN_at, penD_at] | rw [penN_left, penD_left]); walk_at "dl"))
local macro_rules | `(tactic| walk_at "c") => `(tactic| (refine And.intro (by first | decide | assumption | omega | rfl | (show 1 ≤ sizeLine; decide) | (show 2 ≤ sizeLine; decide) | (show 3 ≤ sizeLine; decide) | (show 4 ≤ sizeLine; decide) | (show 5 ≤ sizeLine; decide) | (show 6 ≤ sizeLine; decide) | (show 7 ≤ sizeLine; decide)) ?_; walk_at "dl"))
local macro_rules | `(tactic| walk_at "q") => `(tactic| (refine And.intro (by first | assumption | exact okEq_flat rfl | exact okEq_flat (by decide +kernel) | exact okEq_word _) (And.intro (by first | assumption | exact okEq_flat rfl | exact okEq_flat (by decide +kernel) | exact okEq_word _) ?_); walk_at "dl"; try (first | rw [deq_int] | rw [deq_NI] | rw [deq_IN] | rw [deq_NN] | (rw [deq_str, lit_beq]; conv in (_ == _) => simp only [String.reduceBEq]) | rw [deq_str] | (conv in deq _ _ => simp only [String.reduceBEq, deq_bf, deq_bt])); walk_at "dl"))
local macro_rules | `(tactic| walk_at "in") => `(tactic| (refine And.intro rfl (And.intro rfl ?_); walk_at "dl"; (conv in inF _ _ => simp only [inF_cons, inF_nil, eqF_lit, String.reduceBEq, Bool.or_false, Bool.or_true, Bool.false_or, Bool.true_or]); walk_at "dl"))
local macro_rules | `(tactic| walk_at "sf") => `(tactic| (refine Exists.intro (ShF.mk _ _ _ _ _ _) (And.intro (Or.inl (And.intro rfl (ShAt.ha (by assumption)))) ?_); walk_at "dl"))
local macro_rules | `(tactic| walk_at "ww") => `(tactic| (refine Exists.intro _ (And.intro rfl ?_); walk_at "dl"))
local macro_rules | `(tactic| walk_at "wa") => `(tactic| (refine Exists.intro _ (And.intro rfl ?_); walk_at "a"))
local macro_rules | `(tactic| walk_at "ev") => `(tactic| (conv in (occs := 1) wipeD _ _ => simp only [wipeD, unw, put, look, ownIx, List.map]))
local macro_rules | `(tactic| walk_at "no") => `(tactic| (refine And.intro (by simp only [List.all_cons, List.all_nil, Bool.and_true, Bool.and_self, ownIx, List.map, look, put, unw]; first | done | rfl | assumption | simp only [*, Bool.and_self, Bool.and_true, notOwn] | (simp only [*, Bool.and_self, Bool.and_true, notOwn]; rfl)) ?_; walk_at "ev"))
local macro_rules | `(tactic| walk_at "a") => `(tactic| (walk_at "dl"; repeat (first | walk_at "in" | walk_at "q" | walk_at "c")))
local macro_rules | `(tactic| walk_at "ai") => `(tactic| (walk_at "a"; repeat ((first | rw [atI_zero] | rw [atI_one] | rw [atI_two]); walk_at "a")))
local macro_rules | `(tactic| walk_at "b") => `(tactic| (walk_at "dl"; repeat (first | ((with_reducible show _ ∧ _); first | walk_at "in" | walk_at "q" | walk_at "c") | (rw [Bool.not_true]; walk_at "dl") | (rw [Bool.not_false]; walk_at "dl"))))
local macro_rules | `(tactic| walk_at "g") => `(tactic| (walk_at "b"; repeat ((first | rw [gb0] | rw [gu1] | rw [gm2] | rw [gm3]); walk_at "b")))
local macro_rules | `(tactic| walk_at "h") => `(tactic| (walk_at "g"; repeat ((first | rw [gl1]); walk_at "g")))

section
variable {P : Program} {w : World} {K : PySem.W.Frag} {mg : Str → Option Value} {base : Heap}

theorem sc_s__law_pen : FnScope N_s__law_pen ["_law_script"] (defScope s__law_pen) := ⟨rfl, rfl, rfl, by decide +kernel, rfl, by decide +kernel, by decide +kernel⟩
theorem ok_pen (T : TxtP mg) (Df : DefAt K mg "_law_pen" ["_law_script"] s__law_pen) : Fn P w K mg base 1 "_law_pen" ["_law_script"] spPen := by
  refine okF Df sc_s__law_pen (fun ds M Q E h => ?_) fun f cdv A outer s H E hr => ⟨_, (ss_one (s_ret (d_pen (d_callTy cd_list rfl T.z_list (by decide +kernel) (a_cons (d_slice (d_var 0) o_none (o_some d_int)) a_nil)) d_int d_int))), fun ds M Q Ed h => ?_⟩
  · obtain ⟨ns, rfl, _⟩ := h
    rfl
  · obtain ⟨ns, rfl, h1, k⟩ := h
    have e : startD N_s__law_pen [.lstK (ns.map D.int)] = [.val (.lstK (ns.map D.int))] := rfl
    rw [e]
    walk_at "dl"
    intro p hp
    walk_at "dl"
    refine k p _ hp ⟨(ns.take 63), 0, 0, ?_, by rw [List.length_take]; omega, by decide, by decide⟩
    have e1 : HT.sIx (ns.map D.int).length 0 Option.none = 0 := rfl
    have e2 : HT.sIx (ns.map D.int).length (ns.map D.int).length (some 63) = min 63 (ns.map D.int).length := HT.sIx_nat _ _ 63
    rw [e1, e2, List.drop_zero, Nat.sub_zero, List.length_map]
    show MO.dK penK _ = MO.dK penK _
    rw [List.map_take]
    rcases Nat.le_total 63 ns.length with g | g
    · rw [Nat.min_eq_left g]
    · rw [Nat.min_eq_right g, List.take_of_length_le (by rw [List.length_map]; omega), List.take_of_length_le (by rw [List.length_map]; omega)]


theorem sc_s__law_draw : FnScope N_s__law_draw ["_law_pen_here", "_law_many"] (defScope s__law_draw) := ⟨rfl, rfl, rfl, by decide +kernel, rfl, by decide +kernel, by decide +kernel⟩
local macro_rules | `(tactic| walk_at "tail") => `(tactic| (walk_at "c"; refine ⟨mulW (by omega) (by decide), ?_⟩; walk_at "dl"; refine ⟨mulW (by decide) (by omega), ?_⟩; walk_at "dl"; refine ⟨mulW (by omega) (by omega), ?_⟩; walk_at "dl"; refine ⟨mulW (by decide) (by omega), ?_⟩; walk_at "dl"; walk_at "c"; refine ⟨mulW (by omega) (by omega), ?_⟩; walk_at "dl"; walk_at "c"; refine ⟨mulW (by omega) (by omega), ?_⟩; walk_at "dl"; walk_at "c"; refine ⟨wide_div (b := 64) (by decide) (by decide) (by decide) (by decide), ?_⟩; walk_at "dl"; refine ⟨by assumption, ?_⟩; walk_at "dl"))
theorem ok_draw (T : TxtP mg) (Df : DefAt K mg "_law_draw" ["_law_pen_here", "_law_many"] s__law_draw) : Fn P w K mg base 1 "_law_draw" ["_law_pen_here", "_law_many"] spDraw := by
  refine okF Df sc_s__law_draw (fun ds M Q E h => ?_) fun f cdv A outer s H E hr => ⟨_, (ss_cons (s_if (d_tcmp od_ge (d_dget (hu_of hr) (d_var 0) d_str) (d_var 1) (nomark _))
    (ss_cons (s_set (i := 2) sc_s__law_draw.nd (d_op od_mod (d_callTy cd_int rfl T.z_int (by decide +kernel) (a_cons (d_dget (hu_of hr) (d_var 0) d_str) a_nil)) (d_var 1)))
    (ss_cons (s_dput (hu_of hr) (d_var 0) d_str (d_op od_fdiv (d_dget (hu_of hr) (d_var 0) d_str) (d_var 1)))
    (ss_one (s_ret (d_var 2)))))
    ss_nil)
    (ss_cons (s_set (i := 3) sc_s__law_draw.nd (d_dget (hu_of hr) (d_var 0) d_str))
    (ss_cons (s_dput (hu_of hr) (d_var 0) d_str (d_op od_add (d_var 3) d_int))
    (ss_cons (s_set (i := 4) sc_s__law_draw.nd (d_op od_add (d_op od_mul d_int (d_var 3)) d_int))
    (ss_cons (s_if (d_tcmp (od_ne hr) (d_dget (hu_of hr) (d_var 0) d_str) (d_lst a_nil) (nomark _))
    (ss_one (s_set (i := 4) sc_s__law_draw.nd (d_ix (d_dget (hu_of hr) (d_var 0) d_str) (d_op od_mod (d_callTy cd_int rfl T.z_int (by decide +kernel) (a_cons (d_var 3) a_nil)) (d_callB cd_len rfl T.z_len PySem.boot_len (a_cons (d_dget (hu_of hr) (d_var 0) d_str) a_nil))))))
    ss_nil)
    (ss_cons (s_if (d_wt (w_and (d_tcmp od_lt (d_var 3) (d_callB cd_len rfl T.z_len PySem.boot_len (a_cons (d_dget (hu_of hr) (d_var 0) d_str) a_nil)) (nomark _)) (w_and1 (d_tcmp od_ge (d_var 4) (d_op od_pow d_int d_int) (nomark _)))))
    (ss_cons (s_dput (hu_of hr) (d_var 0) d_str (d_op od_fdiv (d_op od_sub (d_var 4) (d_op od_pow d_int d_int)) (d_var 1)))
    (ss_one (s_ret (d_op od_mod (d_callTy cd_int rfl T.z_int (by decide +kernel) (a_cons (d_op od_sub (d_var 4) (d_op od_pow d_int d_int)) a_nil)) (d_var 1)))))
    ss_nil)
    (ss_cons (s_set (i := 5) sc_s__law_draw.nd (d_op od_add (d_op od_add (d_op od_add (d_op od_mul (d_op od_mod (d_callTy cd_int rfl T.z_int (by decide +kernel) (a_cons (d_var 4) a_nil)) d_int) d_int) (d_op od_mul (d_op od_mul d_int (d_var 3)) (d_var 3))) (d_op od_mul d_int (d_var 3))) d_int))
    (ss_cons (s_set (i := 5) sc_s__law_draw.nd (d_op od_mod (d_callTy cd_int rfl T.z_int (by decide +kernel) (a_cons (d_var 5) a_nil)) d_int))
    (ss_cons (s_set (i := 5) sc_s__law_draw.nd (d_op od_mod (d_callTy cd_int rfl T.z_int (by decide +kernel) (a_cons (d_op od_mul (d_var 5) (d_op od_add (d_var 5) d_int)) a_nil)) d_int))
    (ss_one (s_ret (d_op od_mod (d_callTy cd_int rfl T.z_int (by decide +kernel) (a_cons (d_op od_fdiv (d_op od_mod (d_callTy cd_int rfl T.z_int (by decide +kernel) (a_cons (d_op od_mul (d_var 5) (d_var 5)) a_nil)) d_int) d_int) a_nil)) (d_var 1))))))))))))), fun ds M Q Ed h => ?_⟩
  · obtain ⟨p, m, n, o, rfl, _⟩ := h
    rfl
  · obtain ⟨p, m, n, o, rfl, h1, h2, h3, h4, ⟨c, a, l, rfl, h5, h6, h7⟩, k⟩ := h
    have e : startD N_s__law_draw [.ref p, .int m] = [.val (.ref p), .val (.int m), Sl.no, Sl.no, Sl.no, Sl.no] := rfl
    rw [e]
    walk_at "dl"
    have hb : m.natAbs < 2 ^ 200 := by omega
    have fin : ∀ (x l' : Int), 0 ≤ a → ∀ a', 0 ≤ a' → a' ≤ n + 1 → Q (.int (x % m)) (mset M p (penMO c a' l')) := fun x l' _ a' h8 h9 => k _ _ (Int.emod_nonneg _ (by omega)) (Int.emod_lt_of_pos _ h1) ⟨c, a', _, rfl, h5, h8, h9⟩
    rw [h4]
    walk_at "pen"
    walk_at "pen"
    by_cases c1 : m ≤ l
    · rw [decide_eq_true c1]
      walk_at "dl"
      rw [h4]
      walk_at "pen"
      walk_at "c"
      rw [h4]
      walk_at "pen"
      refine ⟨wide_div h1 hb (by decide) (by decide), ?_⟩
      walk_at "dl"
      rw [h4]
      walk_at "dl"
      walk_at "c"
      walk_at "pen"
      exact fin _ _ h6 a h6 (by omega)
    · rw [decide_eq_false c1]
      walk_at "dl"
      rw [h4]
      walk_at "pen"
      rw [h4]
      walk_at "dl"
      walk_at "c"
      walk_at "pen"
      refine ⟨mulW (by decide) (by omega), ?_⟩
      walk_at "pen"
      walk_at "pen"
      walk_at "c"
      refine ⟨okEq_ints c, ?_⟩
      refine ⟨okEq_nil, ?_⟩
      walk_at "dl"
      rw [deq_nil]
      have e18 : (10 : Int) ^ Int.toNat 18 = 1000000000000000000 := by decide
      -- behind the cell: any number
      by_cases hc : c = []
      · have e0 : (c.map D.int).isEmpty = true := by rw [hc]; rfl
        rw [e0]
        walk_at "dl"
        walk_at "pen"
        walk_at "pen"
        have e1 : decide (a < ((c.map D.int).length : Int)) = false := decide_eq_false (by rw [hc]; show ¬ a < 0; omega)
        rw [e1]
        walk_at "dl"
        walk_at "tail"
        exact fin _ _ h6 _ (by omega) (by omega)
      · have e0 : (c.map D.int).isEmpty = false := by
          cases c with
          | nil => exact absurd rfl hc
          | cons _ _ => rfl
        rw [e0]
        have hn : 0 < ((c.map D.int).length : Int) := by
          cases c with
          | nil => exact absurd rfl hc
          | cons _ _ => rw [List.map_cons, List.length_cons]; omega
        walk_at "dl"
        walk_at "pen"
        walk_at "pen"
        refine ⟨hn, ?_⟩
        obtain ⟨x, hx⟩ := atI_ints (c := c) (i := a % ((c.map D.int).length : Int)) (Int.emod_nonneg _ (by omega)) (by
          have := Int.emod_lt_of_pos a hn
          rw [List.length_map] at this ⊢
          exact this)
        walk_at "dl"
        rw [hx]
        walk_at "dl"
        walk_at "pen"
        walk_at "pen"
        by_cases c2 : a < ((c.map D.int).length : Int)
        · rw [decide_eq_true c2]
          walk_at "dl"
          refine ⟨⟨by decide, by decide, by decide⟩, ?_⟩
          walk_at "dl"
          by_cases c3 : (10 : Int) ^ Int.toNat 18 ≤ x
          · rw [decide_eq_true c3]
            walk_at "dl"
            refine ⟨⟨by decide, by decide, by decide⟩, ?_⟩
            walk_at "dl"
            refine ⟨wide_div h1 hb (by decide) (by decide), ?_⟩
            walk_at "pen"
            walk_at "c"
            walk_at "pen"
            refine ⟨⟨by decide, by decide, by decide⟩, ?_⟩
            walk_at "dl"
            walk_at "c"
            rw [mset_mset]
            exact fin _ _ h6 _ (by omega) (by omega)
          · rw [decide_eq_false c3]
            walk_at "dl"
            walk_at "tail"
            exact fin _ _ h6 _ (by omega) (by omega)
        · rw [decide_eq_false c2]
          walk_at "dl"
          walk_at "tail"
          exact fin _ _ h6 _ (by omega) (by omega)
theorem sc_s__law_pick : FnScope N_s__law_pick ["_law_pen_here", "_law_items"] (defScope s__law_pick) := ⟨rfl, rfl, rfl, by decide +kernel, rfl, by decide +kernel, by decide +kernel⟩
theorem ok_pickM (T : TxtP mg) (h__law_draw : Fn P w K mg base 1 "_law_draw" ["_law_pen_here", "_law_many"] spDraw) (Df : DefAt K mg "_law_pick" ["_law_pen_here", "_law_items"] s__law_pick) : Fn P w K mg base 2 "_law_pick" ["_law_pen_here", "_law_items"] spPickM := by
  refine okF Df sc_s__law_pick (fun ds M Q E h => ?_) fun f cdv A outer s H E hr => ⟨_, (ss_one (s_ret (d_ixM (d_var 1) (d_callF h__law_draw (hr.mono (by first | decide | omega)) (a_cons (d_var 0) (a_cons (d_callB (cd_mem cd_len) rfl T.z_len (by decide +kernel) (a_cons (d_var 1) a_nil)) a_nil)))))), fun ds M Q Ed h => ?_⟩
  · obtain ⟨p, it, es, n, o, rfl, _⟩ := h
    rfl
  · obtain ⟨p, it, es, n, o, rfl, h1, h2, h3, h4, h5, h6, k⟩ := h
    have e : startD N_s__law_pick [.ref p, it] = [.val (.ref p), .val it] := rfl
    rw [e]
    have fin : ∀ (i : Int) (o' : MO), 0 ≤ i → i < es.length → PenO o' (n + 1) → ∃ r, atI es i = some r ∧ Q r (mset M p o') := fun i o' g1 g2 g3 => by
      obtain ⟨e1, r, er⟩ := atI_of g1 g2
      exact ⟨r, e1.trans er, k r o' (List.mem_of_getElem? er) g3⟩
    cases it with
    | str z =>
      have e1 : es = strD z := (Option.some.inj h1).symm
      have e2 : (es.length : Int) = z.length := by rw [e1]; unfold strD; rw [List.length_map, Array.length_toList]; rfl
      walk_at "dl"
      have hz : z.length ≤ sizeLine := by rw [sizeLine_eq]; omega
      refine ⟨hz, rfl, ?_⟩
      walk_at "dl"
      refine ⟨p, z.length, n, o, rfl, by omega, by omega, h4, h5, h6, fun i o' g1 g2 g3 => ?_⟩
      walk_at "dl"
      refine ⟨hz, ?_⟩
      obtain ⟨r, e3, q⟩ := fin i o' g1 (by omega) g3
      rw [e1] at e3
      unfold strD at e3
      cases e4 : atI z.cps.toList i with
      | none =>
        unfold atI at e3 e4
        rw [List.length_map] at e3
        cases e5 : ixN z.cps.toList.length i with
        | none => rw [e5] at e3; cases e3
        | some j =>
          rw [e5] at e3 e4
          have e6 : (z.cps.toList.map fun c => D.str ⟨#[c]⟩)[j]? = some r := e3
          rw [List.getElem?_map, show z.cps.toList[j]? = none from e4] at e6
          cases e6
      | some c =>
        walk_at "dl"
        have e7 : r = .str ⟨#[c]⟩ := by
          unfold atI at e3 e4
          rw [List.length_map] at e3
          cases e5 : ixN z.cps.toList.length i with
          | none => rw [e5] at e3; cases e3
          | some j =>
            rw [e5] at e3 e4
            have e6 : (z.cps.toList.map fun c => D.str ⟨#[c]⟩)[j]? = some r := e3
            rw [List.getElem?_map, show z.cps.toList[j]? = some c from e4] at e6
            exact (Option.some.inj e6).symm
        rw [← e7]
        exact q
    | tup ds =>
      have e1 : es = ds := (Option.some.inj h1).symm
      subst e1
      walk_at "dl"
      refine ⟨rfl, ?_⟩
      walk_at "dl"
      refine ⟨p, es.length, n, o, rfl, by omega, by omega, h4, h5, h6, fun i o' g1 g2 g3 => ?_⟩
      walk_at "dl"
      obtain ⟨r, e3, q⟩ := fin i o' g1 g2 g3
      rw [e3]
      walk_at "dl"
      exact q
    | lst ds =>
      have e1 : es = ds := (Option.some.inj h1).symm
      subst e1
      walk_at "dl"
      refine ⟨rfl, ?_⟩
      walk_at "dl"
      refine ⟨p, es.length, n, o, rfl, by omega, by omega, h4, h5, h6, fun i o' g1 g2 g3 => ?_⟩
      walk_at "dl"
      obtain ⟨r, e3, q⟩ := fin i o' g1 g2 g3
      rw [e3]
      walk_at "dl"
      exact q
    | lstK ds =>
      have e1 : es = ds := (Option.some.inj h1).symm
      subst e1
      walk_at "dl"
      refine ⟨rfl, ?_⟩
      walk_at "dl"
      refine ⟨p, es.length, n, o, rfl, by omega, by omega, h4, h5, h6, fun i o' g1 g2 g3 => ?_⟩
      walk_at "dl"
      obtain ⟨r, e3, q⟩ := fin i o' g1 g2 g3
      rw [e3]
      walk_at "dl"
      exact q
    | ref a =>
      cases hm : M a with
      | none => simp only [itemsM, rsM, hm] at h1; cases h1
      | some mo =>
        cases mo with
        | lst ds =>
          have e1 : es = ds := by
            simp only [itemsM, rsM, hm] at h1
            exact (Option.some.inj h1).symm
          subst e1
          have er : rssM [D.ref a] M = [.lst es] := by simp only [rssM, rsM, hm]
          walk_at "dl"
          rw [er]
          walk_at "dl"
          refine ⟨rfl, ?_⟩
          walk_at "dl"
          have hne : a ≠ p := fun z => by
            subst z
            rw [h5] at hm
            obtain ⟨c, x, l, e, _⟩ := h6
            rw [e] at hm
            cases hm
          refine ⟨p, es.length, n, o, rfl, by omega, by omega, h4, h5, h6, fun i o' g1 g2 g3 => ?_⟩
          walk_at "dl"
          rw [mset_ne hne, hm]
          walk_at "dl"
          obtain ⟨r, e3, q⟩ := fin i o' g1 g2 g3
          rw [e3]
          walk_at "dl"
          exact q
        | dK _ _ => simp only [itemsM, rsM, hm] at h1; cases h1
        | dN _ _ _ => simp only [itemsM, rsM, hm] at h1; cases h1
        | ins _ _ _ => simp only [itemsM, rsM, hm] at h1; cases h1
        | tab _ => simp only [itemsM, rsM, hm] at h1; cases h1
        | exc _ _ _ => simp only [itemsM, rsM, hm] at h1; cases h1
    | _ => cases h1
theorem ok_pick (T : TxtP mg) (h__law_draw : Fn P w K mg base 1 "_law_draw" ["_law_pen_here", "_law_many"] spDraw) (Df : DefAt K mg "_law_pick" ["_law_pen_here", "_law_items"] s__law_pick) : Fn P w K mg base 2 "_law_pick" ["_law_pen_here", "_law_items"] spPick := by
  refine (ok_pickM T h__law_draw Df).imp fun ds M Q E ⟨p, it, es, n, o, e, h1, r⟩ => ⟨p, it, es, n, o, e, ?_, r⟩
  cases it with
  | ref a => cases h1
  | _ => exact h1


theorem sc_s_BadText___init__ : NdefX.NScope N_s_BadText___init__ ["self", "line", "place"] ["__class__"] (defScope s_BadText___init__) := NdefX.nscope_by (by decide +kernel)
theorem ok_BadText_init (T : TxtP mg) {C f : Addr} (Df : SupXAt P K C "__init__" "BadText.__init__" ["self", "line", "place"] s_BadText___init__ f) (no : PySem.W.findIn K (.ref C) "line" = some none) (no2 : PySem.W.findIn K (.ref C) "place" = some none) : ∃ fd, FnOk P w K mg base CX0 1 f fd ["self", "line", "place"] (spXI C ["line", "place"]) ∧ Binds K fd ["self", "line", "place"] [] := by
  obtain ⟨cc, cda, fd, G, Sk, hb⟩ := Df.ex
  exact ⟨fd, ok_exc2 (k := 0) G rfl sc_s_BadText___init__ rfl rfl rfl rfl rfl rfl rfl rfl ⟨by decide, by decide⟩ ⟨by decide, by decide⟩ ⟨by decide, by decide⟩ T.z_super Sk no no2, hb⟩
theorem ok_BadText_q (T : TxtP mg) {C f cc cda : Addr} {fd : FuncData} (no0 : PySem.W.findIn K (.ref C) "line" = some none) (no1 : PySem.W.findIn K (.ref C) "place" = some none) (G : SupD K "__init__" "BadText.__init__" (defArgs s_BadText___init__) (defBody s_BadText___init__) (defScope s_BadText___init__) cc cda f fd) (Sk : SupXK P K cc cda C) : FnOk P w K mg base CX0 1 f fd ["self", "line", "place"] (spXI C ["line", "place"]) :=
  ok_exc2 (k := 0) G rfl sc_s_BadText___init__ rfl rfl rfl rfl rfl rfl rfl rfl ⟨by decide, by decide⟩ ⟨by decide, by decide⟩ ⟨by decide, by decide⟩ T.z_super Sk no0 no1


theorem sc_s_BadName___init__ : NdefX.NScope N_s_BadName___init__ ["self", "name"] ["__class__"] (defScope s_BadName___init__) := NdefX.nscope_by (by decide +kernel)
theorem ok_BadName_init (T : TxtP mg) {C f : Addr} (Df : SupXAt P K C "__init__" "BadName.__init__" ["self", "name"] s_BadName___init__ f) (no : PySem.W.findIn K (.ref C) "name" = some none) : ∃ fd, FnOk P w K mg base CX0 1 f fd ["self", "name"] (spXI C ["name"]) ∧ Binds K fd ["self", "name"] [] := by
  obtain ⟨cc, cda, fd, G, Sk, hb⟩ := Df.ex
  exact ⟨fd, ok_exc1 (k := 0) G rfl sc_s_BadName___init__ rfl rfl rfl rfl rfl rfl rfl ⟨by decide, by decide⟩ ⟨by decide, by decide⟩ T.z_super Sk no, hb⟩
theorem ok_BadName_q (T : TxtP mg) {C f cc cda : Addr} {fd : FuncData} (no0 : PySem.W.findIn K (.ref C) "name" = some none) (G : SupD K "__init__" "BadName.__init__" (defArgs s_BadName___init__) (defBody s_BadName___init__) (defScope s_BadName___init__) cc cda f fd) (Sk : SupXK P K cc cda C) : FnOk P w K mg base CX0 1 f fd ["self", "name"] (spXI C ["name"]) :=
  ok_exc1 (k := 0) G rfl sc_s_BadName___init__ rfl rfl rfl rfl rfl rfl rfl ⟨by decide, by decide⟩ ⟨by decide, by decide⟩ T.z_super Sk no0


theorem sc_s_TooMany___init__ : NdefX.NScope N_s_TooMany___init__ ["self", "what"] ["__class__"] (defScope s_TooMany___init__) := NdefX.nscope_by (by decide +kernel)
theorem ok_TooMany_init (T : TxtP mg) {C f : Addr} (Df : SupXAt P K C "__init__" "TooMany.__init__" ["self", "what"] s_TooMany___init__ f) (no : PySem.W.findIn K (.ref C) "what" = some none) : ∃ fd, FnOk P w K mg base CX0 1 f fd ["self", "what"] (spXI C ["what"]) ∧ Binds K fd ["self", "what"] [] := by
  obtain ⟨cc, cda, fd, G, Sk, hb⟩ := Df.ex
  exact ⟨fd, ok_exc1 (k := 0) G rfl sc_s_TooMany___init__ rfl rfl rfl rfl rfl rfl rfl ⟨by decide, by decide⟩ ⟨by decide, by decide⟩ T.z_super Sk no, hb⟩
theorem ok_TooMany_q (T : TxtP mg) {C f cc cda : Addr} {fd : FuncData} (no0 : PySem.W.findIn K (.ref C) "what" = some none) (G : SupD K "__init__" "TooMany.__init__" (defArgs s_TooMany___init__) (defBody s_TooMany___init__) (defScope s_TooMany___init__) cc cda f fd) (Sk : SupXK P K cc cda C) : FnOk P w K mg base CX0 1 f fd ["self", "what"] (spXI C ["what"]) :=
  ok_exc1 (k := 0) G rfl sc_s_TooMany___init__ rfl rfl rfl rfl rfl rfl rfl ⟨by decide, by decide⟩ ⟨by decide, by decide⟩ T.z_super Sk no0


theorem sc_s_NotKept___init__ : NdefX.NScope N_s_NotKept___init__ ["self", "guard"] ["__class__"] (defScope s_NotKept___init__) := NdefX.nscope_by (by decide +kernel)
theorem ok_NotKept_init (T : TxtP mg) {C f : Addr} (Df : SupXAt P K C "__init__" "NotKept.__init__" ["self", "guard"] s_NotKept___init__ f) (no : PySem.W.findIn K (.ref C) "guard" = some none) : ∃ fd, FnOk P w K mg base CX0 1 f fd ["self", "guard"] (spXI C ["guard"]) ∧ Binds K fd ["self", "guard"] [] := by
  obtain ⟨cc, cda, fd, G, Sk, hb⟩ := Df.ex
  exact ⟨fd, ok_exc1 (k := 0) G rfl sc_s_NotKept___init__ rfl rfl rfl rfl rfl rfl rfl ⟨by decide, by decide⟩ ⟨by decide, by decide⟩ T.z_super Sk no, hb⟩
theorem ok_NotKept_q (T : TxtP mg) {C f cc cda : Addr} {fd : FuncData} (no0 : PySem.W.findIn K (.ref C) "guard" = some none) (G : SupD K "__init__" "NotKept.__init__" (defArgs s_NotKept___init__) (defBody s_NotKept___init__) (defScope s_NotKept___init__) cc cda f fd) (Sk : SupXK P K cc cda C) : FnOk P w K mg base CX0 1 f fd ["self", "guard"] (spXI C ["guard"]) :=
  ok_exc1 (k := 0) G rfl sc_s_NotKept___init__ rfl rfl rfl rfl rfl rfl rfl ⟨by decide, by decide⟩ ⟨by decide, by decide⟩ T.z_super Sk no0


theorem sc_s_NothingLeft___init__ : NdefX.NScope N_s_NothingLeft___init__ ["self"] ["__class__"] (defScope s_NothingLeft___init__) := NdefX.nscope_by (by decide +kernel)
theorem ok_NothingLeft_init (T : TxtP mg) {C f : Addr} (Df : SupXAt P K C "__init__" "NothingLeft.__init__" ["self"] s_NothingLeft___init__ f) : ∃ fd, FnOk P w K mg base CX0 1 f fd ["self"] (spX0 C) ∧ Binds K fd ["self"] [] := by
  obtain ⟨cc, cda, fd, G, Sk, hb⟩ := Df.ex
  exact ⟨fd, ok_exc0 (k := 0) G rfl sc_s_NothingLeft___init__ rfl rfl rfl rfl rfl rfl T.z_super Sk, hb⟩


theorem sc_s_Busy___init__ : NdefX.NScope N_s_Busy___init__ ["self"] ["__class__"] (defScope s_Busy___init__) := NdefX.nscope_by (by decide +kernel)
theorem ok_Busy_init (T : TxtP mg) {C f : Addr} (Df : SupXAt P K C "__init__" "Busy.__init__" ["self"] s_Busy___init__ f) : ∃ fd, FnOk P w K mg base CX0 1 f fd ["self"] (spX0 C) ∧ Binds K fd ["self"] [] := by
  obtain ⟨cc, cda, fd, G, Sk, hb⟩ := Df.ex
  exact ⟨fd, ok_exc0 (k := 0) G rfl sc_s_Busy___init__ rfl rfl rfl rfl rfl rfl T.z_super Sk, hb⟩


theorem sc_s__law_raise : FnScope N_s__law_raise ["_law_k", "_law_a", "_law_b"] (defScope s__law_raise) := ⟨rfl, rfl, rfl, by decide +kernel, rfl, by decide +kernel, by decide +kernel⟩
theorem ok_lraise (T : TxtP mg) (c : EC) (h_BadText : ExCl P w K mg base 2 "BadText" c.t ["line", "place"]) (h_BadName : ExCl P w K mg base 2 "BadName" c.n ["name"]) (h_TooMany : ExCl P w K mg base 2 "TooMany" c.m ["what"]) (h_NotKept : ExCl P w K mg base 2 "NotKept" c.k ["guard"]) (h_NothingLeft : ExCl0 P w K mg base 2 "NothingLeft" c.l) (h_Busy : ExCl0 P w K mg base 2 "Busy" c.b) (Df : DefAt K mg "_law_raise" ["_law_k", "_law_a", "_law_b"] s__law_raise) : FnX P w K mg base 4 "_law_raise" ["_law_k", "_law_a", "_law_b"] (spLRaise c) := by
  refine okFX Df sc_s__law_raise (fun ds M Q E h => ?_) fun f cdv A outer s H E Ed hr tk => ⟨_, (ss_cons (s_if (d_tcmp (od_eq hr) (d_var 0) d_int (nomark _))
    (ss_one (s_raise rfl tk h_BadText (hr.mono (by first | decide | omega)) (a_cons (d_var 1) (a_cons (d_var 2) a_nil))))
    ss_nil)
    (ss_cons (s_if (d_tcmp (od_eq hr) (d_var 0) d_int (nomark _))
    (ss_one (s_raise rfl tk h_BadName (hr.mono (by first | decide | omega)) (a_cons (d_var 1) a_nil)))
    ss_nil)
    (ss_cons (s_if (d_tcmp (od_eq hr) (d_var 0) d_int (nomark _))
    (ss_one (s_raise rfl tk h_TooMany (hr.mono (by first | decide | omega)) (a_cons (d_var 1) a_nil)))
    ss_nil)
    (ss_cons (s_if (d_tcmp (od_eq hr) (d_var 0) d_int (nomark _))
    (ss_one (s_raise rfl tk h_NotKept (hr.mono (by first | decide | omega)) (a_cons (d_var 1) a_nil)))
    ss_nil)
    (ss_cons (s_if (d_tcmp (od_eq hr) (d_var 0) d_int (nomark _))
    (ss_one (s_raise0 rfl tk h_NothingLeft (hr.mono (by first | decide | omega))))
    ss_nil)
    (ss_one (s_raise0 rfl tk h_Busy (hr.mono (by first | decide | omega))))))))), fun ds M Q h => ?_⟩
  · obtain ⟨k, x, y, rfl, _⟩ := h
    rfl
  · obtain ⟨k, x, y, rfl, h1, q⟩ := h
    have e : startD N_s__law_raise [.int (k : Nat), x, y] = [.val (.int (k : Nat)), .val x, .val y, ] := rfl
    rw [e]
    rcases six h1 with rfl | rfl | rfl | rfl | rfl | rfl
    · walk_at "b"
      rw [decide_eq_true (show ((0 : Nat) : Int) = 0 from rfl)]
      walk_at "b"
      exact q
    · walk_at "b"
      rw [decide_eq_false (show ¬ ((1 : Nat) : Int) = 0 by decide)]
      walk_at "b"
      rw [decide_eq_true (show ((1 : Nat) : Int) = 1 from rfl)]
      walk_at "b"
      exact q
    · walk_at "b"
      rw [decide_eq_false (show ¬ ((2 : Nat) : Int) = 0 by decide)]
      walk_at "b"
      rw [decide_eq_false (show ¬ ((2 : Nat) : Int) = 1 by decide)]
      walk_at "b"
      rw [decide_eq_true (show ((2 : Nat) : Int) = 2 from rfl)]
      walk_at "b"
      exact q
    · walk_at "b"
      rw [decide_eq_false (show ¬ ((3 : Nat) : Int) = 0 by decide)]
      walk_at "b"
      rw [decide_eq_false (show ¬ ((3 : Nat) : Int) = 1 by decide)]
      walk_at "b"
      rw [decide_eq_false (show ¬ ((3 : Nat) : Int) = 2 by decide)]
      walk_at "b"
      rw [decide_eq_true (show ((3 : Nat) : Int) = 3 from rfl)]
      walk_at "b"
      exact q
    · walk_at "b"
      rw [decide_eq_false (show ¬ ((4 : Nat) : Int) = 0 by decide)]
      walk_at "b"
      rw [decide_eq_false (show ¬ ((4 : Nat) : Int) = 1 by decide)]
      walk_at "b"
      rw [decide_eq_false (show ¬ ((4 : Nat) : Int) = 2 by decide)]
      walk_at "b"
      rw [decide_eq_false (show ¬ ((4 : Nat) : Int) = 3 by decide)]
      walk_at "b"
      rw [decide_eq_true (show ((4 : Nat) : Int) = 4 from rfl)]
      walk_at "b"
      exact q
    · walk_at "b"
      rw [decide_eq_false (show ¬ ((5 : Nat) : Int) = 0 by decide)]
      walk_at "b"
      rw [decide_eq_false (show ¬ ((5 : Nat) : Int) = 1 by decide)]
      walk_at "b"
      rw [decide_eq_false (show ¬ ((5 : Nat) : Int) = 2 by decide)]
      walk_at "b"
      rw [decide_eq_false (show ¬ ((5 : Nat) : Int) = 3 by decide)]
      walk_at "b"
      rw [decide_eq_false (show ¬ ((5 : Nat) : Int) = 4 by decide)]
      walk_at "b"
      exact q


theorem sc_s__law_named : FnScope N_s__law_named ["_law_k", "_law_a", "_law_b"] (defScope s__law_named) := ⟨rfl, rfl, rfl, by decide +kernel, rfl, by decide +kernel, by decide +kernel⟩
theorem ok_lnamed (T : TxtP mg) (c : EC) (q_BadText : ExClQ P w K mg base 2 "BadText" c.t ["line", "place"] ["place", "line"] [1, 0]) (q_BadName : ExClQ P w K mg base 2 "BadName" c.n ["name"] ["name"] [0]) (q_TooMany : ExClQ P w K mg base 2 "TooMany" c.m ["what"] ["what"] [0]) (q_NotKept : ExClQ P w K mg base 2 "NotKept" c.k ["guard"] ["guard"] [0]) (h_NothingLeft : ExCl0 P w K mg base 2 "NothingLeft" c.l) (h_Busy : ExCl0 P w K mg base 2 "Busy" c.b) (Df : DefAt K mg "_law_named" ["_law_k", "_law_a", "_law_b"] s__law_named) : Fn P w K mg base 4 "_law_named" ["_law_k", "_law_a", "_law_b"] (spLNamed c) := by
  refine okF Df sc_s__law_named (fun ds M Q E h => ?_) fun f cdv A outer s H E hr => ⟨_, (ss_cons (s_if (d_tcmp (od_eq hr) (d_var 0) d_int (nomark _))
    (ss_one (s_ret (d_mkV q_BadText (hr.mono (by first | decide | omega)) (k_cons (d_var 2) (k_cons (d_var 1) k_nil)))))
    ss_nil)
    (ss_cons (s_if (d_tcmp (od_eq hr) (d_var 0) d_int (nomark _))
    (ss_one (s_ret (d_mkV q_BadName (hr.mono (by first | decide | omega)) (k_cons (d_var 1) k_nil))))
    ss_nil)
    (ss_cons (s_if (d_tcmp (od_eq hr) (d_var 0) d_int (nomark _))
    (ss_one (s_ret (d_mkV q_TooMany (hr.mono (by first | decide | omega)) (k_cons (d_var 1) k_nil))))
    ss_nil)
    (ss_cons (s_if (d_tcmp (od_eq hr) (d_var 0) d_int (nomark _))
    (ss_one (s_ret (d_mkV q_NotKept (hr.mono (by first | decide | omega)) (k_cons (d_var 1) k_nil))))
    ss_nil)
    (ss_one (s_ret (d_ifExp (d_tcmp (od_eq hr) (d_var 0) d_int (nomark _)) (d_mkV0 h_NothingLeft (fun _ _ _ => spX0_one) (hr.mono (by first | decide | omega))) (d_mkV0 h_Busy (fun _ _ _ => spX0_one) (hr.mono (by first | decide | omega)))))))))), fun ds M Q Ed h => ?_⟩
  · obtain ⟨k, x, y, rfl, _⟩ := h
    rfl
  · obtain ⟨k, x, y, rfl, h1, q⟩ := h
    have e : startD N_s__law_named [.int (k : Nat), x, y] = [.val (.int (k : Nat)), .val x, .val y, ] := rfl
    rw [e]
    rcases six h1 with rfl | rfl | rfl | rfl | rfl | rfl
    · walk_at "b"
      rw [decide_eq_true (show ((0 : Nat) : Int) = 0 from rfl)]
      walk_at "b"
      exact q
    · walk_at "b"
      rw [decide_eq_false (show ¬ ((1 : Nat) : Int) = 0 by decide)]
      walk_at "b"
      rw [decide_eq_true (show ((1 : Nat) : Int) = 1 from rfl)]
      walk_at "b"
      exact q
    · walk_at "b"
      rw [decide_eq_false (show ¬ ((2 : Nat) : Int) = 0 by decide)]
      walk_at "b"
      rw [decide_eq_false (show ¬ ((2 : Nat) : Int) = 1 by decide)]
      walk_at "b"
      rw [decide_eq_true (show ((2 : Nat) : Int) = 2 from rfl)]
      walk_at "b"
      exact q
    · walk_at "b"
      rw [decide_eq_false (show ¬ ((3 : Nat) : Int) = 0 by decide)]
      walk_at "b"
      rw [decide_eq_false (show ¬ ((3 : Nat) : Int) = 1 by decide)]
      walk_at "b"
      rw [decide_eq_false (show ¬ ((3 : Nat) : Int) = 2 by decide)]
      walk_at "b"
      rw [decide_eq_true (show ((3 : Nat) : Int) = 3 from rfl)]
      walk_at "b"
      exact q
    · walk_at "b"
      rw [decide_eq_false (show ¬ ((4 : Nat) : Int) = 0 by decide)]
      walk_at "b"
      rw [decide_eq_false (show ¬ ((4 : Nat) : Int) = 1 by decide)]
      walk_at "b"
      rw [decide_eq_false (show ¬ ((4 : Nat) : Int) = 2 by decide)]
      walk_at "b"
      rw [decide_eq_false (show ¬ ((4 : Nat) : Int) = 3 by decide)]
      walk_at "b"
      rw [decide_eq_true (show ((4 : Nat) : Int) = 4 from rfl)]
      walk_at "b"
      exact q
    · walk_at "b"
      rw [decide_eq_false (show ¬ ((5 : Nat) : Int) = 0 by decide)]
      walk_at "b"
      rw [decide_eq_false (show ¬ ((5 : Nat) : Int) = 1 by decide)]
      walk_at "b"
      rw [decide_eq_false (show ¬ ((5 : Nat) : Int) = 2 by decide)]
      walk_at "b"
      rw [decide_eq_false (show ¬ ((5 : Nat) : Int) = 3 by decide)]
      walk_at "b"
      rw [decide_eq_false (show ¬ ((5 : Nat) : Int) = 4 by decide)]
      walk_at "b"
      exact q


theorem sc_s__law_kinds : FnScope N_s__law_kinds ["_law_e"] (defScope s__law_kinds) := ⟨rfl, rfl, rfl, by decide +kernel, rfl, by decide +kernel, by decide +kernel⟩
theorem ok_lkinds (T : TxtP mg) (c : EC) {AW : Addr} (ok : ECOk K c AW) (g0 : mg "BadText" = some (.ref c.t)) (g1 : mg "BadName" = some (.ref c.n)) (g2 : mg "TooMany" = some (.ref c.m)) (g3 : mg "NotKept" = some (.ref c.k)) (g4 : mg "NothingLeft" = some (.ref c.l)) (g5 : mg "Busy" = some (.ref c.b)) (Df : DefAt K mg "_law_kinds" ["_law_e"] s__law_kinds) : FnZd P w K mg base 4 "_law_kinds" ["_law_e"] (spKindsZ c) := by
  refine okFZ Df sc_s__law_kinds (fun a C ns es ds M Q E h => ?_) fun f cdv A outer s H E a C d ns es oe hr xr hz hf => ⟨_, (ss_cons (s_set (i := 1) sc_s__law_kinds.nd (d_lst (a_cons (d_callB (cd_isZ List.mem_cons_self xr hz hf) rfl T.z_isinstance (by decide +kernel) (a_cons (d_var 0) (a_cons (d_globR rfl g0) a_nil))) (a_cons (d_callB (cd_isZ List.mem_cons_self xr hz hf) rfl T.z_isinstance (by decide +kernel) (a_cons (d_var 0) (a_cons (d_globR rfl g1) a_nil))) (a_cons (d_callB (cd_isZ List.mem_cons_self xr hz hf) rfl T.z_isinstance (by decide +kernel) (a_cons (d_var 0) (a_cons (d_globR rfl g2) a_nil))) a_nil)))))
    (ss_one (s_ret (d_op od_add (d_var 1) (d_lst (a_cons (d_callB (cd_isZ List.mem_cons_self xr hz hf) rfl T.z_isinstance (by decide +kernel) (a_cons (d_var 0) (a_cons (d_globR rfl g3) a_nil))) (a_cons (d_callB (cd_isZ List.mem_cons_self xr hz hf) rfl T.z_isinstance (by decide +kernel) (a_cons (d_var 0) (a_cons (d_globR rfl g4) a_nil))) (a_cons (d_callB (cd_isZ List.mem_cons_self xr hz hf) rfl T.z_isinstance (by decide +kernel) (a_cons (d_var 0) (a_cons (d_globR rfl g5) a_nil))) a_nil)))))))), fun ds M Q h => ?_⟩
  · obtain ⟨k, rfl, _⟩ := h
    rfl
  · obtain ⟨k, rfl, h1, rfl, q⟩ := h
    have e : startD N_s__law_kinds [.ref a] = [.val (.ref a), Sl.no] := rfl
    rw [e]
    walk_at "dl"
    refine ⟨_, decide (0 = k), rfl, ok.xi k h1, .inl ⟨c.t, rfl, ok.kit k 0 h1 (by decide)⟩, ?_⟩
    walk_at "dl"
    refine ⟨_, decide (1 = k), rfl, ok.xi k h1, .inl ⟨c.n, rfl, ok.kit k 1 h1 (by decide)⟩, ?_⟩
    walk_at "dl"
    refine ⟨_, decide (2 = k), rfl, ok.xi k h1, .inl ⟨c.m, rfl, ok.kit k 2 h1 (by decide)⟩, ?_⟩
    walk_at "dl"
    refine ⟨by show 3 ≤ sizeLine; decide, ?_⟩
    walk_at "dl"
    refine ⟨_, decide (3 = k), rfl, ok.xi k h1, .inl ⟨c.k, rfl, ok.kit k 3 h1 (by decide)⟩, ?_⟩
    walk_at "dl"
    refine ⟨_, decide (4 = k), rfl, ok.xi k h1, .inl ⟨c.l, rfl, ok.kit k 4 h1 (by decide)⟩, ?_⟩
    walk_at "dl"
    refine ⟨_, decide (5 = k), rfl, ok.xi k h1, .inl ⟨c.b, rfl, ok.kit k 5 h1 (by decide)⟩, ?_⟩
    walk_at "dl"
    refine ⟨by show 3 ≤ sizeLine; decide, ?_⟩
    walk_at "dl"
    refine ⟨by show 3 + 3 ≤ sizeLine; decide, ?_⟩
    exact q


theorem sc_s__law_fields : FnScope N_s__law_fields ["_law_k", "_law_e"] (defScope s__law_fields) := ⟨rfl, rfl, rfl, by decide +kernel, rfl, by decide +kernel, by decide +kernel⟩
theorem ok_lfieldsZ (T : TxtP mg) (c : EC) {AW : Addr} (ok : ECOk K c AW) (Df : DefAt K mg "_law_fields" ["_law_k", "_law_e"] s__law_fields) : FnZd P w K mg base 4 "_law_fields" ["_law_k", "_law_e"] (spFieldsZ c) := by
  refine okFZ Df sc_s__law_fields (fun a C ns es ds M Q E h => ?_) fun f cdv A outer s H E a C d ns es oe hr xr hz hf => ⟨_, (ss_cons (s_if (d_tcmp (od_eqZ hr) (d_var 0) d_int (nomark _))
    (ss_one (s_ret (d_lst (a_cons (d_xz List.mem_cons_self xr hz hf (d_var 1)) (a_cons (d_xz List.mem_cons_self xr hz hf (d_var 1)) a_nil)))))
    ss_nil)
    (ss_cons (s_if (d_tcmp od_in (d_var 0) (d_lst (a_cons d_int (a_cons d_int a_nil))) (by rfl))
    (ss_one (s_ret (d_lst (a_cons (d_ifExp (d_tcmp (od_eqZ hr) (d_var 0) d_int (nomark _)) (d_xz List.mem_cons_self xr hz hf (d_var 1)) (d_xz List.mem_cons_self xr hz hf (d_var 1))) a_nil))))
    ss_nil)
    (ss_one (s_ret (d_ifExp (d_tcmp (od_eqZ hr) (d_var 0) d_int (nomark _)) (d_lst (a_cons (d_xz List.mem_cons_self xr hz hf (d_var 1)) a_nil)) (d_lst a_nil)))))), fun ds M Q h => ?_⟩
  · obtain ⟨k, x, y, rfl, _⟩ := h
    rfl
  · obtain ⟨k, x, y, rfl, h1, rfl, rfl, rfl, q⟩ := h
    have e : startD N_s__law_fields [.int (k : Nat), .ref a] = [.val (.int (k : Nat)), .val (.ref a), ] := rfl
    rw [e]
    rcases six h1 with rfl | rfl | rfl | rfl | rfl | rfl
    · walk_at "b"
      rw [decide_eq_true (show ((0 : Nat) : Int) = 0 from rfl)]
      walk_at "b"
      refine ⟨ok.f0, ?_⟩
      walk_at "dl"
      refine ⟨rfl, ?_⟩
      rw [show fget _ (errN 0) (errV 0 x y) = some x from fgL]
      walk_at "b"
      refine ⟨ok.f0p, ?_⟩
      walk_at "dl"
      refine ⟨rfl, ?_⟩
      rw [show fget _ (errN 0) (errV 0 x y) = some y from fgP]
      walk_at "b"
      exact q
    · walk_at "b"
      rw [decide_eq_false (show ¬ ((1 : Nat) : Int) = 0 by decide)]
      walk_at "b"
      rw [show (eqF (D.int 1) (D.int ((1 : Nat) : Int)) || eqF (D.int 2) (D.int ((1 : Nat) : Int))) = true from rfl]
      walk_at "b"
      rw [decide_eq_true (show ((1 : Nat) : Int) = 1 from rfl)]
      walk_at "b"
      refine ⟨ok.f1, ?_⟩
      walk_at "dl"
      refine ⟨rfl, ?_⟩
      rw [show fget _ (errN 1) (errV 1 x y) = some x from fget_hd]
      walk_at "b"
      exact q
    · walk_at "b"
      rw [decide_eq_false (show ¬ ((2 : Nat) : Int) = 0 by decide)]
      walk_at "b"
      rw [show (eqF (D.int 1) (D.int ((2 : Nat) : Int)) || eqF (D.int 2) (D.int ((2 : Nat) : Int))) = true from rfl]
      walk_at "b"
      rw [decide_eq_false (show ¬ ((2 : Nat) : Int) = 1 by decide)]
      walk_at "b"
      refine ⟨ok.f2, ?_⟩
      walk_at "dl"
      refine ⟨rfl, ?_⟩
      rw [show fget _ (errN 2) (errV 2 x y) = some x from fget_hd]
      walk_at "b"
      exact q
    · walk_at "b"
      rw [decide_eq_false (show ¬ ((3 : Nat) : Int) = 0 by decide)]
      walk_at "b"
      rw [show (eqF (D.int 1) (D.int ((3 : Nat) : Int)) || eqF (D.int 2) (D.int ((3 : Nat) : Int))) = false from rfl]
      walk_at "b"
      rw [decide_eq_true (show ((3 : Nat) : Int) = 3 from rfl)]
      walk_at "b"
      refine ⟨ok.f3, ?_⟩
      walk_at "dl"
      refine ⟨rfl, ?_⟩
      rw [show fget _ (errN 3) (errV 3 x y) = some x from fget_hd]
      walk_at "b"
      exact q
    · walk_at "b"
      rw [decide_eq_false (show ¬ ((4 : Nat) : Int) = 0 by decide)]
      walk_at "b"
      rw [show (eqF (D.int 1) (D.int ((4 : Nat) : Int)) || eqF (D.int 2) (D.int ((4 : Nat) : Int))) = false from rfl]
      walk_at "b"
      rw [decide_eq_false (show ¬ ((4 : Nat) : Int) = 3 by decide)]
      walk_at "b"
      exact q
    · walk_at "b"
      rw [decide_eq_false (show ¬ ((5 : Nat) : Int) = 0 by decide)]
      walk_at "b"
      rw [show (eqF (D.int 1) (D.int ((5 : Nat) : Int)) || eqF (D.int 2) (D.int ((5 : Nat) : Int))) = false from rfl]
      walk_at "b"
      rw [decide_eq_false (show ¬ ((5 : Nat) : Int) = 3 by decide)]
      walk_at "b"
      exact q
theorem ok_lfieldsV (T : TxtP mg) (c : EC) {AW : Addr} (ok : ECOk K c AW) (Df : DefAt K mg "_law_fields" ["_law_k", "_law_e"] s__law_fields) : Fn P w K mg base 4 "_law_fields" ["_law_k", "_law_e"] (spFieldsV c) := by
  refine okF Df sc_s__law_fields (fun ds M Q E h => ?_) fun f cdv A outer s H E hr => ⟨_, (ss_cons (s_if (d_tcmp (od_eq hr) (d_var 0) d_int (nomark _))
    (ss_one (s_ret (d_lst (a_cons (d_xv (d_var 1)) (a_cons (d_xv (d_var 1)) a_nil)))))
    ss_nil)
    (ss_cons (s_if (d_tcmp od_in (d_var 0) (d_lst (a_cons d_int (a_cons d_int a_nil))) (by rfl))
    (ss_one (s_ret (d_lst (a_cons (d_ifExp (d_tcmp (od_eq hr) (d_var 0) d_int (nomark _)) (d_xv (d_var 1)) (d_xv (d_var 1))) a_nil))))
    ss_nil)
    (ss_one (s_ret (d_ifExp (d_tcmp (od_eq hr) (d_var 0) d_int (nomark _)) (d_lst (a_cons (d_xv (d_var 1)) a_nil)) (d_lst a_nil)))))), fun ds M Q Ed h => ?_⟩
  · obtain ⟨k, x, y, p, rfl, _⟩ := h
    rfl
  · obtain ⟨k, x, y, p, rfl, h1, hM, q⟩ := h
    have e : startD N_s__law_fields [.int (k : Nat), .ref p] = [.val (.int (k : Nat)), .val (.ref p), ] := rfl
    rw [e]
    rcases six h1 with rfl | rfl | rfl | rfl | rfl | rfl
    · walk_at "b"
      rw [decide_eq_true (show ((0 : Nat) : Int) = 0 from rfl)]
      walk_at "b"
      refine ⟨p, c.at 0, errN 0, errV 0 x y, x, rfl, hM, ok.f0, fgL, ?_⟩
      walk_at "b"
      refine ⟨p, c.at 0, errN 0, errV 0 x y, y, rfl, hM, ok.f0p, fgP, ?_⟩
      walk_at "b"
      exact q
    · walk_at "b"
      rw [decide_eq_false (show ¬ ((1 : Nat) : Int) = 0 by decide)]
      walk_at "b"
      rw [show (eqF (D.int 1) (D.int ((1 : Nat) : Int)) || eqF (D.int 2) (D.int ((1 : Nat) : Int))) = true from rfl]
      walk_at "b"
      rw [decide_eq_true (show ((1 : Nat) : Int) = 1 from rfl)]
      walk_at "b"
      refine ⟨p, c.at 1, errN 1, errV 1 x y, x, rfl, hM, ok.f1, fget_hd, ?_⟩
      walk_at "b"
      exact q
    · walk_at "b"
      rw [decide_eq_false (show ¬ ((2 : Nat) : Int) = 0 by decide)]
      walk_at "b"
      rw [show (eqF (D.int 1) (D.int ((2 : Nat) : Int)) || eqF (D.int 2) (D.int ((2 : Nat) : Int))) = true from rfl]
      walk_at "b"
      rw [decide_eq_false (show ¬ ((2 : Nat) : Int) = 1 by decide)]
      walk_at "b"
      refine ⟨p, c.at 2, errN 2, errV 2 x y, x, rfl, hM, ok.f2, fget_hd, ?_⟩
      walk_at "b"
      exact q
    · walk_at "b"
      rw [decide_eq_false (show ¬ ((3 : Nat) : Int) = 0 by decide)]
      walk_at "b"
      rw [show (eqF (D.int 1) (D.int ((3 : Nat) : Int)) || eqF (D.int 2) (D.int ((3 : Nat) : Int))) = false from rfl]
      walk_at "b"
      rw [decide_eq_true (show ((3 : Nat) : Int) = 3 from rfl)]
      walk_at "b"
      refine ⟨p, c.at 3, errN 3, errV 3 x y, x, rfl, hM, ok.f3, fget_hd, ?_⟩
      walk_at "b"
      exact q
    · walk_at "b"
      rw [decide_eq_false (show ¬ ((4 : Nat) : Int) = 0 by decide)]
      walk_at "b"
      rw [show (eqF (D.int 1) (D.int ((4 : Nat) : Int)) || eqF (D.int 2) (D.int ((4 : Nat) : Int))) = false from rfl]
      walk_at "b"
      rw [decide_eq_false (show ¬ ((4 : Nat) : Int) = 3 by decide)]
      walk_at "b"
      exact q
    · walk_at "b"
      rw [decide_eq_false (show ¬ ((5 : Nat) : Int) = 0 by decide)]
      walk_at "b"
      rw [show (eqF (D.int 1) (D.int ((5 : Nat) : Int)) || eqF (D.int 2) (D.int ((5 : Nat) : Int))) = false from rfl]
      walk_at "b"
      rw [decide_eq_false (show ¬ ((5 : Nat) : Int) = 3 by decide)]
      walk_at "b"
      exact q


theorem sc_s__law_caught : FnScope N_s__law_caught ["_law_k", "_law_a", "_law_b"] (defScope s__law_caught) := ⟨rfl, rfl, rfl, by decide +kernel, rfl, by decide +kernel, by decide +kernel⟩
theorem ok_lcaught (T : TxtP mg) (c : EC) {AW : Addr} (ok : ECOk K c AW) (zVE : mg "ValueError" = none) (h_WayError : GmA mg "WayError" AW) (h__law_raise : FnX P w K mg base 4 "_law_raise" ["_law_k", "_law_a", "_law_b"] (spLRaise c)) (h__law_kinds : FnZd P w K mg base 4 "_law_kinds" ["_law_e"] (spKindsZ c)) (h__law_fields : FnZd P w K mg base 4 "_law_fields" ["_law_k", "_law_e"] (spFieldsZ c)) (Df : DefAt K mg "_law_caught" ["_law_k", "_law_a", "_law_b"] s__law_caught) : Fn P w K mg base 6 "_law_caught" ["_law_k", "_law_a", "_law_b"] spCaught := by
  refine okF Df sc_s__law_caught (fun ds M Q E h => ?_) fun f cdv A outer s H E hr => ⟨_, (ss_cons (s_tryAs (i := 3) takesD0 sc_s__law_caught.nd ⟨rfl, by decide, .inl h_WayError.gm⟩ (fun Wd pn xe tk po => (ss_one (s_expr (d_callX tk h__law_raise (hr.mono (by first | decide | omega)) (a_cons (d_var 0) (a_cons (d_var 1) (a_cons (d_var 2) a_nil)))))))
    (fun a C d ns es oe pn xr hz hf => (ss_one (s_ret (d_lst (a_cons (d_callZ List.mem_cons_self xr hz hf h__law_kinds (roomZ (hr.mono (by first | decide | omega))) (a_cons (d_var 3) a_nil)) (a_cons (d_callZ List.mem_cons_self xr hz hf h__law_fields (roomZ (hr.mono (by first | decide | omega))) (a_cons (d_var 0) (a_cons (d_var 3) a_nil))) (a_cons (d_callB (cd_isX xr hz hf) rfl T.z_isinstance (by decide +kernel) (a_cons (d_var 3) (a_cons (d_bty (n := "ValueError") rfl zVE (by decide +kernel)) a_nil))) a_nil))))))))
    (ss_one (s_ret (d_lst a_nil)))), fun ds M Q Ed h => ?_⟩
  · obtain ⟨k, x, y, rfl, _⟩ := h
    rfl
  · obtain ⟨k, x, y, rfl, h1, q⟩ := h
    have e : startD N_s__law_caught [.int (k : Nat), x, y] = [.val (.int (k : Nat)), .val x, .val y, Sl.no] := rfl
    rw [e]
    walk_at "dl"
    refine ⟨k, x, y, rfl, h1, ?_⟩
    dsimp only
    refine ⟨true, ok.ex k h1, fun _ a => ?_, fun z => by cases z⟩
    walk_at "dl"
    refine ⟨k, rfl, h1, rfl, ?_⟩
    walk_at "dl"
    refine ⟨k, x, y, rfl, h1, rfl, rfl, rfl, ?_⟩
    walk_at "dl"
    refine ⟨_, true, rfl, ok.xi k h1, .inr ⟨"ValueError", rfl, ok.ve k h1⟩, ?_⟩
    walk_at "dl"
    refine ⟨by show 3 ≤ sizeLine; decide, ?_⟩
    walk_at "dl"
    exact q


theorem sc_s_law : FnScope N_s_law ["_law_script"] (defScope s_law) := ⟨rfl, rfl, rfl, by decide +kernel, rfl, by decide +kernel, by decide +kernel⟩
theorem ok_law (T : TxtP mg) (c : EC) (h__law_draw : Fn P w K mg base 1 "_law_draw" ["_law_pen_here", "_law_many"] spDraw) (h__law_pen : Fn P w K mg base 1 "_law_pen" ["_law_script"] spPen) (h__law_pick : Fn P w K mg base 2 "_law_pick" ["_law_pen_here", "_law_items"] spPick) (h__law_caught : Fn P w K mg base 6 "_law_caught" ["_law_k", "_law_a", "_law_b"] spCaught) (h__law_named : Fn P w K mg base 4 "_law_named" ["_law_k", "_law_a", "_law_b"] (spLNamed c)) (h__law_fields : Fn P w K mg base 4 "_law_fields" ["_law_k", "_law_e"] (spFieldsV c)) {f0 : Addr} {fd : FuncData} (Df : FunD K "law" "law" (defArgs s_law) (defBody s_law) (defScope s_law) [] [] f0 fd) : FnOk P w K mg base CX0 10 f0 fd ["_law_script"] (LSp K spTrue) := by
  refine okD Df sc_s_law (fun ds M Q E h => ?_) fun cdv A outer s H E hr => ⟨_, (ss_cons (s_set (i := 1) sc_s_law.nd (d_callF h__law_pen (hr.mono (by first | decide | omega)) (a_cons (d_var 0) a_nil)))
    (ss_cons (s_for PassesOwn.never rfl (i_rng1 rfl T.z_range (a_cons (d_op od_add d_int (d_callB (cd_min rfl) rfl T.z_min (by decide +kernel) (a_cons d_int (a_cons (d_callB cd_len rfl T.z_len PySem.boot_len (a_cons (d_var 0) a_nil)) a_nil)))) a_nil)) (g_name (i := 2) sc_s_law.nd)
    (ss_cons (s_asg (d_tup (a_cons (d_ifExp (d_tcmp od_lt (d_var 2) d_int (nomark _)) (d_var 2) (d_callF h__law_draw (hr.mono (by first | decide | omega)) (a_cons (d_var 1) (a_cons d_int a_nil)))) (a_cons d_int a_nil))) (g_tup (n := 2) rfl (gs_cons (g_name (i := 3) sc_s_law.nd) (gs_cons (g_name (i := 5) sc_s_law.nd) gs_nil))))
    (ss_cons (s_for PassesOwn.never rfl (i_rng1 rfl T.z_range (a_cons d_int a_nil)) (g_name (i := 4) sc_s_law.nd)
    (ss_one (s_set (i := 5) sc_s_law.nd (d_op od_add (d_op od_mul (d_var 5) d_int) (d_callF h__law_draw (hr.mono (by first | decide | omega)) (a_cons (d_var 1) (a_cons d_int a_nil)))))))
    (ss_cons (s_set (i := 5) sc_s_law.nd (d_callF h__law_pick (hr.mono (by first | decide | omega)) (a_cons (d_var 1) (a_cons (d_lst (a_cons (d_var 5) (a_cons (d_op od_sub d_int (d_var 5)) (a_cons d_str (a_cons (d_tup (a_cons d_str (a_cons d_str (a_cons d_int a_nil)))) a_nil))))) a_nil))))
    (ss_cons (s_set (i := 6) sc_s_law.nd (d_callF h__law_draw (hr.mono (by first | decide | omega)) (a_cons (d_var 1) (a_cons d_int a_nil))))
    (ss_cons (s_set (i := 7) sc_s_law.nd (d_ifExp (d_tcmp (od_eq hr) (d_var 3) d_int (nomark _)) (d_lst (a_cons (d_var 5) (a_cons (d_var 6) a_nil))) (d_ifExp (d_tcmp od_lt (d_var 3) d_int (nomark _)) (d_lst (a_cons (d_var 5) a_nil)) (d_lst a_nil))))
    (ss_cons (s_if (d_tcmp (od_ne hr) (d_callF h__law_caught (hr.mono (by first | decide | omega)) (a_cons (d_var 3) (a_cons (d_var 5) (a_cons (d_var 6) a_nil)))) (d_lst (a_cons (d_new (n_lc (own := [("_law_j", 8)]) rfl sc_s_law.nd (i_rng1 rfl T.z_range (a_cons d_int a_nil)) (blkOk_by (N := N_s_law) (sc := defScope s_law) (by decide +kernel)) (fun _ _ _ _ _ => (gw_name (i := 8) (by decide) sc_s_law.nd)) (fun _ _ _ _ _ => ts_nil) (fun _ _ _ _ _ => (d_cmp (od_eq hr) (d_var 8) (d_var 3) (nomark _))))) (a_cons (d_var 7) (a_cons d_bl a_nil)))) (nomark _))
    (ss_one (s_ret d_bl))
    ss_nil)
    (ss_one (s_if (d_tcmp (od_ne hr) (d_callF h__law_fields (hr.mono (by first | decide | omega)) (a_cons (d_var 3) (a_cons (d_callF h__law_named (hr.mono (by first | decide | omega)) (a_cons (d_var 3) (a_cons (d_var 5) (a_cons (d_var 6) a_nil)))) a_nil))) (d_var 7) (nomark _))
    (ss_one (s_ret d_bl))
    ss_nil)))))))))
    (ss_one (s_ret d_bl)))), fun ds M Q Ed h => ?_⟩
  · obtain ⟨ns, rfl, _⟩ := h
    rfl
  · obtain ⟨ns, rfl, h1, kq⟩ := h
    have e : startD N_s_law [.lstK (ns.map D.int)] = [.val (.lstK (ns.map D.int)), Sl.no, Sl.no, Sl.no, Sl.no, Sl.no, Sl.no, Sl.no, Sl.no] := rfl
    rw [e]
    walk_at "dl"
    refine ⟨ns, rfl, h1, fun p o hMp hpo => ?_⟩
    walk_at "a"
    obtain ⟨G, hG, hG0, hG6⟩ : ∃ G : Int, (6 + if ((ns.map D.int).length : Int) < 12 then ((ns.map D.int).length : Int) else 12) = G ∧ 0 ≤ G ∧ G ≤ 18 := ⟨_, rfl, by split <;> omega, by split <;> omega⟩
    rw [hG]
    refine ⟨⟨by omega, by omega⟩, ?_⟩
    refine forW_rng (fun i env M' => ∃ (o' : MO) (v2 v3 v4 v5 v6 v7 : Sl), env = [.val (.lstK (ns.map D.int)), .val (.ref p), v2, v3, v4, v5, v6, v7, .no] ∧ M' p = some o' ∧ PenO o' (i * 100)) _ 0 ?_ ?_ _ _ ⟨o, .no, .no, .no, .no, .no, .no, rfl, mset_same, by rw [Int.zero_mul]; exact hpo⟩
    · rintro env M' ⟨o1, v2, v3, v4, v5, v6, v7, rfl, hM1, g⟩
      walk_at "dl"
      exact kq _
    · rintro i R i1 i2 hR env M' ⟨o1, v2, v3, v4, v5, v6, v7, rfl, hM1, g⟩
      have hR2 : ∀ (o' : MO) (M' : Mem) (v2 v3 v4 v5 v6 v7 : Sl), M' p = some o' → PenO o' (i * 100 + 90) → R [.val (.lstK (ns.map D.int)), .val (.ref p), v2, v3, v4, v5, v6, v7, .no] M' := fun o' M' v2 v3 v4 v5 v6 v7 h2 h3 => hR _ _ ⟨o', v2, v3, v4, v5, v6, v7, rfl, h2, h3.mono (by omega)⟩
      clear hR
      obtain ⟨B, hB, hB1, hB2⟩ : ∃ B : Int, i * 100 = B ∧ 0 ≤ B ∧ B ≤ 1800 := ⟨_, rfl, by omega, by omega⟩
      rw [hB] at g hR2
      walk_at "dl"
      by_cases h6 : i < 6
      case' pos =>
        rw [decide_eq_true h6]
        obtain ⟨k, rfl⟩ := Int.eq_ofNat_of_zero_le i1
        have hk : k < 6 := by omega
        obtain ⟨o2, M2, eM, hM2, g2⟩ : ∃ o2 M2, M' = M2 ∧ M2 p = some o2 ∧ PenO o2 (B + 1) := ⟨o1, M', rfl, hM1, g.mono (by omega)⟩
        rw [eM]
        walk_at "a"
      case' neg =>
        rw [decide_eq_false h6]
        walk_at "dl"
        refine ⟨p, 6, _, o1, rfl, by decide, by decide, by omega, hM1, g, fun k o2 k1 k2 g2 => ?_⟩
        obtain ⟨k, rfl⟩ := Int.eq_ofNat_of_zero_le k1
        have hk : k < 6 := by omega
        obtain ⟨M2, eM⟩ : ∃ M2, mset M' p o2 = M2 := ⟨_, rfl⟩
        have hM2 : M2 p = some o2 := by rw [← eM]; exact mset_same
        rw [eM]
        walk_at "a"
      all_goals
        refine ⟨⟨by decide, by decide⟩, ?_⟩
        refine forW_rng (fun j env M' => ∃ (a jn : Nat) (o' : MO) (u2 u4 : Sl), j = (jn : Nat) ∧ a < 2 ^ (20 * jn) ∧ env = [.val (.lstK (ns.map D.int)), .val (.ref p), u2, .val (.int (k : Nat)), u4, .val (.int (a : Nat)), v6, v7, .no] ∧ M' p = some o' ∧ PenO o' (B + 1 + j)) _ 0 ?_ ?_ _ _ ⟨0, 0, o2, _, _, rfl, by decide, rfl, hM2, g2.mono (by omega)⟩
        case' _ =>
          rintro env M' ⟨a, jn, o3, u2, u4, hj, ha, rfl, hM3, g3⟩
          have hjn : jn = 7 := by omega
          subst hjn
          walk_at "a"
          refine ⟨p, .lst [.int (a : Nat), .int (0 - (a : Nat)), .str "parts", .tup [.str "look", .str "a", .int 3]], _, _, o3, rfl, rfl, by show 0 < 4; decide, by show 4 < 1000000; decide, ?_, hM3, g3, fun x o4 hx g4 => ?_⟩
          case' _ =>
            omega
          case' _ =>
            have px : plD x := by
              simp only [List.mem_cons, List.not_mem_nil, or_false] at hx
              rcases hx with rfl | rfl | rfl | rfl
              · exact plD_int _
              · exact plD_int _
              · exact ⟨by decide +kernel, by decide +kernel⟩
              · exact ⟨by decide +kernel, by decide +kernel⟩
            walk_at "dl"
            refine ⟨p, 1000003, _, o4, rfl, by decide, by decide, ?_, mset_same, g4, fun b o5 b1 b2 b3 => ?_⟩
            case' _ =>
              omega
            case' _ =>
              rw [mset_mset]
              have pb : plD (.int b) := plD_int _
              have hM5 : (mset M' p o5) p = some o5 := mset_same
              generalize mset M' p o5 = M5 at hM5 ⊢
              rcases six hk with rfl | rfl | rfl | rfl | rfl | rfl
              · walk_at "b"
                rw [decide_eq_true (show ((0 : Nat) : Int) = 0 from rfl)]
                walk_at "b"
                refine ⟨0, x, .int b, rfl, by decide, ?_⟩
                walk_at "b"
                refine ⟨⟨by decide, by decide⟩, rfl, ?_⟩
                rw [show ((6 : Int)).toNat = 6 from rfl, rngD_nat]
                refine lcW_mapL (f := fun j : Nat => D.int (j : Nat)) (g := fun j => D.bl (decide (j = 0))) (fun _ => True) (fun j R3 _ hR3 => ?_) (List.range 6) [] (fun _ _ => trivial) (by rw [sizeLine_eq]; decide) ?_
                · walk_at "a"
                  rw [show decide (((j : Nat) : Int) = ((0 : Nat) : Int)) = decide (j = 0) from decide_eq_decide.mpr (by omega)]
                  exact hR3 _ rfl
                rw [List.nil_append]
                walk_at "b"
                refine ⟨okEq_caught (k := 0) (by decide) px pb, okEq_caught (k := 0) (by decide) px pb, ?_⟩
                generalize hz : deq _ _ = z
                have ez : z = true := hz.symm.trans (deq_same (okEq_caught (k := 0) (by decide) px pb))
                subst ez
                walk_at "b"
                refine ⟨0, x, .int b, rfl, by decide, fun pe hpe => ?_⟩
                walk_at "b"
                refine ⟨0, x, .int b, pe, rfl, by decide, mset_same, ?_⟩
                walk_at "b"
                refine ⟨okEq_errF (k := 0) (by decide) px pb, okEq_errF (k := 0) (by decide) px pb, ?_⟩
                generalize hy : deq _ _ = y
                have ey : y = true := hy.symm.trans (deq_same (okEq_errF (k := 0) (by decide) px pb))
                subst ey
                walk_at "b"
                exact hR2 o5 _ _ _ _ _ _ _ (by rw [mset_ne (fun z => by rw [z, hpe] at hM5; cases hM5)]; exact hM5) (b3.mono (by omega))
              · walk_at "b"
                rw [decide_eq_false (show ¬ ((1 : Nat) : Int) = 0 by decide)]
                walk_at "b"
                rw [decide_eq_true (show ((1 : Nat) : Int) < 4 by decide)]
                walk_at "b"
                refine ⟨1, x, .int b, rfl, by decide, ?_⟩
                walk_at "b"
                refine ⟨⟨by decide, by decide⟩, rfl, ?_⟩
                rw [show ((6 : Int)).toNat = 6 from rfl, rngD_nat]
                refine lcW_mapL (f := fun j : Nat => D.int (j : Nat)) (g := fun j => D.bl (decide (j = 1))) (fun _ => True) (fun j R3 _ hR3 => ?_) (List.range 6) [] (fun _ _ => trivial) (by rw [sizeLine_eq]; decide) ?_
                · walk_at "a"
                  rw [show decide (((j : Nat) : Int) = ((1 : Nat) : Int)) = decide (j = 1) from decide_eq_decide.mpr (by omega)]
                  exact hR3 _ rfl
                rw [List.nil_append]
                walk_at "b"
                refine ⟨okEq_caught (k := 1) (by decide) px pb, okEq_caught (k := 1) (by decide) px pb, ?_⟩
                generalize hz : deq _ _ = z
                have ez : z = true := hz.symm.trans (deq_same (okEq_caught (k := 1) (by decide) px pb))
                subst ez
                walk_at "b"
                refine ⟨1, x, .int b, rfl, by decide, fun pe hpe => ?_⟩
                walk_at "b"
                refine ⟨1, x, .int b, pe, rfl, by decide, mset_same, ?_⟩
                walk_at "b"
                refine ⟨okEq_errF (k := 1) (by decide) px pb, okEq_errF (k := 1) (by decide) px pb, ?_⟩
                generalize hy : deq _ _ = y
                have ey : y = true := hy.symm.trans (deq_same (okEq_errF (k := 1) (by decide) px pb))
                subst ey
                walk_at "b"
                exact hR2 o5 _ _ _ _ _ _ _ (by rw [mset_ne (fun z => by rw [z, hpe] at hM5; cases hM5)]; exact hM5) (b3.mono (by omega))
              · walk_at "b"
                rw [decide_eq_false (show ¬ ((2 : Nat) : Int) = 0 by decide)]
                walk_at "b"
                rw [decide_eq_true (show ((2 : Nat) : Int) < 4 by decide)]
                walk_at "b"
                refine ⟨2, x, .int b, rfl, by decide, ?_⟩
                walk_at "b"
                refine ⟨⟨by decide, by decide⟩, rfl, ?_⟩
                rw [show ((6 : Int)).toNat = 6 from rfl, rngD_nat]
                refine lcW_mapL (f := fun j : Nat => D.int (j : Nat)) (g := fun j => D.bl (decide (j = 2))) (fun _ => True) (fun j R3 _ hR3 => ?_) (List.range 6) [] (fun _ _ => trivial) (by rw [sizeLine_eq]; decide) ?_
                · walk_at "a"
                  rw [show decide (((j : Nat) : Int) = ((2 : Nat) : Int)) = decide (j = 2) from decide_eq_decide.mpr (by omega)]
                  exact hR3 _ rfl
                rw [List.nil_append]
                walk_at "b"
                refine ⟨okEq_caught (k := 2) (by decide) px pb, okEq_caught (k := 2) (by decide) px pb, ?_⟩
                generalize hz : deq _ _ = z
                have ez : z = true := hz.symm.trans (deq_same (okEq_caught (k := 2) (by decide) px pb))
                subst ez
                walk_at "b"
                refine ⟨2, x, .int b, rfl, by decide, fun pe hpe => ?_⟩
                walk_at "b"
                refine ⟨2, x, .int b, pe, rfl, by decide, mset_same, ?_⟩
                walk_at "b"
                refine ⟨okEq_errF (k := 2) (by decide) px pb, okEq_errF (k := 2) (by decide) px pb, ?_⟩
                generalize hy : deq _ _ = y
                have ey : y = true := hy.symm.trans (deq_same (okEq_errF (k := 2) (by decide) px pb))
                subst ey
                walk_at "b"
                exact hR2 o5 _ _ _ _ _ _ _ (by rw [mset_ne (fun z => by rw [z, hpe] at hM5; cases hM5)]; exact hM5) (b3.mono (by omega))
              · walk_at "b"
                rw [decide_eq_false (show ¬ ((3 : Nat) : Int) = 0 by decide)]
                walk_at "b"
                rw [decide_eq_true (show ((3 : Nat) : Int) < 4 by decide)]
                walk_at "b"
                refine ⟨3, x, .int b, rfl, by decide, ?_⟩
                walk_at "b"
                refine ⟨⟨by decide, by decide⟩, rfl, ?_⟩
                rw [show ((6 : Int)).toNat = 6 from rfl, rngD_nat]
                refine lcW_mapL (f := fun j : Nat => D.int (j : Nat)) (g := fun j => D.bl (decide (j = 3))) (fun _ => True) (fun j R3 _ hR3 => ?_) (List.range 6) [] (fun _ _ => trivial) (by rw [sizeLine_eq]; decide) ?_
                · walk_at "a"
                  rw [show decide (((j : Nat) : Int) = ((3 : Nat) : Int)) = decide (j = 3) from decide_eq_decide.mpr (by omega)]
                  exact hR3 _ rfl
                rw [List.nil_append]
                walk_at "b"
                refine ⟨okEq_caught (k := 3) (by decide) px pb, okEq_caught (k := 3) (by decide) px pb, ?_⟩
                generalize hz : deq _ _ = z
                have ez : z = true := hz.symm.trans (deq_same (okEq_caught (k := 3) (by decide) px pb))
                subst ez
                walk_at "b"
                refine ⟨3, x, .int b, rfl, by decide, fun pe hpe => ?_⟩
                walk_at "b"
                refine ⟨3, x, .int b, pe, rfl, by decide, mset_same, ?_⟩
                walk_at "b"
                refine ⟨okEq_errF (k := 3) (by decide) px pb, okEq_errF (k := 3) (by decide) px pb, ?_⟩
                generalize hy : deq _ _ = y
                have ey : y = true := hy.symm.trans (deq_same (okEq_errF (k := 3) (by decide) px pb))
                subst ey
                walk_at "b"
                exact hR2 o5 _ _ _ _ _ _ _ (by rw [mset_ne (fun z => by rw [z, hpe] at hM5; cases hM5)]; exact hM5) (b3.mono (by omega))
              · walk_at "b"
                rw [decide_eq_false (show ¬ ((4 : Nat) : Int) = 0 by decide)]
                walk_at "b"
                rw [decide_eq_false (show ¬ ((4 : Nat) : Int) < 4 by decide)]
                walk_at "b"
                refine ⟨4, x, .int b, rfl, by decide, ?_⟩
                walk_at "b"
                refine ⟨⟨by decide, by decide⟩, rfl, ?_⟩
                rw [show ((6 : Int)).toNat = 6 from rfl, rngD_nat]
                refine lcW_mapL (f := fun j : Nat => D.int (j : Nat)) (g := fun j => D.bl (decide (j = 4))) (fun _ => True) (fun j R3 _ hR3 => ?_) (List.range 6) [] (fun _ _ => trivial) (by rw [sizeLine_eq]; decide) ?_
                · walk_at "a"
                  rw [show decide (((j : Nat) : Int) = ((4 : Nat) : Int)) = decide (j = 4) from decide_eq_decide.mpr (by omega)]
                  exact hR3 _ rfl
                rw [List.nil_append]
                walk_at "b"
                refine ⟨okEq_caught (k := 4) (by decide) px pb, okEq_caught (k := 4) (by decide) px pb, ?_⟩
                generalize hz : deq _ _ = z
                have ez : z = true := hz.symm.trans (deq_same (okEq_caught (k := 4) (by decide) px pb))
                subst ez
                walk_at "b"
                refine ⟨4, x, .int b, rfl, by decide, fun pe hpe => ?_⟩
                walk_at "b"
                refine ⟨4, x, .int b, pe, rfl, by decide, mset_same, ?_⟩
                walk_at "b"
                refine ⟨okEq_errF (k := 4) (by decide) px pb, okEq_errF (k := 4) (by decide) px pb, ?_⟩
                generalize hy : deq _ _ = y
                have ey : y = true := hy.symm.trans (deq_same (okEq_errF (k := 4) (by decide) px pb))
                subst ey
                walk_at "b"
                exact hR2 o5 _ _ _ _ _ _ _ (by rw [mset_ne (fun z => by rw [z, hpe] at hM5; cases hM5)]; exact hM5) (b3.mono (by omega))
              · walk_at "b"
                rw [decide_eq_false (show ¬ ((5 : Nat) : Int) = 0 by decide)]
                walk_at "b"
                rw [decide_eq_false (show ¬ ((5 : Nat) : Int) < 4 by decide)]
                walk_at "b"
                refine ⟨5, x, .int b, rfl, by decide, ?_⟩
                walk_at "b"
                refine ⟨⟨by decide, by decide⟩, rfl, ?_⟩
                rw [show ((6 : Int)).toNat = 6 from rfl, rngD_nat]
                refine lcW_mapL (f := fun j : Nat => D.int (j : Nat)) (g := fun j => D.bl (decide (j = 5))) (fun _ => True) (fun j R3 _ hR3 => ?_) (List.range 6) [] (fun _ _ => trivial) (by rw [sizeLine_eq]; decide) ?_
                · walk_at "a"
                  rw [show decide (((j : Nat) : Int) = ((5 : Nat) : Int)) = decide (j = 5) from decide_eq_decide.mpr (by omega)]
                  exact hR3 _ rfl
                rw [List.nil_append]
                walk_at "b"
                refine ⟨okEq_caught (k := 5) (by decide) px pb, okEq_caught (k := 5) (by decide) px pb, ?_⟩
                generalize hz : deq _ _ = z
                have ez : z = true := hz.symm.trans (deq_same (okEq_caught (k := 5) (by decide) px pb))
                subst ez
                walk_at "b"
                refine ⟨5, x, .int b, rfl, by decide, fun pe hpe => ?_⟩
                walk_at "b"
                refine ⟨5, x, .int b, pe, rfl, by decide, mset_same, ?_⟩
                walk_at "b"
                refine ⟨okEq_errF (k := 5) (by decide) px pb, okEq_errF (k := 5) (by decide) px pb, ?_⟩
                generalize hy : deq _ _ = y
                have ey : y = true := hy.symm.trans (deq_same (okEq_errF (k := 5) (by decide) px pb))
                subst ey
                walk_at "b"
                exact hR2 o5 _ _ _ _ _ _ _ (by rw [mset_ne (fun z => by rw [z, hpe] at hM5; cases hM5)]; exact hM5) (b3.mono (by omega))
        case' _ =>
          rintro j R3 j1 j2 hR3 env M' ⟨a, jn, o3, u2, u4, rfl, ha, rfl, hM3, g3⟩
          walk_at "dl"
          refine ⟨mulW (small_a (by omega) ha) (by decide), ?_⟩
          walk_at "dl"
          refine ⟨p, 1000003, _, o3, rfl, by decide, by decide, by omega, hM3, g3, fun d o4 d1 d2 d3 => ?_⟩
          obtain ⟨d, rfl⟩ := Int.eq_ofNat_of_zero_le d1
          walk_at "dl"
          exact hR3 _ _ ⟨a * 1000003 + d, jn + 1, o4, _, _, by omega, grow_a ha (by omega), by rw [show ((a * 1000003 + d : Nat) : Int) = (a : Int) * 1000003 + (d : Int) from by omega]; all_goals rfl, mset_same, d3.mono (by omega)⟩


end
set_option maxHeartbeats 0
theorem run (w : World) : HandSHeadRun.RunEq R (PySem.W.view R.prog [17]) hk ob 20000 loose w := PySem.W.byRow2 "special-get-raises" (P := fun w => HandSHeadRun.RunEq R (PySem.W.view R.prog [17]) hk ob 20000 loose w) run0 run1 w
theorem facts {w : World} {K : PySem.W.Frag} {h : Heap} {mg : Str → Option Value} {f : Addr} (X : K.In h) (G : h.Ns mainGlobals mg) (hfa : mg ("law" : Str) = some (.ref f)) (c1 : SaysP fa fa2 fn sn ex cs ts w K) :
    ∃ fd : FuncData, (∀ (s : Shared) (v : Value), BindsTo s fd ⟨[v], []⟩ [("_law_script", v)]) ∧ ∀ base : Heap, K.In base → base.Ns mainGlobals mg → FnOk PySem.Challenge.pw_waystaken_k01_errors w K mg base CX0 10 f fd ["_law_script"] (LSp K spTrue) := by
  have c0 := c1.z
  have c := c1.y
  have cd := c.d
  obtain ⟨cm1, cm2⟩ := He.ba (show ((snw.all fun d => supB PySem.Challenge.pw_waystaken_k01_errors.main.file K d && baseB K (He.ga K d.at_.1) (way0 K)) && (exB PySem.Challenge.pw_waystaken_k01_errors.main.file K d_BadText___init__ ["line", "place"] && (exmB K "BadText" "BadText" && (kitB K "BadText" "WayError" && (exB PySem.Challenge.pw_waystaken_k01_errors.main.file K d_BadName___init__ ["name"] && (exmB K "BadName" "BadName" && (kitB K "BadName" "WayError" && (exB PySem.Challenge.pw_waystaken_k01_errors.main.file K d_TooMany___init__ ["what"] && (exmB K "TooMany" "TooMany" && (kitB K "TooMany" "WayError" && (exB PySem.Challenge.pw_waystaken_k01_errors.main.file K d_NotKept___init__ ["guard"] && (exmB K "NotKept" "NotKept" && (kitB K "NotKept" "WayError" && (exB PySem.Challenge.pw_waystaken_k01_errors.main.file K d_NothingLeft___init__ [] && (exmB K "NothingLeft" "NothingLeft" && (kitB K "NothingLeft" "WayError" && (exB PySem.Challenge.pw_waystaken_k01_errors.main.file K d_Busy___init__ [] && (exmB K "Busy" "Busy" && (kitB K "Busy" "WayError" && (ecB K && (true))))))))))))))))))))) = true from c.more)
  obtain ⟨c_x_BadText, cm2⟩ := He.ba cm2
  obtain ⟨c_e_BadText, cm2⟩ := He.ba cm2
  obtain ⟨c_k_BadText, cm2⟩ := He.ba cm2
  obtain ⟨c_x_BadName, cm2⟩ := He.ba cm2
  obtain ⟨c_e_BadName, cm2⟩ := He.ba cm2
  obtain ⟨c_k_BadName, cm2⟩ := He.ba cm2
  obtain ⟨c_x_TooMany, cm2⟩ := He.ba cm2
  obtain ⟨c_e_TooMany, cm2⟩ := He.ba cm2
  obtain ⟨c_k_TooMany, cm2⟩ := He.ba cm2
  obtain ⟨c_x_NotKept, cm2⟩ := He.ba cm2
  obtain ⟨c_e_NotKept, cm2⟩ := He.ba cm2
  obtain ⟨c_k_NotKept, cm2⟩ := He.ba cm2
  obtain ⟨c_x_NothingLeft, cm2⟩ := He.ba cm2
  obtain ⟨c_e_NothingLeft, cm2⟩ := He.ba cm2
  obtain ⟨c_k_NothingLeft, cm2⟩ := He.ba cm2
  obtain ⟨c_x_Busy, cm2⟩ := He.ba cm2
  obtain ⟨c_e_Busy, cm2⟩ := He.ba cm2
  obtain ⟨c_k_Busy, cm2⟩ := He.ba cm2
  obtain ⟨c_ec, cm2⟩ := He.ba cm2
  have T : TxtP mg := ⟨He.free_ok X G (cd.fact 9 (f := .free "len") rfl), He.free_ok X G (cd.fact 10 (f := .free "int") rfl), He.free_ok X G (cd.fact 11 (f := .free "list") rfl), He.free_ok X G (cd.fact 12 (f := .free "range") rfl), He.free_ok X G (cd.fact 13 (f := .free "min") rfl), He.free_ok X G (cd.fact 14 (f := .free "max") rfl), He.free_ok X G (cd.fact 15 (f := .free "sum") rfl), He.free_ok X G (cd.fact 16 (f := .free "isinstance") rfl), He.free_ok X G (cd.fact 17 (f := .free "tuple") rfl), He.free_ok X G (cd.fact 18 (f := .free "set") rfl), He.free_ok X G (cd.fact 19 (f := .free "sorted") rfl), He.free_ok X G (cd.fact 20 (f := .free "str") rfl), He.free_ok X G (cd.fact 21 (f := .free "enumerate") rfl), He.free_ok X G (cd.fact 22 (f := .free "reversed") rfl), He.free_ok X G (cd.fact 23 (f := .free "all") rfl), He.free_ok X G (cd.fact 24 (f := .free "any") rfl), He.free_ok X G (cd.fact 25 (f := .free "divmod") rfl), He.free_ok X G (cd.fact 26 (f := .free "dict") rfl), He.free_ok X G (cd.fact 27 (f := .free "super") rfl), He.free_ok X G (cd.fact 28 (f := .free "iter") rfl), He.free_ok X G (cd.fact 29 (f := .free "zip") rfl), He.free_ok X G (cd.fact 30 (f := .free "bool") rfl), He.free_ok X G (cd.fact 31 (f := .free "abs") rfl), He.free_ok X G (cd.fact 32 (f := .free "type") rfl)⟩
  obtain ⟨fd0, F0⟩ := cd.def_ 0 (d := d__law_pen) rfl
  have D__law_pen : DefAt K mg "_law_pen" ["_law_script"] s__law_pen := ⟨⟨_, fd0, F0, He.glo_ok X G (cd.fact 0 (f := .glo "_law_pen") rfl), F0.kp, F0.bindsN fun _ _ _ _ _ _ us hl => match us, hl with | [_], _ => rfl⟩⟩
  obtain ⟨fd1, F1⟩ := cd.def_ 1 (d := d__law_draw) rfl
  have D__law_draw : DefAt K mg "_law_draw" ["_law_pen_here", "_law_many"] s__law_draw := ⟨⟨_, fd1, F1, He.glo_ok X G (cd.fact 1 (f := .glo "_law_draw") rfl), F1.kp, F1.bindsN fun _ _ _ _ _ _ us hl => match us, hl with | [_, _], _ => rfl⟩⟩
  obtain ⟨fd2, F2⟩ := cd.def_ 2 (d := d__law_pick) rfl
  have D__law_pick : DefAt K mg "_law_pick" ["_law_pen_here", "_law_items"] s__law_pick := ⟨⟨_, fd2, F2, He.glo_ok X G (cd.fact 2 (f := .glo "_law_pick") rfl), F2.kp, F2.bindsN fun _ _ _ _ _ _ us hl => match us, hl with | [_, _], _ => rfl⟩⟩
  obtain ⟨fd3, F3⟩ := cd.def_ 3 (d := d__law_raise) rfl
  have D__law_raise : DefAt K mg "_law_raise" ["_law_k", "_law_a", "_law_b"] s__law_raise := ⟨⟨_, fd3, F3, He.glo_ok X G (cd.fact 3 (f := .glo "_law_raise") rfl), F3.kp, F3.bindsN fun _ _ _ _ _ _ us hl => match us, hl with | [_, _, _], _ => rfl⟩⟩
  obtain ⟨fd4, F4⟩ := cd.def_ 4 (d := d__law_named) rfl
  have D__law_named : DefAt K mg "_law_named" ["_law_k", "_law_a", "_law_b"] s__law_named := ⟨⟨_, fd4, F4, He.glo_ok X G (cd.fact 4 (f := .glo "_law_named") rfl), F4.kp, F4.bindsN fun _ _ _ _ _ _ us hl => match us, hl with | [_, _, _], _ => rfl⟩⟩
  obtain ⟨fd5, F5⟩ := cd.def_ 5 (d := d__law_kinds) rfl
  have D__law_kinds : DefAt K mg "_law_kinds" ["_law_e"] s__law_kinds := ⟨⟨_, fd5, F5, He.glo_ok X G (cd.fact 5 (f := .glo "_law_kinds") rfl), F5.kp, F5.bindsN fun _ _ _ _ _ _ us hl => match us, hl with | [_], _ => rfl⟩⟩
  obtain ⟨fd6, F6⟩ := cd.def_ 6 (d := d__law_fields) rfl
  have D__law_fields : DefAt K mg "_law_fields" ["_law_k", "_law_e"] s__law_fields := ⟨⟨_, fd6, F6, He.glo_ok X G (cd.fact 6 (f := .glo "_law_fields") rfl), F6.kp, F6.bindsN fun _ _ _ _ _ _ us hl => match us, hl with | [_, _], _ => rfl⟩⟩
  obtain ⟨fd7, F7⟩ := cd.def_ 7 (d := d__law_caught) rfl
  have D__law_caught : DefAt K mg "_law_caught" ["_law_k", "_law_a", "_law_b"] s__law_caught := ⟨⟨_, fd7, F7, He.glo_ok X G (cd.fact 7 (f := .glo "_law_caught") rfl), F7.kp, F7.bindsN fun _ _ _ _ _ _ us hl => match us, hl with | [_, _, _], _ => rfl⟩⟩
  obtain ⟨fd8, F8⟩ := cd.def_ 8 (d := d_law) rfl
  have X_BadText : ExFac PySem.Challenge.pw_waystaken_k01_errors K (He.ga K "BadText") "__init__" "BadText.__init__" ["self", "line", "place"] s_BadText___init__ (He.fAd K d_BadText___init__.at_) ["line", "place"] := exFac_of (P := PySem.Challenge.pw_waystaken_k01_errors) (d := d_BadText___init__) (c.sup 0 (d := d_BadText___init__) rfl) c_x_BadText (by rfl) rfl rfl rfl fun _ _ _ _ _ _ _ us hl => match us, hl with | [_, _, _], _ => rfl
  have X_BadName : ExFac PySem.Challenge.pw_waystaken_k01_errors K (He.ga K "BadName") "__init__" "BadName.__init__" ["self", "name"] s_BadName___init__ (He.fAd K d_BadName___init__.at_) ["name"] := exFac_of (P := PySem.Challenge.pw_waystaken_k01_errors) (d := d_BadName___init__) (c.sup 1 (d := d_BadName___init__) rfl) c_x_BadName (by rfl) rfl rfl rfl fun _ _ _ _ _ _ _ us hl => match us, hl with | [_, _], _ => rfl
  have X_TooMany : ExFac PySem.Challenge.pw_waystaken_k01_errors K (He.ga K "TooMany") "__init__" "TooMany.__init__" ["self", "what"] s_TooMany___init__ (He.fAd K d_TooMany___init__.at_) ["what"] := exFac_of (P := PySem.Challenge.pw_waystaken_k01_errors) (d := d_TooMany___init__) (c.sup 2 (d := d_TooMany___init__) rfl) c_x_TooMany (by rfl) rfl rfl rfl fun _ _ _ _ _ _ _ us hl => match us, hl with | [_, _], _ => rfl
  have X_NotKept : ExFac PySem.Challenge.pw_waystaken_k01_errors K (He.ga K "NotKept") "__init__" "NotKept.__init__" ["self", "guard"] s_NotKept___init__ (He.fAd K d_NotKept___init__.at_) ["guard"] := exFac_of (P := PySem.Challenge.pw_waystaken_k01_errors) (d := d_NotKept___init__) (c.sup 3 (d := d_NotKept___init__) rfl) c_x_NotKept (by rfl) rfl rfl rfl fun _ _ _ _ _ _ _ us hl => match us, hl with | [_, _], _ => rfl
  have X_NothingLeft : ExFac PySem.Challenge.pw_waystaken_k01_errors K (He.ga K "NothingLeft") "__init__" "NothingLeft.__init__" ["self"] s_NothingLeft___init__ (He.fAd K d_NothingLeft___init__.at_) [] := exFac_of (P := PySem.Challenge.pw_waystaken_k01_errors) (d := d_NothingLeft___init__) (c.sup 4 (d := d_NothingLeft___init__) rfl) c_x_NothingLeft (by rfl) rfl rfl rfl fun _ _ _ _ _ _ _ us hl => match us, hl with | [_], _ => rfl
  have X_Busy : ExFac PySem.Challenge.pw_waystaken_k01_errors K (He.ga K "Busy") "__init__" "Busy.__init__" ["self"] s_Busy___init__ (He.fAd K d_Busy___init__.at_) [] := exFac_of (P := PySem.Challenge.pw_waystaken_k01_errors) (d := d_Busy___init__) (c.sup 5 (d := d_Busy___init__) rfl) c_x_Busy (by rfl) rfl rfl rfl fun _ _ _ _ _ _ _ us hl => match us, hl with | [_], _ => rfl
  have e := hfa.symm.trans (He.glo_ok X G (cd.fact 8 (f := .glo "law") rfl))
  cases e
  have b := FunD.bindsA (ps := ["_law_script"]) F8 fun _ _ _ _ _ _ us hl => match us, hl with | [_], _ => rfl
  refine ⟨fd8, fun s v => b s [v] rfl, fun base _ _ => ?_⟩
  have f_draw := ok_draw (P := PySem.Challenge.pw_waystaken_k01_errors) (w := w) (base := base) T D__law_draw
  have f_pen := ok_pen (P := PySem.Challenge.pw_waystaken_k01_errors) (w := w) (base := base) T D__law_pen
  have f_pick := ok_pick T f_draw D__law_pick
  have x_BadText : ExCl PySem.Challenge.pw_waystaken_k01_errors w K mg base 2 "BadText" (He.ga K "BadText") ["line", "place"] := (ExCl.of X_BadText.at_ (He.glo_ok X G (cd.fact 33 (f := .glo "BadText") rfl)) X_BadText.init X_BadText.ty (ok_BadText_init T X_BadText.at_ (X_BadText.no _ (by simp)) (X_BadText.no _ (by simp)))).mono (by decide)
  have y_BadText := SupXAtQ.of (d := d_BadText___init__) (ks := ["place", "line"]) (p := [1, 0]) X_BadText (c.sup 0 (d := d_BadText___init__) rfl) c_x_BadText rfl rfl rfl fun _ _ _ _ _ _ _ us ws h1 h2 => match us, ws, h1, h2 with | [_], [_, _], _, _ => rfl
  have q_BadText : ExClQ PySem.Challenge.pw_waystaken_k01_errors w K mg base 2 "BadText" (He.ga K "BadText") ["line", "place"] ["place", "line"] [1, 0] := ExClQ.of y_BadText (He.glo_ok X G (cd.fact 33 (f := .glo "BadText") rfl)) X_BadText.init X_BadText.ty (fun G Sk => ok_BadText_q T (X_BadText.no _ (by simp)) (X_BadText.no _ (by simp)) G Sk) (by decide : 1 ≤ 2)
  have x_BadName : ExCl PySem.Challenge.pw_waystaken_k01_errors w K mg base 2 "BadName" (He.ga K "BadName") ["name"] := (ExCl.of X_BadName.at_ (He.glo_ok X G (cd.fact 34 (f := .glo "BadName") rfl)) X_BadName.init X_BadName.ty (ok_BadName_init T X_BadName.at_ (X_BadName.no _ (by simp)))).mono (by decide)
  have y_BadName := SupXAtQ.of (d := d_BadName___init__) (ks := ["name"]) (p := [0]) X_BadName (c.sup 1 (d := d_BadName___init__) rfl) c_x_BadName rfl rfl rfl fun _ _ _ _ _ _ _ us ws h1 h2 => match us, ws, h1, h2 with | [_], [_], _, _ => rfl
  have q_BadName : ExClQ PySem.Challenge.pw_waystaken_k01_errors w K mg base 2 "BadName" (He.ga K "BadName") ["name"] ["name"] [0] := ExClQ.of y_BadName (He.glo_ok X G (cd.fact 34 (f := .glo "BadName") rfl)) X_BadName.init X_BadName.ty (fun G Sk => ok_BadName_q T (X_BadName.no _ (by simp)) G Sk) (by decide : 1 ≤ 2)
  have x_TooMany : ExCl PySem.Challenge.pw_waystaken_k01_errors w K mg base 2 "TooMany" (He.ga K "TooMany") ["what"] := (ExCl.of X_TooMany.at_ (He.glo_ok X G (cd.fact 35 (f := .glo "TooMany") rfl)) X_TooMany.init X_TooMany.ty (ok_TooMany_init T X_TooMany.at_ (X_TooMany.no _ (by simp)))).mono (by decide)
  have y_TooMany := SupXAtQ.of (d := d_TooMany___init__) (ks := ["what"]) (p := [0]) X_TooMany (c.sup 2 (d := d_TooMany___init__) rfl) c_x_TooMany rfl rfl rfl fun _ _ _ _ _ _ _ us ws h1 h2 => match us, ws, h1, h2 with | [_], [_], _, _ => rfl
  have q_TooMany : ExClQ PySem.Challenge.pw_waystaken_k01_errors w K mg base 2 "TooMany" (He.ga K "TooMany") ["what"] ["what"] [0] := ExClQ.of y_TooMany (He.glo_ok X G (cd.fact 35 (f := .glo "TooMany") rfl)) X_TooMany.init X_TooMany.ty (fun G Sk => ok_TooMany_q T (X_TooMany.no _ (by simp)) G Sk) (by decide : 1 ≤ 2)
  have x_NotKept : ExCl PySem.Challenge.pw_waystaken_k01_errors w K mg base 2 "NotKept" (He.ga K "NotKept") ["guard"] := (ExCl.of X_NotKept.at_ (He.glo_ok X G (cd.fact 36 (f := .glo "NotKept") rfl)) X_NotKept.init X_NotKept.ty (ok_NotKept_init T X_NotKept.at_ (X_NotKept.no _ (by simp)))).mono (by decide)
  have y_NotKept := SupXAtQ.of (d := d_NotKept___init__) (ks := ["guard"]) (p := [0]) X_NotKept (c.sup 3 (d := d_NotKept___init__) rfl) c_x_NotKept rfl rfl rfl fun _ _ _ _ _ _ _ us ws h1 h2 => match us, ws, h1, h2 with | [_], [_], _, _ => rfl
  have q_NotKept : ExClQ PySem.Challenge.pw_waystaken_k01_errors w K mg base 2 "NotKept" (He.ga K "NotKept") ["guard"] ["guard"] [0] := ExClQ.of y_NotKept (He.glo_ok X G (cd.fact 36 (f := .glo "NotKept") rfl)) X_NotKept.init X_NotKept.ty (fun G Sk => ok_NotKept_q T (X_NotKept.no _ (by simp)) G Sk) (by decide : 1 ≤ 2)
  have x_NothingLeft : ExCl0 PySem.Challenge.pw_waystaken_k01_errors w K mg base 2 "NothingLeft" (He.ga K "NothingLeft") := ExCl0.ofK X_NothingLeft.at_ (He.glo_ok X G (cd.fact 37 (f := .glo "NothingLeft") rfl)) X_NothingLeft.init X_NothingLeft.ty (ok_NothingLeft_init T X_NothingLeft.at_) (by decide : 1 ≤ 2)
  have x_Busy : ExCl0 PySem.Challenge.pw_waystaken_k01_errors w K mg base 2 "Busy" (He.ga K "Busy") := ExCl0.ofK X_Busy.at_ (He.glo_ok X G (cd.fact 38 (f := .glo "Busy") rfl)) X_Busy.init X_Busy.ty (ok_Busy_init T X_Busy.at_) (by decide : 1 ≤ 2)
  obtain ⟨e1, e2, e3⟩ := ecB_ok c_ec
  have okE : ECOk K (ecK K) (He.ga K "WayError") := ⟨fun k hk => by
    rcases six hk with rfl | rfl | rfl | rfl | rfl | rfl
    · exact X_BadText.xi
    · exact X_BadName.xi
    · exact X_TooMany.xi
    · exact X_NotKept.xi
    · exact X_NothingLeft.xi
    · exact X_Busy.xi, e1, e2, e3, ⟨X_BadText.xf, X_BadText.no _ (by simp)⟩, ⟨X_BadText.xf, X_BadText.no _ (by simp)⟩, ⟨X_BadName.xf, X_BadName.no _ (by simp)⟩, ⟨X_TooMany.xf, X_TooMany.no _ (by simp)⟩, ⟨X_NotKept.xf, X_NotKept.no _ (by simp)⟩⟩
  have f_raise := ok_lraise T (ecK K) x_BadText x_BadName x_TooMany x_NotKept x_NothingLeft x_Busy D__law_raise
  have f_named := ok_lnamed T (ecK K) q_BadText q_BadName q_TooMany q_NotKept x_NothingLeft x_Busy D__law_named
  have f_kinds := ok_lkinds (P := PySem.Challenge.pw_waystaken_k01_errors) (w := w) (base := base) T (ecK K) okE (He.glo_ok X G (cd.fact 33 (f := .glo "BadText") rfl)) (He.glo_ok X G (cd.fact 34 (f := .glo "BadName") rfl)) (He.glo_ok X G (cd.fact 35 (f := .glo "TooMany") rfl)) (He.glo_ok X G (cd.fact 36 (f := .glo "NotKept") rfl)) (He.glo_ok X G (cd.fact 37 (f := .glo "NothingLeft") rfl)) (He.glo_ok X G (cd.fact 38 (f := .glo "Busy") rfl)) D__law_kinds
  have f_fz := ok_lfieldsZ (P := PySem.Challenge.pw_waystaken_k01_errors) (w := w) (base := base) T (ecK K) okE D__law_fields
  have f_fv := ok_lfieldsV (P := PySem.Challenge.pw_waystaken_k01_errors) (w := w) (base := base) T (ecK K) okE D__law_fields
  have f_caught := ok_lcaught T (ecK K) okE (He.free_ok X G (cd.fact 40 (f := .free "ValueError") rfl)) ⟨He.glo_ok X G (cd.fact 39 (f := .glo "WayError") rfl)⟩ f_raise f_kinds f_fz D__law_caught
  exact ok_law T (ecK K) f_draw f_pen f_pick f_caught f_named f_fv F8

end K01
open PySem PySem.W PySem.Calls PyProof.Rows
theorem PySem.Challenge.cw_waystaken_k01_errors_holds : PySem.Challenge.rw_waystaken_k01_errors.Holds := by
  w_on; o_law
  refine HandSHeadRun.head_any (r := OpenLaw.row PySem.Challenge.rw_waystaken_k01_errors) (q := view (OpenLaw.row PySem.Challenge.rw_waystaken_k01_errors).prog [17]) (H := K01.hk) (ob := K01.ob) (M := 20000) (loose := K01.loose) (d := HandSHeadRun.topDef (OpenLaw.row PySem.Challenge.rw_waystaken_k01_errors).prog 17) (kwd := []) K01.ob_eq
    (by kernel_rfl) (fun s => by kernel_rfl) K01.run (by kernel_rfl) (by kernel_rfl) (by kernel_rfl) (by rfl) (by first | assumption | decide +kernel) (by decide +kernel) ⟨rfl, rfl, rfl, rfl, rfl, by decide +kernel⟩ ?hw ?hc
  case hw => w_witness2
  case hc =>
    refine L2.walk_ofE (l := PySem.Challenge.rw_waystaken_k01_errors) (n := 63) (k := 10) (x := "_law_script") (CX := L2.CX0) rfl (by decide) (by kernel_rfl) ⟨rfl, by decide, by decide⟩ ?F (fun _ _ _ _ z => z)
    intro w mg fa h Y G hmg0
    obtain ⟨K, KX, c⟩ := Y
    have hmg : mg ("law" : PySem.Str) = some (.ref fa) := by
      have e : (HandSHeadRun.topDef (OpenLaw.row PySem.Challenge.rw_waystaken_k01_errors).prog 17).name = ("law" : PySem.Str) := by kernel_rfl
      rw [← e]
      exact hmg0
    obtain ⟨fd, hb, hF⟩ := K01.facts (w := w) KX G hmg c
    exact ⟨K, fd, DL.LSp K DL.spTrue, KX, hb, fun H a ns hl _ hS => DL.law_start hl hS (fun _ => rfl), hF⟩
