import PyProof.Rows.All
import Wide.All
import OpenK.AllK
import Wide.FinOn
import KE.KStateDown
import Lean
import HandS.ForMost
import HandS.WordsExc
import HandS.Defaults
import HandS.Style
import HandS.Wide
import HandS.IsInst
import HandS.NestedK
import HandS.ClsMeth
import KE.KSuper
import KE.GoesMore
import HandS.Star
import HandS.Head0
import HandS.Head1
import HandS.Head2
import HandS.HeadEnd
import HandS.HeadHook1
import HandS.HeadHook2
import HandS.OwnEq
import OpenK.KOps
import HandS.TupAny
import HandS.Deep
import HandS.TupLe
import KE.KCallOwn
import HandS.FStr
import HandS.WrittenGet
import HandS.HeadHook3
import HandS.TryMany
import HandS.ExcField
import HandS.ExcIs
import HandS.ExcInit
import HandS.CallSlots
import HandS.ExcSuper
import KE.KExcIs
import HandS.SetFor
import HandS.SortInts
import HandS.Strs
import HandS.More
import HandS.Text
import HandS.HeadNt
import PyProof.NeKinds
import PySem.Challenge.RW_waystaken_k05_wrong_texts_of_ways
set_option Elab.async false
set_option linter.all false
set_option maxRecDepth 100000
set_option maxHeartbeats 1000000
namespace DL
open PySem PySem.Spec PyProof.Rows L2

/-- a value as a tree; ref: a thing that is known by its address alone -/
inductive D where
  | non | bl (b : Bool) | int (i : Int) | str (s : Str) | ref (a : Addr) | ty (n : String)
  | tup (ds : List D) | lst (ds : List D) | lstK (ds : List D) | obj (C : Addr) (ns : List Str) (ds : List D)

mutual
def Rep (K : PySem.W.Frag) (S : Hp) : D → V → Prop
  | .non, v => v = .non
  | .bl b, v => v = .bl b
  | .int i, v => v = .int i
  | .str s, v => v = .str s
  | .ref a, v => v = .ref a
  | .ty n, v => v = .ty n
  | .tup ds, v => ∃ a xs, v = .ref a ∧ SqT K S a xs ∧ Reps K S ds xs
  | .lst ds, v => ∃ a xs, v = .ref a ∧ S a = some (.lst xs) ∧ Reps K S ds xs
  | .lstK ds, v => ∃ a xs, v = .ref a ∧ SqL K S a xs ∧ Reps K S ds xs
  | .obj C ns ds, v => ∃ a dx xs, v = .ref a ∧ S a = some (.ins C dx (ns.zip xs)) ∧ xs.length = ns.length ∧ Reps K S ds xs
def Reps (K : PySem.W.Frag) (S : Hp) : List D → List V → Prop
  | [], [] => True
  | d :: ds, v :: vs => Rep K S d v ∧ Reps K S ds vs
  | _, _ => False
end
theorem Same.tup {K : PySem.W.Frag} {H H' : Hp} {a : Addr} {xs : List V} (e : Same H H') (h : SqT K H a xs) : SqT K H' a xs := by
  rcases h with (h | ⟨o, h⟩) | h
  · exact .inl (.inl (e _ _ h))
  · exact .inl (.inr ⟨o, e _ _ h⟩)
  · exact .inr h

end DL
namespace DL
open PySem PySem.Spec PyProof.Rows L2

section
variable {K : PySem.W.Frag} {S S' : Hp}
mutual
theorem Rep.mono (e : Same S S') : ∀ {d : D} {v : V}, Rep K S d v → Rep K S' d v
  | .non, _, h => h
  | .bl _, _, h => h
  | .int _, _, h => h
  | .str _, _, h => h
  | .ref _, _, h => h
  | .ty _, _, h => h
  | .tup ds, v, h => by
    obtain ⟨a, xs, r, q, t⟩ := h
    exact ⟨a, xs, r, Same.tup e q, Reps.mono e t⟩
  | .lst ds, v, h => by
    obtain ⟨a, xs, r, q, t⟩ := h
    exact ⟨a, xs, r, e _ _ q, Reps.mono e t⟩
  | .lstK ds, v, h => by
    obtain ⟨a, xs, r, q, t⟩ := h
    exact ⟨a, xs, r, L2.Same.seq e q, Reps.mono e t⟩
  | .obj C ns ds, v, h => by
    obtain ⟨a, dx, xs, r, q, l, t⟩ := h
    exact ⟨a, dx, xs, r, e _ _ q, l, Reps.mono e t⟩
theorem Reps.mono (e : Same S S') : ∀ {ds : List D} {vs : List V}, Reps K S ds vs → Reps K S' ds vs
  | [], [], _ => trivial
  | d :: ds, v :: vs, h => ⟨Rep.mono e h.1, Reps.mono e h.2⟩
  | [], _ :: _, h => h
  | _ :: _, [], h => h
end
theorem Reps.length : ∀ {ds : List D} {vs : List V}, Reps K S ds vs → ds.length = vs.length
  | [], [], _ => rfl
  | _ :: _, _ :: _, h => congrArg Nat.succ (Reps.length h.2)
  | [], _ :: _, h => h.elim
  | _ :: _, [], h => h.elim
theorem Reps.drop : ∀ {ds : List D} {vs : List V} (n : Nat), Reps K S ds vs → Reps K S (ds.drop n) (vs.drop n)
  | _, _, 0, h => by rw [List.drop_zero, List.drop_zero]; exact h
  | [], [], n + 1, _ => trivial
  | _ :: _, _ :: _, n + 1, h => Reps.drop n h.2
  | [], _ :: _, _ + 1, h => h.elim
  | _ :: _, [], _ + 1, h => h.elim
theorem Reps.get : ∀ {ds : List D} {vs : List V} {i : Nat} {d : D}, Reps K S ds vs → ds[i]? = some d → ∃ v, vs[i]? = some v ∧ Rep K S d v
  | [], [], _, _, _, e => by simp at e
  | _ :: _, v :: _, 0, _, h, e => by
    simp at e
    subst e
    exact ⟨v, rfl, h.1⟩
  | _ :: _, _ :: _, i + 1, _, h, e => by
    obtain ⟨v, e1, r⟩ := Reps.get (i := i) h.2 (by simpa using e)
    exact ⟨v, by simpa using e1, r⟩
  | [], _ :: _, _, _, h, _ => h.elim
  | _ :: _, [], _, _, h, _ => h.elim
theorem Reps.set : ∀ {ds : List D} {vs : List V} {d : D} {v : V} (i : Nat), Reps K S ds vs → Rep K S d v → Reps K S (ds.set i d) (vs.set i v)
  | [], [], _, _, _, _, _ => trivial
  | _ :: _, _ :: _, _, _, 0, h, r => ⟨r, h.2⟩
  | _ :: _, _ :: _, _, _, i + 1, h, r => ⟨h.1, Reps.set i h.2 r⟩
  | [], _ :: _, _, _, _, h, _ => h.elim
  | _ :: _, [], _, _, _, h, _ => h.elim
theorem Reps.one {d : D} {vs : List V} (h : Reps K S [d] vs) : ∃ v, vs = [v] ∧ Rep K S d v := by
  cases vs with
  | nil => exact h.elim
  | cons v r =>
    cases r with
    | nil => exact ⟨v, rfl, h.1⟩
    | cons _ _ => exact h.2.elim
theorem Reps.two {d e : D} {vs : List V} (h : Reps K S [d, e] vs) : ∃ v u, vs = [v, u] ∧ Rep K S d v ∧ Rep K S e u := by
  cases vs with
  | nil => exact h.elim
  | cons v r =>
    obtain ⟨u, rfl, q⟩ := Reps.one h.2
    exact ⟨v, u, rfl, h.1, q⟩
theorem Reps.cons_inv {d : D} {ds : List D} {vs : List V} (h : Reps K S (d :: ds) vs) : ∃ v us, vs = v :: us ∧ Rep K S d v ∧ Reps K S ds us := by
  cases vs with
  | nil => exact h.elim
  | cons v r => exact ⟨v, r, rfl, h.1, h.2⟩
/-- the script's ints -/
theorem Reps.ints : ∀ (ns : List Int), Reps K S (ns.map D.int) (ns.map V.int)
  | [] => trivial
  | _ :: r => ⟨rfl, Reps.ints r⟩
end
end DL
namespace DL
open PySem PySem.Spec PyProof.Rows L2

/-- what is mutable and known by its address -/
inductive MO where
  | lst (ds : List D)
  | dK (ks : List Key) (ds : List D)
  | ins (C : Addr) (ns : List Str) (ds : List D)
abbrev Mem := Addr → Option MO
def mset (M : Mem) (a : Addr) (o : MO) : Mem := fun b => if b = a then some o else M b
theorem mset_same {M : Mem} {a : Addr} {o : MO} : mset M a o a = some o := by unfold mset; rw [if_pos rfl]
theorem mset_mset {M : Mem} {a : Addr} {o u : MO} : mset (mset M a o) a u = mset M a u := by
  funext b
  unfold mset
  split <;> rfl
def MOk (K : PySem.W.Frag) (S H : Hp) (a : Addr) : MO → Prop
  | .lst ds => ∃ xs, H a = some (.lst xs) ∧ Reps K S ds xs
  | .dK ks ds => ∃ xs, H a = some (.dK (ks.zip xs)) ∧ xs.length = ks.length ∧ Reps K S ds xs
  | .ins C ns ds => ∃ dx xs, H a = some (.ins C dx (ns.zip xs)) ∧ xs.length = ns.length ∧ Reps K S ds xs
theorem MOk.some {K : PySem.W.Frag} {S H : Hp} {a : Addr} {o : MO} (h : MOk K S H a o) : ∃ u, H a = some u := by
  cases o with
  | lst ds => obtain ⟨xs, e, _⟩ := h; exact ⟨_, e⟩
  | dK ks ds => obtain ⟨xs, e, _⟩ := h; exact ⟨_, e⟩
  | ins C ns ds => obtain ⟨dx, xs, e, _⟩ := h; exact ⟨_, e⟩
theorem MOk.mono {K : PySem.W.Frag} {S S' H H' : Hp} {a : Addr} {o : MO} (h : MOk K S H a o) (e : Same S S') (q : H' a = H a) : MOk K S' H' a o := by
  cases o with
  | lst ds => obtain ⟨xs, e1, r⟩ := h; exact ⟨xs, q.trans e1, r.mono e⟩
  | dK ks ds => obtain ⟨xs, e1, l, r⟩ := h; exact ⟨xs, q.trans e1, l, r.mono e⟩
  | ins C ns ds => obtain ⟨dx, xs, e1, l, r⟩ := h; exact ⟨dx, xs, q.trans e1, l, r.mono e⟩

/-- the heap's parts: S never changes, M is mutable, F is the callers' -/
structure RelC (K : PySem.W.Frag) (F S H : Hp) (M : Mem) : Prop where
  same : Same S H
  fr : ∀ a o, F a = some o → H a = some o ∧ S a = none ∧ M a = none
  mem : ∀ a o, M a = some o → S a = none ∧ MOk K S H a o
theorem RelC.sfree {K : PySem.W.Frag} {F S H : Hp} {M : Mem} (R : RelC K F S H M) {p : Addr} (h : H p = none) : S p = none := R.same.free h
theorem RelC.ffree {K : PySem.W.Frag} {F S H : Hp} {M : Mem} (R : RelC K F S H M) {p : Addr} (h : H p = none) : F p = none := by
  cases e : F p with
  | none => rfl
  | some o => rw [(R.fr p o e).1] at h; cases h
theorem RelC.mfree {K : PySem.W.Frag} {F S H : Hp} {M : Mem} (R : RelC K F S H M) {p : Addr} (h : H p = none) : M p = none := by
  cases e : M p with
  | none => rfl
  | some o =>
    obtain ⟨u, q⟩ := (R.mem p o e).2.some
    rw [q] at h
    cases h

/-- a slot of a def: unset, a value, a list of one's own -/
inductive Sl where
  | no | val (d : D) | own (ds : List D)
abbrev Ev := List Sl
@[reducible] def look : Ev → Nat → Sl
  | [], _ => .no
  | s :: _, 0 => s
  | _ :: r, n + 1 => look r n
/-- what every state of a body bears: things of the frame, and things that never change, as they were at some place -/
class Gh where
  f : Hp
  s : Hp
instance (priority := low) gh0 : Gh := ⟨fun _ => none, fun _ => none⟩
structure GhOk [Gh] (F S : Hp) : Prop where
  f : Same Gh.f F
  s : Same Gh.s S
theorem GhOk.up [Gh] {F S S' : Hp} (g : GhOk F S) (e : Same S S') : GhOk F S' := ⟨g.f, g.s.trans e⟩
theorem GhOk.add [Gh] {F S : Hp} {a : Addr} {o : HO} (g : GhOk F S) (h : F a = none) : GhOk (upd F a o) S := ⟨fun b u e => by
  have q := g.f b u e
  rw [upd_ne (fun z => by rw [z, h] at q; cases q)]; exact q, g.s⟩
theorem GhOk.no [Gh] {F S : Hp} {a : Addr} (g : GhOk F S) (h : F a = none) : Gh.f a = none := by
  cases e : Gh.f a with
  | none => rfl
  | some o => rw [g.f a o e] at h; cases h
theorem GhOk.drop [Gh] {F S : Hp} {a : Addr} {o : HO} (g : GhOk (upd F a o) S) (h : Gh.f a = none) : GhOk F S := ⟨fun b u e => by
  have q := g.f b u e
  rw [upd_ne (fun z => by rw [z, h] at e; cases e)] at q; exact q, g.s⟩
theorem GhOk.set [Gh] {F S : Hp} {a : Addr} {o o' : HO} (g : GhOk (upd F a o) S) (h : Gh.f a = none) : GhOk (upd F a o') S := ⟨fun b u e => by
  have q := g.f b u e
  have n : b ≠ a := fun z => by rw [z, h] at e; cases e
  rw [upd_ne n] at q ⊢; exact q, g.s⟩
structure Rel [Gh] (K : PySem.W.Frag) (F S : Hp) (σ : L2.St) (H : Hp) (env : Ev) (M : Mem) : Prop where
  c : RelC K F S H M
  len : env.length = σ.length
  val : ∀ i d, look env i = .val d → ∃ v, σ[i]? = some (some v) ∧ Rep K S d v
  own : ∀ i ds, look env i = .own ds → ∃ a xs, σ[i]? = some (some (.ref a)) ∧ H a = some (.lst xs) ∧ S a = none ∧ M a = none ∧ F a = none ∧ Reps K S ds xs
  dis : ∀ i j a ds es, i ≠ j → look env i = .own ds → look env j = .own es → σ[i]? = some (some (.ref a)) → σ[j]? ≠ some (some (.ref a))
  g : GhOk F S

/-- the abstract heap grows by a thing that never changes -/
theorem RelC.new {K : PySem.W.Frag} {F S H : Hp} {M : Mem} (R : RelC K F S H M) {p : Addr} {o : HO} (h : H p = none) : RelC K F (upd S p o) (upd H p o) M ∧ Same S (upd S p o) := by
  have sp := R.sfree h
  have fp := R.ffree h
  have mp := R.mfree h
  have ss : Same S (upd S p o) := fun b u e => by rw [upd_ne (fun z => by rw [z, sp] at e; cases e)]; exact e
  refine ⟨⟨fun b u e => ?_, fun b u e => ?_, fun b u e => ?_⟩, ss⟩
  · by_cases hb : b = p
    · subst hb; rw [upd_same] at e ⊢; exact e
    · rw [upd_ne hb] at e ⊢; exact R.same b u e
  · have hb : b ≠ p := fun z => by rw [z, fp] at e; cases e
    rw [upd_ne hb, upd_ne hb]
    exact R.fr b u e
  · have hb : b ≠ p := fun z => by rw [z, mp] at e; cases e
    rw [upd_ne hb]
    exact ⟨(R.mem b u e).1, (R.mem b u e).2.mono ss (upd_ne hb)⟩
/-- .. by something that nobody names -/
theorem RelC.more {K : PySem.W.Frag} {F S H H' : Hp} {M : Mem} (R : RelC K F S H M) (k : Same H H') : RelC K F S H' M := by
  refine ⟨R.same.trans k, fun b u e => ⟨k _ _ (R.fr b u e).1, (R.fr b u e).2⟩, fun b u e => ?_⟩
  obtain ⟨h1, h2⟩ := R.mem b u e
  obtain ⟨o, ho⟩ := h2.some
  exact ⟨h1, h2.mono (Same.refl _) ((k _ _ ho).trans ho.symm)⟩
end DL
namespace DL
open PySem PySem.Spec PyProof.Rows L2

variable [Gh]
section
variable {K : PySem.W.Frag} {F S H : Hp} {M : Mem} {σ : L2.St} {env : Ev}
/-- the def's slots stay, the heap's parts move on -/
theorem Rel.grow {S' H' : Hp} {M' : Mem} (R : Rel K F S σ H env M) (c : RelC K F S' H' M') (ss : Same S S')
    (ko : ∀ i a, σ[i]? = some (some (.ref a)) → (∃ ds, look env i = .own ds) → H' a = H a ∧ S' a = none ∧ M' a = none) : Rel K F S' σ H' env M' := by
  refine ⟨c, R.len, fun i d e => ?_, fun i ds e => ?_, R.dis, R.g.up ss⟩
  · obtain ⟨v, e1, r⟩ := R.val i d e
    exact ⟨v, e1, r.mono ss⟩
  · obtain ⟨a, xs, e1, e2, e3, e4, e5, r⟩ := R.own i ds e
    obtain ⟨k1, k2, k3⟩ := ko i a e1 ⟨ds, e⟩
    exact ⟨a, xs, e1, k1.trans e2, k2, k3, e5, r.mono ss⟩
theorem Rel.ownNe (R : Rel K F S σ H env M) {i : Nat} {a p : Addr} (e : σ[i]? = some (some (.ref a))) (h : ∃ ds, look env i = .own ds) (hp : H p = none) : a ≠ p := by
  obtain ⟨ds, h⟩ := h
  obtain ⟨b, xs, e1, e2, _⟩ := R.own i ds h
  rw [e] at e1
  cases e1
  exact ne_of_none e2 hp
theorem Rel.new (R : Rel K F S σ H env M) {p : Addr} {o : HO} (h : H p = none) : Rel K F (upd S p o) σ (upd H p o) env M ∧ Same S (upd S p o) := by
  obtain ⟨c, ss⟩ := R.c.new (o := o) h
  refine ⟨R.grow c ss fun i a e hi => ?_, ss⟩
  have n := R.ownNe e hi h
  obtain ⟨ds, hi⟩ := hi
  obtain ⟨b, xs, e1, e2, e3, e4, _⟩ := R.own i ds hi
  rw [e] at e1
  cases e1
  exact ⟨upd_ne n, by rw [upd_ne n]; exact e3, e4⟩
theorem Rel.more (R : Rel K F S σ H env M) {H' : Hp} (k : Same H H') : Rel K F S σ H' env M := by
  refine R.grow (R.c.more k) (Same.refl _) fun i a e hi => ?_
  obtain ⟨ds, hi⟩ := hi
  obtain ⟨b, xs, e1, e2, e3, e4, _⟩ := R.own i ds hi
  rw [e] at e1
  cases e1
  exact ⟨(k _ _ e2).trans e2.symm, e3, e4⟩
end
end DL
namespace DL
open PySem PySem.Spec PyProof.Rows L2

variable [Gh]
/-- not -/
@[reducible] def nb : Bool → Bool
  | true => false
  | false => true
abbrev KD := D → Ev → Mem → Prop
abbrev DT := Ev → Mem → KD → Prop
def PostE (K : PySem.W.Frag) (F S : Hp) (σ : L2.St) (Qd : KD) (Q : VK) : Prop :=
  ∀ v H' S' env' M' d, Same S S' → Rel K F S' σ H' env' M' → Rep K S' d v → Qd d env' M' → Q v H'
theorem PostE.up {K : PySem.W.Frag} {F S S1 : Hp} {σ : L2.St} {Qd : KD} {Q : VK} (p : PostE K F S σ Qd Q) (s : Same S S1) : PostE K F S1 σ Qd Q := fun v H' S' env' M' d s' R r q => p v H' S' env' M' d (s.trans s') R r q
/-- argument lists -/
abbrev KDs := List D → Ev → Mem → Prop
abbrev DTA := Ev → Mem → KDs → Prop
/-- tests -/
abbrev KB := Bool → Ev → Mem → Prop
abbrev DTT := Ev → Mem → KB → Prop
/-- statements -/
structure DEnds where
  nx : Ev → Mem → Prop
  rt : D → Mem → Prop
  bk : Ev → Mem → Prop := fun _ _ => False
  ct : Ev → Mem → Prop := fun _ _ => False
structure PostS (K : PySem.W.Frag) (F S : Hp) (Ed : DEnds) (E : Ends) : Prop where
  nx : ∀ σ H' S' env' M', Same S S' → Rel K F S' σ H' env' M' → Ed.nx env' M' → E.nx σ H'
  rt : ∀ v H' S' M' d, Same S S' → RelC K F S' H' M' → Rep K S' d v → Ed.rt d M' → E.rt v H'
  bk : ∀ σ H' S' env' M', Same S S' → Rel K F S' σ H' env' M' → Ed.bk env' M' → E.bk σ H'
  ct : ∀ σ H' S' env' M', Same S S' → Rel K F S' σ H' env' M' → Ed.ct env' M' → E.ct σ H'
theorem PostS.up {K : PySem.W.Frag} {F S S1 : Hp} {Ed : DEnds} {E : Ends} (p : PostS K F S Ed E) (s : Same S S1) : PostS K F S1 Ed E :=
  ⟨fun σ H' S' env' M' s' => p.nx σ H' S' env' M' (s.trans s'), fun v H' S' M' d s' => p.rt v H' S' M' d (s.trans s'), fun σ H' S' env' M' s' => p.bk σ H' S' env' M' (s.trans s'), fun σ H' S' env' M' s' => p.ct σ H' S' env' M' (s.trans s')⟩
abbrev RD2 := D → D → DT
structure OpD (X : Cx) (f : Value → Value → Sem Value) (rd : RD2) : Prop where
  ex : ∃ r : R2, OpR X f r ∧ ∀ F S σ H env M x y d e Qd Q, Rel X.K F S σ H env M → Rep X.K S d x → Rep X.K S e y → rd d e env M Qd → PostE X.K F S σ Qd Q → r x y H Q
end DL
namespace DL
open PySem PySem.Spec PyProof.Rows L2

variable [Gh]
section
variable {X : Cx} {a b c : Expr} {ta tb tc : DT} {pos : Pos}
theorem OpD.or {f : Value → Value → Sem Value} {rd rd' : RD2} (h : OpD X f rd) (h' : OpD X f rd') : OpD X f (fun d e env M Q => rd d e env M Q ∨ rd' d e env M Q) := by
  obtain ⟨r, a1, a2⟩ := h.ex
  obtain ⟨r', b1, b2⟩ := h'.ex
  refine ⟨⟨_, a1.or b1, fun F S σ H env M x y d e Qd Q R r1 r2 q p => ?_⟩⟩
  rcases q with q | q
  · exact .inl (a2 F S σ H env M x y d e Qd Q R r1 r2 q p)
  · exact .inr (b2 F S σ H env M x y d e Qd Q R r1 r2 q p)
theorem OpD.imp {f : Value → Value → Sem Value} {rd rd' : RD2} (h : OpD X f rd) (i : ∀ d e env M Q, rd' d e env M Q → rd d e env M Q) : OpD X f rd' := by
  obtain ⟨r, a1, a2⟩ := h.ex
  exact ⟨⟨r, a1, fun F S σ H env M x y d e Qd Q R r1 r2 q p => a2 F S σ H env M x y d e Qd Q R r1 r2 (i _ _ _ _ _ q) p⟩⟩
end
end DL
namespace DL
open PySem PySem.Spec PyProof.Rows L2
variable [Gh]

mutual
def pd : D → PyData
  | .non => .none
  | .bl b => .bool b
  | .int i => .int i
  | .str s => .str s
  | .tup ds => .tuple (pds ds)
  | .lst ds => .list (pds ds)
  | .lstK ds => .list (pds ds)
  | .ref _ => .none
  | .ty _ => .none
  | .obj _ _ _ => .none
def pds : List D → List PyData
  | [] => []
  | d :: r => pd d :: pds r
end
mutual
/-- data: nested lists and tuples of None, bools, ints, texts of fewer than so many signs -/
def isData : D → Bool
  | .non => true
  | .bl _ => true
  | .int _ => true
  | .str s => PyData.strOk s
  | .tup ds => areData ds
  | .lst ds => areData ds
  | .lstK ds => areData ds
  | .ref _ => false
  | .ty _ => false
  | .obj _ _ _ => false
def areData : List D → Bool
  | [] => true
  | d :: r => isData d && areData r
end
mutual
def depD : D → Nat
  | .tup ds => depDs ds + 1
  | .lst ds => depDs ds + 1
  | .lstK ds => depDs ds + 1
  | .non => 0
  | .bl _ => 0
  | .int _ => 0
  | .str _ => 0
  | .ref _ => 0
  | .ty _ => 0
  | .obj _ _ _ => 0
def depDs : List D → Nat
  | [] => 0
  | d :: r => max (depD d) (depDs r)
end
end DL
namespace DL
open PySem PySem.Spec PyProof.Rows L2
variable [Gh]

section
variable {K : PySem.W.Frag} {S : Hp}
mutual
theorem Dp.mono {S' : Hp} (e : Same S S') : ∀ {v : V} {d : PyData}, Dp K S v d → Dp K S' v d
  | _, _, .non => .non
  | _, _, .bl b => .bl b
  | _, _, .int b => .int b
  | _, _, .str b => .str b
  | _, _, .lst q t => .lst (L2.Same.seq e q) (DpAll.mono e t)
  | _, _, .tup q t => .tup (DL.Same.tup e q) (DpAll.mono e t)
theorem DpAll.mono {S' : Hp} (e : Same S S') : ∀ {v : List V} {d : List PyData}, DpAll K S v d → DpAll K S' v d
  | _, _, .nil => .nil
  | _, _, .cons h t => .cons (Dp.mono e h) (DpAll.mono e t)
end
end
end DL
namespace DL
open PySem PySem.Spec PyProof.Rows L2
variable [Gh]

/-- == of data -/
def deq (d e : D) : Bool := PyData.eqv (pd d) (pd e)
def okEq (d : D) : Prop := isData d = true ∧ depD d ≤ 64
def eqF : D → D → Bool
  | .non, .non => true
  | .bl a, .bl b => a == b
  | .bl a, .int b => (if a then 1 else 0) == b
  | .int a, .bl b => a == (if b then 1 else 0)
  | .int a, .int b => a == b
  | .str a, .str b => a == b
  | _, _ => false
def inF (d : D) (ds : List D) : Bool := ds.any fun e => eqF e d
end DL
namespace DL
open PySem PySem.Spec PyProof.Rows L2
variable [Gh]

section
variable {X : Cx} {a b c : Expr} {ta tb : DT} {tA tB : DTT} {rest : List Expr} {pos : Pos}
theorem Reps.empty {K : PySem.W.Frag} {S : Hp} {ds : List D} {vs : List V} (r : Reps K S ds vs) : ds.isEmpty = vs.isEmpty := by
  cases ds with
  | nil => cases vs with
    | nil => rfl
    | cons _ _ => exact r.elim
  | cons _ _ => cases vs with
    | nil => exact r.elim
    | cons _ _ => rfl
end
end DL
namespace DL
open PySem PySem.Spec PyProof.Rows L2
variable [Gh]

abbrev RDA := List D → DT
structure CallD (X : Cx) (f : Value) (rd : RDA) : Prop where
  ex : ∃ r, CallR X f r ∧ ∀ F S σ H env M xs ds Qd Q, Rel X.K F S σ H env M → Reps X.K S ds xs → rd ds env M Qd → PostE X.K F S σ Qd Q → r xs H Q
end DL
namespace DL
open PySem PySem.Spec PyProof.Rows L2
variable [Gh]

def fget (f : Str) (ns : List Str) (ds : List D) : Option D := (ns.zip ds).lookup f
def fputN (f : Str) : List Str → List Str
  | [] => [f]
  | g :: r => if g = f then g :: r else g :: fputN f r
def fputD {α : Type} (f : Str) (d : α) : List Str → List α → List α
  | g :: r, x :: xs => if g = f then d :: xs else x :: fputD f d r xs
  | _, _ => [d]
/-- the fields of a thing -/
@[reducible] def insD (d : D) (M : Mem) : Option (Addr × List Str × List D) := match d with
  | .obj C ns ds => some (C, ns, ds)
  | .ref a => (match M a with
    | some (.ins C ns ds) => some (C, ns, ds)
    | _ => none)
  | _ => none
abbrev KR := D → Mem → Prop
abbrev KX := Addr → List Str → List D → Mem → Prop
abbrev DSp := List D → Mem → KR → KX → Prop
def XRep (K : PySem.W.Frag) (S : Hp) (od : Option Addr) (ns : List Str) (ds : List D) : Prop :=
  (ns = [] ∧ ds = [] ∧ od = none) ∨ ∃ d xs, od = some d ∧ S d = some (.xd (ns.zip xs)) ∧ xs.length = ns.length ∧ Reps K S ds xs
def PostR (K : PySem.W.Frag) (F S : Hp) (Qd : KR) (Q : VK) : Prop := ∀ v H' S' M' d, Same S S' → RelC K F S' H' M' → Rep K S' d v → Qd d M' → Q v H'
def PostX (K : PySem.W.Frag) (F S : Hp) (Ed : KX) (E : XK) : Prop := ∀ C od H' S' M' ns ds, Same S S' → RelC K F S' H' M' → XRep K S' od ns ds → Ed C ns ds M' → E (.ref C) od H'
def LSp (K : PySem.W.Frag) (sp : DSp) : Sp := fun vs H Q E => ∃ F S ds M Qd Ed, RelC K F S H M ∧ Reps K S ds vs ∧ sp ds M Qd Ed ∧ PostR K F S Qd Q ∧ PostX K F S Ed E

end DL
namespace DL
open PySem PySem.Spec PyProof.Rows L2
variable [Gh]

section
variable {X : Cx} {CX : CXT} {k : Nat} {f C : Addr} {fd : FuncData} {ps : List Str} {sp : DSp} {dvs : List V} {dds : List D} {dl : List Value} {E : XK} {x m : Str} {p pos apos : Pos} {e o : Expr} {es : List Expr} {ta : DT} {t : DTA}
def MethOk (K : PySem.W.Frag) (C : Addr) (m : Str) (f : Addr) (ns : List Str) (ds : List D) : Prop := Cls K C ∧ Meth K C m f ∧ fget m ns ds = none
end
end DL
namespace DL
open PySem PySem.Spec PyProof.Rows L2
variable [Gh]

structure NewAt (K : PySem.W.Frag) (F S : Hp) (σ : L2.St) (H : Hp) (env : Ev) (M : Mem) (a : Addr) (ds : List D) : Prop where
  ex : ∃ xs, H a = some (.lst xs) ∧ Reps K S ds xs
  s : S a = none
  m : M a = none
  f : F a = none
  o : ∀ j es, look env j = .own es → σ[j]? ≠ some (some (.ref a))
structure Walks (K : PySem.W.Frag) (J : It) (S : Hp) (items : List D) : Prop where
  go : ∀ i H S', i < items.length → Same S S' → Same S' H → J.go i H
  stop : ∀ H S', Same S S' → Same S' H → J.stop items.length H
  yld : ∀ i d x H H' S', items[i]? = some d → Same S S' → Same S' H → J.yld i H x H' → (H' = H ∧ Rep K S' d x) ∨ ∃ p o, H p = none ∧ H' = upd H p o ∧ Rep K (upd S' p o) d x
end DL
namespace DL
open PySem PySem.Spec PyProof.Rows L2
variable [Gh]

theorem Walks.up {K : PySem.W.Frag} {J : It} {S S1 : Hp} {items : List D} (w : Walks K J S items) (s : Same S S1) : Walks K J S1 items :=
  ⟨fun i H S' h s1 s2 => w.go i H S' h (s.trans s1) s2, fun H S' s1 s2 => w.stop H S' (s.trans s1) s2, fun i d x H H' S' h s1 s2 y => w.yld i d x H H' S' h (s.trans s1) s2 y⟩
end DL
namespace DL
open PySem PySem.Spec PyProof.Rows L2
variable [Gh]

section
variable {K : PySem.W.Frag} {F S H : Hp} {M : Mem} {σ : L2.St} {env : Ev}
/-- the frame of what is reckoned while a new list waits -/
theorem NewAt.keep {a : Addr} {ds : List D} {xs : List V} (R : Rel K F S σ H env M) (n : NewAt K F S σ H env M a ds) (e : H a = some (.lst xs)) : Rel K (upd F a (.lst xs)) S σ H env M := by
  refine ⟨⟨R.c.same, fun b o q => ?_, R.c.mem⟩, R.len, R.val, fun i es q => ?_, R.dis, R.g.add n.f⟩
  · by_cases hb : b = a
    · subst hb; rw [upd_same] at q; cases q; exact ⟨e, n.s, n.m⟩
    · rw [upd_ne hb] at q; exact R.c.fr b o q
  · obtain ⟨b, ys, e1, e2, e3, e4, e5, r⟩ := R.own i es q
    have hb : b ≠ a := fun z => by rw [z] at e1; exact n.o i es q e1
    exact ⟨b, ys, e1, e2, e3, e4, by rw [upd_ne hb]; exact e5, r⟩
end
end DL
namespace DL
open PySem PySem.Spec PyProof.Rows L2
variable [Gh]

def kget (k : Key) : List Key → List D → Option D
  | k' :: ks, d :: ds => if k' = k then some d else kget k ks ds
  | _, _ => none
def kputN (k : Key) (ks : List Key) : List Key := if ks.any (fun k' => decide (k' = k)) then ks else ks ++ [k]
def kputD {α : Type} (k : Key) (d : α) (ks : List Key) (ds : List α) : List α := if ks.any (fun k' => decide (k' = k)) then List.zipWith (fun k' x => if k' = k then d else x) ks ds else ds ++ [d]
end DL
namespace DL
open PySem PySem.Spec PyProof.Rows L2
variable [Gh]

/-- a def of the top keeps a promise -/
structure Fn (P : Program) (w : World) (K : PySem.W.Frag) (mg : Str → Option Value) (base : Heap) (k : Nat) (x : Str) (ps : List Str) (sp : DSp) : Prop where
  ex : ∃ f fd, FnOk P w K mg base CX0 k f fd ps (LSp K sp) ∧ mg x = some (.ref f) ∧ PySem.W.keepIn K (.ref f) = true ∧ Binds K fd ps []
theorem Fn.mono {P : Program} {w : World} {K : PySem.W.Frag} {mg : Str → Option Value} {base : Heap} {j k : Nat} {x : Str} {ps : List Str} {sp : DSp} (h : Fn P w K mg base j x ps sp) (l : j ≤ k) : Fn P w K mg base k x ps sp := by
  obtain ⟨f, fd, G, r⟩ := h.ex
  exact ⟨⟨f, fd, G.mono l, r⟩⟩
theorem LSp.imp {K : PySem.W.Frag} {sp sp' : DSp} (h : ∀ ds M Q E, sp' ds M Q E → sp ds M Q E) : ∀ vs H Q E, LSp K sp' vs H Q E → LSp K sp vs H Q E := fun vs H Q E ⟨F, S, ds, M, Qd, Ed, c, r, q, p⟩ => ⟨F, S, ds, M, Qd, Ed, c, r, h _ _ _ _ q, p⟩
theorem Fn.imp {P : Program} {w : World} {K : PySem.W.Frag} {mg : Str → Option Value} {base : Heap} {k : Nat} {x : Str} {ps : List Str} {sp sp' : DSp} (h : Fn P w K mg base k x ps sp) (i : ∀ ds M Q E, sp' ds M Q E → sp ds M Q E) : Fn P w K mg base k x ps sp' := by
  obtain ⟨f, fd, G, r⟩ := h.ex
  exact ⟨⟨f, fd, G.imp (LSp.imp i), r⟩⟩
def penK : List Key := [.inr "cells", .inr "at", .inr "left"]
@[reducible] def penMO (c : List Int) (a l : Int) : MO := .dK penK [.lst (c.map D.int), .int a, .int l]
def PenO (o : MO) (n : Int) : Prop := ∃ c a l, o = penMO c a l ∧ c.length ≤ 63 ∧ 0 ≤ a ∧ a ≤ n
theorem PenO.mono {o : MO} {n m : Int} (h : PenO o n) (l : n ≤ m) : PenO o m := by
  obtain ⟨c, a, l', e, h1, h2, h3⟩ := h
  exact ⟨c, a, l', e, h1, h2, by omega⟩
theorem sk_ca : ¬ (Sum.inr "cells" : Key) = .inr "at" := by decide +kernel
theorem sk_cl : ¬ (Sum.inr "cells" : Key) = .inr "left" := by decide +kernel
theorem sk_al : ¬ (Sum.inr "at" : Key) = .inr "left" := by decide +kernel
theorem sk_la : ¬ (Sum.inr "left" : Key) = .inr "at" := by decide +kernel
theorem pen_cells {x y z : D} : kget (.inr "cells") penK [x, y, z] = some x := by
  unfold penK kget
  rw [if_pos rfl]
theorem pen_at {x y z : D} : kget (.inr "at") penK [x, y, z] = some y := by
  unfold penK kget kget
  rw [if_neg sk_ca, if_pos rfl]
theorem pen_left {x y z : D} : kget (.inr "left") penK [x, y, z] = some z := by
  unfold penK kget kget kget
  rw [if_neg sk_cl, if_neg sk_al, if_pos rfl]
theorem penN (k : Key) (h : penK.any (fun k' => decide (k' = k)) = true) : kputN k penK = penK := by
  unfold kputN
  rw [if_pos h]
theorem penN_at : kputN (.inr "at") penK = penK := penN _ (by decide +kernel)
theorem penN_left : kputN (.inr "left") penK = penK := penN _ (by decide +kernel)
theorem penD_at {x y z d : D} : kputD (.inr "at") d penK [x, y, z] = [x, d, z] := by
  unfold kputD
  rw [if_pos (by decide +kernel)]
  unfold penK
  simp only [List.zipWith_cons_cons, List.zipWith_nil_left, if_neg sk_ca, if_pos, if_neg sk_la]
theorem penD_left {x y z d : D} : kputD (.inr "left") d penK [x, y, z] = [x, y, d] := by
  unfold kputD
  rw [if_pos (by decide +kernel)]
  unfold penK
  simp only [List.zipWith_cons_cons, List.zipWith_nil_left, if_neg sk_cl, if_neg sk_al, if_pos]
end DL
namespace DL
open PySem PySem.Spec PyProof.Rows L2
variable [Gh]
theorem mulW {i j : Int} (h1 : i.natAbs < 2 ^ 200) (h2 : j.natAbs < 2 ^ 200) : CMulW i j := wide_mul h1 h2 (by decide) (by decide) (by decide)
end DL
namespace DL
open PySem PySem.Spec PyProof.Rows L2
variable [Gh]

def tx (l : List Nat) : Str := ⟨l.toArray⟩
theorem atI_k {α : Type} (l : List α) (k : Nat) : atI l (k : Int) = l[k]? := by
  unfold atI ixN
  by_cases h : (k : Int) < l.length
  · rw [if_pos (by omega), if_pos h]
    rfl
  · have h2 : ¬ k < l.length := by omega
    rw [if_pos (by omega), if_neg h, List.getElem?_eq_none_iff.mpr (by omega)]
    rfl
def lettersN : List Nat := [97, 98, 99, 100, 101, 102, 103, 104, 105, 106, 107, 108, 109, 110, 111, 112, 113, 114, 115, 116, 117, 118, 119, 120, 121, 122]
theorem letters_iff (c : Nat) : c ∈ lettersN ↔ 97 ≤ c ∧ c ≤ 122 := by
  constructor
  · intro h
    have : ∀ x ∈ lettersN, 97 ≤ x ∧ x ≤ 122 := by decide +kernel
    exact this c h
  · intro ⟨h1, h2⟩
    have : c ∈ (List.range 26).map (· + 97) := List.mem_map.mpr ⟨c - 97, List.mem_range.mpr (by omega), by omega⟩
    have e : (List.range 26).map (· + 97) = lettersN := by decide +kernel
    rwa [e] at this
theorem ofString_inj {a b : String} (h : Str.ofString a = Str.ofString b) : a = b := by
  rw [Str.ofString_eq_toList, Str.ofString_eq_toList] at h
  have h2 : (a.toList.map Char.toNat) = b.toList.map Char.toNat := congrArg (fun z : Str => z.cps.toList) h
  have h3 : a.toList = b.toList := by
    generalize a.toList = x at h2
    generalize b.toList = y at h2
    induction x generalizing y with
    | nil => cases y with
      | nil => rfl
      | cons _ _ => cases h2
    | cons c x ih => cases y with
      | nil => cases h2
      | cons d y =>
        rw [List.map_cons, List.map_cons] at h2
        injection h2 with e1 e2
        rw [ih y e2]
        congr 1
        exact Char.ext (UInt32.toNat_inj.mp e1)
  exact String.toList_inj.mp h3
theorem lit_beq (a b : String) : (Str.ofString a == Str.ofString b) = (a == b) := by
  by_cases h : a = b
  · rw [h, beq_self_eq_true, beq_self_eq_true]
  · rw [beq_eq_false_iff_ne.mpr h, beq_eq_false_iff_ne.mpr fun z => h (ofString_inj z)]
def flatOk : D → Bool
  | .non => true
  | .bl _ => true
  | .int _ => true
  | .str z => PyData.strOk z
  | _ => false
theorem okEq_flat {d : D} (h : flatOk d = true) : okEq d := by
  cases d <;> first | (exact ⟨rfl, by unfold depD; decide⟩) | (exact ⟨h, by unfold depD; decide⟩) | cases h
theorem deq_int (i j : Int) : deq (.int i) (.int j) = decide (i = j) := rfl
theorem deq_str (a b : Str) : deq (.str a) (.str b) = (a == b) := rfl
theorem deq_NI (i : Int) : deq .non (.int i) = false := rfl
theorem deq_IN (i : Int) : deq (.int i) .non = false := rfl
theorem deq_NN : deq .non .non = true := rfl
theorem inF_cons (d e : D) (ds : List D) : inF d (e :: ds) = (eqF e d || inF d ds) := rfl
theorem inF_nil (d : D) : inF d [] = false := rfl
theorem eqF_lit (a b : String) : eqF (.str (Str.ofString a)) (.str (Str.ofString b)) = (a == b) := lit_beq a b
inductive Un where
  | again | maybe | ahead | unless
  deriving DecidableEq
inductive WT where
  | nothing | one | letter (s : Str) | call (s : Str) | un (k : Un) (w : WT) | many (c : Bool) (ws : List WT)
@[reducible] def Un.s : Un → Str
  | .again => "again" | .maybe => "maybe" | .ahead => "ahead" | .unless => "unless"
@[reducible] def manyS : Bool → Str
  | true => "choice" | false => "row"
mutual
def WT.d : WT → D
  | .nothing => .tup [.str "nothing"]
  | .one => .tup [.str "one"]
  | .letter s => .tup [.str "letter", .str s]
  | .call s => .tup [.str "call", .str s]
  | .un k w => .tup [.str k.s, w.d]
  | .many c ws => .tup [.str (manyS c), .lst (WT.dOf ws)]
def WT.dOf : List WT → List D
  | [] => []
  | w :: ws => w.d :: WT.dOf ws
end
mutual
def WT.size : WT → Nat
  | .un _ w => w.size + 1
  | .many _ ws => WT.sizes ws + 1
  | _ => 1
def WT.sizes : List WT → Nat
  | [] => 0
  | w :: ws => w.size + WT.sizes ws
end
mutual
/-- what the laws' ways keep: signs from a text, two parts or more -/
def WT.ok (P : Str → Prop) : WT → Prop
  | .letter s => P s
  | .call _ => False
  | .un _ w => w.ok P
  | .many _ ws => 2 ≤ ws.length ∧ WT.oks P ws
  | _ => True
def WT.oks (P : Str → Prop) : List WT → Prop
  | [] => True
  | w :: ws => w.ok P ∧ WT.oks P ws
end
mutual
theorem WT.data {P : Str → Prop} (hP : ∀ s, P s → PyData.strOk s = true) : ∀ w : WT, w.ok P → isData w.d = true
  | .nothing, _ => by decide +kernel
  | .one, _ => by decide +kernel
  | .letter s, h => by
    show (PyData.strOk _ && (PyData.strOk s && true)) = true
    rw [hP s h]
    decide +kernel
  | .call s, h => h.elim
  | .un k w, h => by
    show (PyData.strOk _ && (isData w.d && true)) = true
    rw [WT.data hP w h]
    cases k <;> decide +kernel
  | .many c ws, h => by
    show (PyData.strOk _ && (areData (WT.dOf ws) && true)) = true
    rw [WT.datas hP ws h.2]
    cases c <;> decide +kernel
theorem WT.datas {P : Str → Prop} (hP : ∀ s, P s → PyData.strOk s = true) : ∀ ws : List WT, WT.oks P ws → areData (WT.dOf ws) = true
  | [], _ => rfl
  | w :: ws, h => by
    show (isData w.d && areData (WT.dOf ws)) = true
    rw [WT.data hP w h.1, WT.datas hP ws h.2]
    rfl
end
/-- the parts of a way -/
@[reducible] def WT.inner : WT → List WT
  | .un _ w => [w]
  | .many _ ws => ws
  | _ => []
end DL
namespace DL
open PySem PySem.Spec PyProof.Rows L2
variable [Gh]

/-- the object at f: a def whose text names its class -/
structure SupD (K : PySem.W.Frag) (x qual : Str) (params : Arguments) (body : List Stmt) (scope : Scope) (cc cda f : Addr) (fd : FuncData) : Prop where
  ex : ∃ (oc : Value) (od : Option Addr) (dV kV doc pm : Value) (an : Option Addr) (ct : Value) (osl : Array (Option Value)),
    fd = PySem.W.fnX x qual params body scope [(("__class__" : Str), cc)] dV kV doc pm an (.ref cda) ct ∧ K.lookup f = some ⟨oc, od, .func fd, osl⟩
  cd : PySem.W.codeIn K (.ref cda) qual = true
end DL
namespace DL
open PySem PySem.Spec PyProof.Rows L2
variable [Gh]

def wayN : List Str := ["word", "sign", "inner"]
/-- the classes of ways -/
structure WA where
  nothing : Addr
  one : Addr
  letter : Addr
  call : Addr
  un : Un → Addr
  many : Bool → Addr
def WA.has (W : WA) (C : Addr) : Prop := C = W.nothing ∨ C = W.one ∨ C = W.letter ∨ C = W.call ∨ (∃ k, C = W.un k) ∨ ∃ c, C = W.many c
mutual
/-- a way as a thing of the package -/
def WT.o (W : WA) : WT → D
  | .nothing => .obj W.nothing wayN [.str "nothing", .str "", .tup []]
  | .one => .obj W.one wayN [.str "one", .str "", .tup []]
  | .letter s => .obj W.letter (wayN ++ [("letter" : Str)]) [.str "letter", .str s, .tup [], .str s]
  | .call s => .obj W.call (wayN ++ [("name" : Str)]) [.str "call", .str s, .tup [], .str s]
  | .un k w => .obj (W.un k) (wayN ++ [("part" : Str)]) [.str k.s, .str "", .tup [w.o W], w.o W]
  | .many c ws => .obj (W.many c) (wayN ++ [("ways" : Str)]) [.str (manyS c), .str "", .tup (WT.oOf W ws), .tup (WT.oOf W ws)]
def WT.oOf (W : WA) : List WT → List D
  | [] => []
  | w :: ws => w.o W :: WT.oOf W ws
end
theorem WT.oOf_map (W : WA) (ws : List WT) : WT.oOf W ws = ws.map (WT.o W) := by
  induction ws with
  | nil => rfl
  | cons w ws ih => rw [WT.oOf, ih, List.map_cons]
@[reducible] def WT.word : WT → Str
  | .nothing => "nothing" | .one => "one" | .letter _ => "letter" | .call _ => "call" | .un k _ => k.s | .many c _ => manyS c
@[reducible] def WT.sign : WT → Str
  | .letter s => s | .call s => s | _ => ""
/-- what of a way all code reads -/
theorem WT.o_obj (W : WA) (w : WT) : ∃ C ns ds, w.o W = .obj C (wayN ++ ns) (.str w.word :: .str w.sign :: .tup (w.inner.map (WT.o W)) :: ds) ∧ W.has C := by
  cases w with
  | nothing => exact ⟨_, [], [], rfl, .inl rfl⟩
  | one => exact ⟨_, [], [], rfl, .inr (.inl rfl)⟩
  | letter s => exact ⟨_, ["letter"], [.str s], rfl, .inr (.inr (.inl rfl))⟩
  | call s => exact ⟨_, ["name"], [.str s], rfl, .inr (.inr (.inr (.inl rfl)))⟩
  | un k w => exact ⟨_, ["part"], [w.o W], rfl, .inr (.inr (.inr (.inr (.inl ⟨k, rfl⟩))))⟩
  | many c ws =>
    refine ⟨W.many c, ["ways"], [.tup (WT.oOf W ws)], ?_, .inr (.inr (.inr (.inr (.inr ⟨c, rfl⟩))))⟩
    rw [WT.o, ← WT.oOf_map]
end DL
namespace DL
open PySem PySem.Spec PyProof.Rows L2
variable [Gh]
theorem insD_ref {M : Mem} {a C : Addr} {ns : List Str} {ds : List D} (h : M a = some (.ins C ns ds)) : insD (.ref a) M = some (C, ns, ds) := by
  unfold insD
  simp only [h]
end DL
namespace DL
open PySem PySem.Spec PyProof.Rows L2
variable [Gh]

structure Fn1 (P : Program) (w : World) (K : PySem.W.Frag) (mg : Str → Option Value) (base : Heap) (k : Nat) (x : Str) (ps : List Str) (dds : List D) (sp : DSp) : Prop where
  ex : ∃ f fd dvs dl, FnOk P w K mg base CX0 k f fd ps (LSp K sp) ∧ mg x = some (.ref f) ∧ PySem.W.keepIn K (.ref f) = true ∧ Binds K fd ps [] ∧ Binds K fd ps dl ∧ Vals dvs dl ∧ ∀ S, Reps K S dds dvs
theorem Fn1.fn {P : Program} {w : World} {K : PySem.W.Frag} {mg : Str → Option Value} {base : Heap} {k : Nat} {x : Str} {ps : List Str} {dds : List D} {sp : DSp} (h : Fn1 P w K mg base k x ps dds sp) : Fn P w K mg base k x ps sp := by
  obtain ⟨f, fd, dvs, dl, G, hm, hk, hb, _⟩ := h.ex
  exact ⟨⟨f, fd, G, hm, hk, hb⟩⟩
theorem Fn1.of {P : Program} {w : World} {K : PySem.W.Frag} {mg : Str → Option Value} {base : Heap} {k j : Nat} {x : Str} {ps : List Str} {dds : List D} {sp sp' : DSp} (h : Fn1 P w K mg base k x ps dds sp) (l : k ≤ j) (i : ∀ ds M Q E, sp' ds M Q E → sp ds M Q E) : Fn1 P w K mg base j x ps dds sp' := by
  obtain ⟨f, fd, dvs, dl, G, r⟩ := h.ex
  exact ⟨⟨f, fd, dvs, dl, (G.mono l).imp (LSp.imp i), r⟩⟩
end DL
namespace DL
open PySem PySem.Spec PyProof.Rows L2
variable [Gh]

mutual
def WT.parts (p : List Nat) : WT → List (List Nat × WT)
  | .un k v => (p, .un k v) :: WT.parts (p ++ [0]) v
  | .many c ws => (p, .many c ws) :: WT.partsL p 0 ws
  | .nothing => [(p, .nothing)]
  | .one => [(p, .one)]
  | .letter s => [(p, .letter s)]
  | .call s => [(p, .call s)]
def WT.partsL (p : List Nat) (i : Nat) : List WT → List (List Nat × WT)
  | [] => []
  | w :: ws => WT.parts (p ++ [i]) w ++ WT.partsL p (i + 1) ws
end
def WT.calls (w : WT) : List Str := ((w.parts []).filter fun q => q.2.word == ("call" : Str)).map fun q => q.2.sign
end DL
namespace DL
open PySem PySem.Spec PyProof.Rows L2
variable [Gh]

def tkAgain (f : Nat → Option Nat) : Nat → Nat → Nat
  | 0, _ => 0
  | n + 1, p => match f p with
    | some (t + 1) => (t + 1) + tkAgain f n (p + (t + 1))
    | _ => 0
mutual
def tk (l : List Nat) : WT → Nat → Option Nat
  | .nothing, _ => some 0
  | .one, p => if p < l.length then some 1 else none
  | .letter s, p => (match l[p]? with
    | some c => if tx [c] = s then some 1 else none
    | none => none)
  | .call _, _ => none
  | .un .again w, p => some (tkAgain (tk l w) (l.length + 1) p)
  | .un .maybe w, p => some ((tk l w p).getD 0)
  | .un .ahead w, p => (tk l w p).map fun _ => 0
  | .un .unless w, p => (match tk l w p with
    | none => some 0
    | some _ => none)
  | .many true ws, p => tkChoice l ws p
  | .many false ws, p => tkRow l ws p
def tkRow (l : List Nat) : List WT → Nat → Option Nat
  | [], _ => some 0
  | w :: ws, p => (match tk l w p with
    | none => none
    | some t => (tkRow l ws (p + t)).map (t + ·))
def tkChoice (l : List Nat) : List WT → Nat → Option Nat
  | [], _ => none
  | w :: ws, p => (match tk l w p with
    | some t => some t
    | none => tkChoice l ws p)
end
def optD : Option Nat → D
  | none => .non
  | some t => .int (t : Nat)

mutual
/-- no calls; each letter a plain one -/
def WT.pln : WT → Prop
  | .letter s => PyData.strOk s = true
  | .call _ => False
  | .un _ w => w.pln
  | .many _ ws => WT.plns ws
  | _ => True
def WT.plns : List WT → Prop
  | [] => True
  | w :: ws => w.pln ∧ WT.plns ws
end
def CpOk (l : List Nat) : Prop := ∀ c ∈ l, c < 1114112
end DL
namespace DL
open PySem PySem.Spec PyProof.Rows L2
variable [Gh]
theorem deq_bf (b : Bool) : deq (.bl b) (.bl false) = nb b := by cases b <;> rfl
theorem deq_bt (b : Bool) : deq (.bl b) (.bl true) = b := by cases b <;> rfl
end DL
namespace DL
open PySem PySem.Spec PyProof.Rows L2
variable [Gh]

structure Nd where
  word : Str
  sign : Str
  below : List Nat
@[reducible] def natsD (l : List Nat) : D := .lst (l.map fun n => .int (n : Nat))
@[reducible] def Nd.d (n : Nd) : D := .tup [.str n.word, .str n.sign, natsD n.below]
def Nd.up (k : Nat) (n : Nd) : Nd := ⟨n.word, n.sign, n.below.map (· + k)⟩
mutual
def WT.nodes : WT → List Nd
  | .nothing => [⟨"nothing", "", []⟩]
  | .one => [⟨"one", "", []⟩]
  | .letter s => [⟨"letter", s, []⟩]
  | .call s => [⟨"call", s, []⟩]
  | .un k v => v.nodes ++ [⟨k.s, "", [v.nodes.length - 1]⟩]
  | .many c ws => (WT.nodesL ws [] []).1 ++ [⟨manyS c, "", (WT.nodesL ws [] []).2⟩]
def WT.nodesL : List WT → List Nd → List Nat → List Nd × List Nat
  | [], ns, tops => (ns, tops)
  | w :: ws, ns, tops => WT.nodesL ws (ns ++ w.nodes.map (Nd.up ns.length)) (tops ++ [(ns ++ w.nodes.map (Nd.up ns.length)).length - 1])
end
inductive All2 {α β : Type} (R : α → β → Prop) : List α → List β → Prop where
  | nil : All2 R [] []
  | cons {a b as bs} : R a b → All2 R as bs → All2 R (a :: as) (b :: bs)
theorem All2.imp {α β : Type} {R R' : α → β → Prop} (h : ∀ a b, R a b → R' a b) : ∀ {as bs}, All2 R as bs → All2 R' as bs
  | _, _, .nil => .nil
  | _, _, .cons r t => .cons (h _ _ r) (t.imp h)
theorem All2.map_l {α β γ : Type} {R : α → β → Prop} {R' : γ → β → Prop} {f : α → γ} (h : ∀ a b, R a b → R' (f a) b) : ∀ {as bs}, All2 R as bs → All2 R' (as.map f) bs
  | _, _, .nil => .nil
  | _, _, .cons r t => .cons (h _ _ r) (t.map_l h)
theorem All2.length {α β : Type} {R : α → β → Prop} : ∀ {as bs}, All2 R as bs → as.length = bs.length
  | _, _, .nil => rfl
  | _, _, .cons _ t => congrArg Nat.succ t.length
/-- the nodes tell the parts at their places -/
structure GoodN (ns : List Nd) (ps : List WT) : Prop where
  len : ns.length = ps.length
  at_ : ∀ (i : Nat) (n : Nd) (v : WT), ns[i]? = some n → ps[i]? = some v → n.word = v.word ∧ n.sign = v.sign ∧ All2 (fun j u => j < i ∧ ps[j]? = some u) n.below v.inner
theorem GoodN.up {ns : List Nd} {ps qs : List WT} (g : GoodN ns ps) {ms : List Nd} (h : GoodN ms qs) : GoodN (ms ++ ns.map (Nd.up ms.length)) (qs ++ ps) := by
  refine ⟨by rw [List.length_append, List.length_append, List.length_map, g.len, h.len], fun i n v e1 e2 => ?_⟩
  by_cases hi : i < ms.length
  · rw [List.getElem?_append_left hi] at e1
    rw [List.getElem?_append_left (by rw [← h.len]; exact hi)] at e2
    obtain ⟨h1, h2, h3⟩ := h.at_ i n v e1 e2
    refine ⟨h1, h2, h3.imp fun j u ⟨hj, hu⟩ => ⟨hj, ?_⟩⟩
    rw [List.getElem?_append_left (List.getElem?_eq_some_iff.mp hu).1]
    exact hu
  · rw [List.getElem?_append_right (by omega), List.getElem?_map] at e1
    rw [List.getElem?_append_right (by rw [← h.len]; omega), ← h.len] at e2
    cases e : ns[i - ms.length]? with
    | none => rw [e] at e1; cases e1
    | some m =>
      rw [e] at e1
      cases e1
      obtain ⟨h1, h2, h3⟩ := g.at_ _ m v e e2
      refine ⟨h1, h2, h3.map_l fun j u ⟨hj, hu⟩ => ⟨by omega, ?_⟩⟩
      rw [List.getElem?_append_right (by rw [← h.len]; omega), ← h.len, Nat.add_sub_cancel]
      exact hu
end DL
namespace DL
open PySem PySem.Spec PyProof.Rows L2
variable [Gh]

structure TabAt (l : List Nat) (ps : List WT) (as : List Addr) (M : Mem) (fil : Nat → Nat → Prop) : Prop where
  len : as.length = ps.length
  row : ∀ (i : Nat) (a : Addr) (v : WT), as[i]? = some a → ps[i]? = some v → ∃ ds, M a = some (.lst ds) ∧ ds.length = l.length + 1 ∧ ∀ q, fil i q → q ≤ l.length → ds[q]? = some (optD (tk l v q))
theorem TabAt.imp {l : List Nat} {ps : List WT} {as : List Addr} {M : Mem} {fil fil' : Nat → Nat → Prop} (t : TabAt l ps as M fil) (h : ∀ i q, i < as.length → q ≤ l.length → fil' i q → fil i q) : TabAt l ps as M fil' :=
  ⟨t.len, fun i a v e1 e2 => by
    obtain ⟨ds, h1, h2, h3⟩ := t.row i a v e1 e2
    exact ⟨ds, h1, h2, fun q hf hq => h3 q (h i q (List.getElem?_eq_some_iff.mp e1).1 hq hf) hq⟩⟩
theorem TabAt.get {l : List Nat} {ps : List WT} {as : List Addr} {M : Mem} {fil : Nat → Nat → Prop} (t : TabAt l ps as M fil) {j q : Nat} {u : WT} (h : ps[j]? = some u) (hf : fil j q) (hq : q ≤ l.length) :
    ∃ a ds, atI (as.map D.ref) (j : Int) = some (.ref a) ∧ M a = some (.lst ds) ∧ atI ds (q : Int) = some (optD (tk l u q)) := by
  have hj : j < as.length := by rw [t.len]; exact (List.getElem?_eq_some_iff.mp h).1
  obtain ⟨ds, h1, _, h3⟩ := t.row j as[j] u (by simp [hj]) h
  exact ⟨as[j], ds, by rw [atI_k, List.getElem?_map]; simp [hj], h1, by rw [atI_k]; exact h3 q hf hq⟩
end DL
namespace DL
open PySem PySem.Spec PyProof.Rows L2 He

abbrev FnY : Type := Option (Str × Str × Arguments × FuncBody × Scope × Addr × List Str × Addr)
def fnY (K : PySem.W.Frag) (p : Str × Option Str) : FnY := match K.lookup (fAd K p) with
  | some ⟨_, _, .func fd, _⟩ => some (fd.name, fd.qualname, fd.params, fd.body, fd.scope, fd.globals, fd.closure.map (·.1), fd.builtins)
  | _ => none
def valY (d : DefD) : FnY := some (d.name, d.qual, d.params, .stmts d.body, d.scope, mainGlobals, ["__class__"], builtinsNs)
/-- what stands of a def with super() at its class: f2 the base's method -/
def supB (file : Str) (K : PySem.W.Frag) (d : DefD) : Bool := match K.lookup (fAd K d.at_) with
  | some ⟨_, _, .func fd, _⟩ => (match fd.closure, fd.code, fd.defaults with
    | [(_, cc)], .ref cda, .none => PySem.W.codeIn K (.ref cda) d.qual && ((match K.lookup cda with
        | some ⟨_, _, .fields vs, _⟩ => (match (vs[2]? : Option Value) with
          | some (Value.str fl _) => file == fl
          | _ => false)
        | _ => false) && (match K.lookup cc with
        | some ⟨_, _, .cell (some (.ref D)), _⟩ => decide (D = ga K d.at_.1)
        | _ => false))
    | _, _, _ => false)
  | _ => false
/-- .. and of the base's method -/
def baseB (K : PySem.W.Frag) (C f2 : Addr) : Bool := (PySem.W.clsIn K C).isSome && (decide (PySem.W.mroIn K C (.ref C) = some true) && (eqO (PySem.W.ks_superIn K C C "__init__") (some (some (.ref f2))) && (decide (PySem.W.typeIn K (.ref f2) = some (.type "function")) && (PySem.W.fnIn K f2 && eqO (PySem.W.nsIn K cStatics "thirdparty.any") (some none)))))
abbrev AlY : Type := AlD × (Bool × List FnY)
def obsY (fa : List Fa) (fn sn : List DefD) (ex : PySem.W.Frag → Bool) (K : PySem.W.Frag) : AlY := (obsD fa fn K, (ex K, sn.map fun d => fnY K d.at_))
def valYs (fn sn : List DefD) : AlY := (valD fn, (true, sn.map valY))
def SaysY (fa : List Fa) (fn sn : List DefD) (ex : PySem.W.Frag → Bool) (K : PySem.W.Frag) : Prop := obsY fa fn sn ex K = valYs fn sn
end DL
namespace DL
open PySem PySem.Spec PyProof.Rows L2 He

section
variable {fa : List Fa} {fn sn : List DefD} {ex : PySem.W.Frag → Bool} {K : PySem.W.Frag}
theorem SaysY.d (c : SaysY fa fn sn ex K) : SaysD fa fn K := congrArg (fun z : AlY => z.1) c
theorem SaysY.more (c : SaysY fa fn sn ex K) : ex K = true := congrArg (fun z : AlY => z.2.1) c
end
end DL
namespace DL
open PySem PySem.Spec PyProof.Rows PySem.W PySem.Calls HandSHeadRun in
def RunA (r : OpenRow) (q : Program) (M : Nat) (loose : List PySem.Str) (w : World) : Prop :=
  ∀ os : OsState, (endF (stepQ (denQ tabQ) r.prog w) M r.prog w os).map (fun s => (looksF r.prog (boot_heap w.params) s.abs, seenQ q loose (importedModules r.prog.main.body) (fun s => xlAt q [] s && recOk r.toRowW.records s) s.abs)) = some (true, openGood q loose)
open PySem PySem.Spec PyProof.Rows PySem.W PySem.Calls HandSHeadRun in
def RunB (r : OpenRow) (H : Hook) (ob : SharedT → H.α) (M : Nat) (w : World) : Prop :=
  ∀ os : OsState, (endF (stepQ (denQ tabQ) r.prog w) M r.prog w os).map (fun s => ob s) = some (H.val w)
open PySem PySem.Spec PyProof.Rows PySem.W PySem.Calls HandSHeadRun in
theorem run_ab {r : OpenRow} {q : Program} {H : Hook} {ob : SharedT → H.α} {M : Nat} {loose : List PySem.Str} {w : World} (a : RunA r q M loose w) (b : RunB r H ob M w) : RunEq r q H ob M loose w := fun os => by
  have ha := a os
  have hb := b os
  cases e : endF (stepQ (denQ tabQ) r.prog w) M r.prog w os with
  | none => rw [e] at ha; cases ha
  | some s =>
    rw [e] at ha hb
    have h1 := Option.some.inj ha
    have h2 := Option.some.inj hb
    show some (_, _, ob s) = _
    rw [show ob s = H.val w from h2]
    have h3 := congrArg Prod.fst h1
    have h4 := congrArg Prod.snd h1
    show some (looksF r.prog (boot_heap w.params) s.abs, seenQ q loose (importedModules r.prog.main.body) (fun s => xlAt q [] s && recOk r.toRowW.records s) s.abs, H.val w) = _
    rw [show looksF r.prog (boot_heap w.params) s.abs = true from h3, show seenQ q loose (importedModules r.prog.main.body) (fun s => xlAt q [] s && recOk r.toRowW.records s) s.abs = openGood q loose from h4]
end DL
namespace DL
open PySem PySem.Spec PyProof.Rows L2
variable [Gh]
abbrev EqR := V → V → Hp → Bool → Prop
/-- == inside a builtin tells the Bool and only makes things -/
def EqB (X : Cx) (n : Nat) (D : EqR) : Prop :=
  ∀ (A : Around) (pins : List (Addr × Obj)) (s : Shared) (σ : L2.St) (H : Hp) (x y : V) (u v : Value) (b : Bool), Sub X n A → Inv X pins σ H s → RelV x u → RelV y v → D x y H b →
    wpAny (model X.prog X.w) A (eqBool u v) (fun r s' => r = b ∧ ∃ H', Inv X pins σ H' s' ∧ Same H H') X.xe s
def RcB (X : Cx) (n : Nat) (D : EqR) : Prop :=
  ∀ (A : Around) (pins : List (Addr × Obj)) (s : Shared) (σ : L2.St) (H : Hp) (x y : V) (u v : Value) (b : Bool), Sub X n A → Inv X pins σ H s → RelV x u → RelV y v → D x y H b →
    wpAny (model X.prog X.w) A (richCompare .Eq u v) (fun r s' => r = .bool b ∧ ∃ H', Inv X pins σ H' s' ∧ Same H H') X.xe s
abbrev RdB := D → D → Bool → Prop
def DR (K : PySem.W.Frag) (rd : RdB) : EqR := fun x y H b => ∃ S d e, Same S H ∧ Rep K S d x ∧ Rep K S e y ∧ rd d e b
theorem DR.mono {K : PySem.W.Frag} {rd : RdB} {x y : V} {H H' : Hp} {b : Bool} (h : DR K rd x y H b) (e : Same H H') : DR K rd x y H' b := by
  obtain ⟨S, d, f, s, r1, r2, q⟩ := h
  exact ⟨S, d, f, s.trans e, r1, r2, q⟩
end DL
namespace DL
open PySem PySem.Spec PyProof.Rows L2
variable [Gh]
section
variable {X : Cx} {n m : Nat} {rd rd' : RdB}
theorem EqB.mono {D : EqR} (h : EqB X n D) (hn : n ≤ m) : EqB X m D := fun A pins s σ H x y u v b sb => h A pins s σ H x y u v b (sb.mono hn)
theorem RcB.mono {D : EqR} (h : RcB X n D) (hn : n ≤ m) : RcB X m D := fun A pins s σ H x y u v b sb => h A pins s σ H x y u v b (sb.mono hn)
theorem EqB.or (h : EqB X n (DR X.K rd)) (h' : EqB X n (DR X.K rd')) : EqB X n (DR X.K fun d e b => rd d e b ∨ rd' d e b) := fun A pins s σ H x y u v b sb I rx ry d => by
  obtain ⟨S, d, e, ss, r1, r2, q | q⟩ := d
  · exact h A pins s σ H x y u v b sb I rx ry ⟨S, d, e, ss, r1, r2, q⟩
  · exact h' A pins s σ H x y u v b sb I rx ry ⟨S, d, e, ss, r1, r2, q⟩
end
end DL
namespace DL
open PySem PySem.Spec PyProof.Rows L2
variable [Gh]
/-- which sort a way is, by a number -/
def WT.tag : WT → Nat
  | .nothing => 0 | .one => 1 | .letter _ => 2 | .call _ => 3
  | .un .again _ => 4 | .un .maybe _ => 5 | .un .ahead _ => 6 | .un .unless _ => 7
  | .many false _ => 8 | .many true _ => 9
def wcode (s : Str) : Nat := if s = "nothing" then 0 else if s = "one" then 1 else if s = "letter" then 2 else if s = "call" then 3 else if s = "again" then 4 else if s = "maybe" then 5 else if s = "ahead" then 6 else if s = "unless" then 7 else if s = "row" then 8 else 9
theorem WT.tag_word (v : WT) : wcode v.word = v.tag := by
  cases v with
  | nothing => show wcode "nothing" = 0; decide +kernel
  | one => show wcode "one" = 1; decide +kernel
  | letter s => show wcode "letter" = 2; decide +kernel
  | call s => show wcode "call" = 3; decide +kernel
  | un k w =>
    cases k
    · show wcode "again" = 4; decide +kernel
    · show wcode "maybe" = 5; decide +kernel
    · show wcode "ahead" = 6; decide +kernel
    · show wcode "unless" = 7; decide +kernel
  | many c ws =>
    cases c
    · show wcode "row" = 8; decide +kernel
    · show wcode "choice" = 9; decide +kernel
theorem WT.ext {v u : WT} (h1 : v.word = u.word) (h2 : v.sign = u.sign) (h3 : v.inner = u.inner) : v = u := by
  have q : v.tag = u.tag := by rw [← v.tag_word, ← u.tag_word, h1]
  clear h1
  match v, u, q, h2, h3 with
  | .nothing, .nothing, _, _, _ => rfl
  | .one, .one, _, _, _ => rfl
  | .letter _, .letter _, _, h2, _ => exact congrArg _ h2
  | .call _, .call _, _, h2, _ => exact congrArg _ h2
  | .un .again _, .un .again _, _, _, h3 => exact congrArg _ (List.cons.inj h3).1
  | .un .maybe _, .un .maybe _, _, _, h3 => exact congrArg _ (List.cons.inj h3).1
  | .un .ahead _, .un .ahead _, _, _, h3 => exact congrArg _ (List.cons.inj h3).1
  | .un .unless _, .un .unless _, _, _, h3 => exact congrArg _ (List.cons.inj h3).1
  | .many false _, .many false _, _, _, h3 => exact congrArg _ h3
  | .many true _, .many true _, _, _, h3 => exact congrArg _ h3
theorem Rep.way {K : PySem.W.Frag} {S : Hp} {W : WA} {v : WT} {x : V} (r : Rep K S (v.o W) x) : ∃ a C dx n2 xs2 x3 p, x = .ref a ∧ W.has C ∧
    S a = some (.ins C dx ((("word" : Str), V.str v.word) :: ((("sign" : Str)), V.str v.sign) :: ((("inner" : Str)), V.ref p) :: n2)) ∧ SqT K S p x3 ∧ Reps K S (v.inner.map (WT.o W)) x3 ∧ xs2 = () := by
  obtain ⟨C, ns, ds, ho, hC⟩ := WT.o_obj W v
  rw [ho] at r
  obtain ⟨a, dx, xs, rfl, h, l, q⟩ := r
  obtain ⟨x1, xs, rfl, q1, q⟩ := q.cons_inv
  obtain ⟨x2, xs, rfl, q2, q⟩ := q.cons_inv
  obtain ⟨x3, xs, rfl, q3, q⟩ := q.cons_inv
  cases q1
  cases q2
  obtain ⟨p, ys, rfl, t1, t2⟩ := q3
  exact ⟨a, C, dx, _, (), ys, p, rfl, hC, h, t1, t2, rfl⟩
theorem relV_abs {x : V} {u : Value} (h : L2.RelV x u) : absV u = some x := by
  cases x with
  | non => rw [show u = _ from h]; rfl
  | bl b => rw [show u = _ from h]; rfl
  | int i => obtain ⟨t, rfl⟩ := h; rfl
  | str i => obtain ⟨t, rfl⟩ := h; rfl
  | byt i => obtain ⟨t, rfl⟩ := h; rfl
  | flt i => obtain ⟨t, rfl⟩ := h; rfl
  | ref a => rw [show u = _ from h]; rfl
  | ty a => rw [show u = _ from h]; rfl
theorem vals_inj : ∀ {xs ys : List V} {us : List Value}, Vals xs us → Vals ys us → xs = ys
  | _, _, _, .nil, .nil => rfl
  | _, _, _, .cons a r, .cons b q => by
    rw [vals_inj r q]
    have := (relV_abs a).symm.trans (relV_abs b)
    cases this
    rfl
theorem SqT.inj {K : PySem.W.Frag} {S : Hp} {a : Addr} {xs ys : List V} (hn : ∀ a o, K.lookup a = some o → S a = none) (h : SqT K S a xs) (h' : SqT K S a ys) : xs = ys := by
  rcases h with (h | ⟨o, h⟩) | ⟨o, its, n, h1, _, h2, _, h3⟩
  · rcases h' with (h' | ⟨o', h'⟩) | ⟨o', its', n', h1', _⟩
    · rw [h] at h'; cases h'; rfl
    · rw [h] at h'; cases h'
    · rw [hn _ _ h1'] at h; cases h
  · rcases h' with (h' | ⟨o', h'⟩) | ⟨o', its', n', h1', _⟩
    · rw [h] at h'; cases h'
    · rw [h] at h'; cases h'; rfl
    · rw [hn _ _ h1'] at h; cases h
  · rcases h' with (h' | ⟨o', h'⟩) | ⟨o', its', n', h1', _, h2', _, h3'⟩
    · rw [hn _ _ h1] at h'; cases h'
    · rw [hn _ _ h1] at h'; cases h'
    · rw [h1] at h1'
      cases h1'
      rw [h2] at h2'
      cases h2'
      exact vals_inj h3 h3'

end DL
namespace DL
open PySem PySem.Spec PyProof.Rows L2
variable [Gh]
section
variable {X : Cx} {n : Nat} {f : Addr} {fd : FuncData} {ps : List Str} {sp : Sp}
theorem CallD.or {f : Value} {rd rd' : RDA} (h : CallD X f rd) (h' : CallD X f rd') : CallD X f (fun ds env M Q => rd ds env M Q ∨ rd' ds env M Q) := by
  obtain ⟨r, a1, a2⟩ := h.ex
  obtain ⟨r', b1, b2⟩ := h'.ex
  refine ⟨⟨_, a1.or b1, fun F S σ H env M xs ds Qd Q R rr q p => ?_⟩⟩
  rcases q with q | q
  · exact .inl (a2 F S σ H env M xs ds Qd Q R rr q p)
  · exact .inr (b2 F S σ H env M xs ds Qd Q R rr q p)
end
end DL
namespace DL
open PySem PySem.Spec PyProof.Rows L2
variable [Gh]
/-- a method of the text for all ways, called by its name -/
structure MethW (P : Program) (w : World) (K : PySem.W.Frag) (mg : Str → Option Value) (base : Heap) (W : WA) (m : Str) (k : Nat) (f : Addr) (sp : DSp) : Prop where
  ex : ∃ fd ps, FnOk P w K mg base CX0 k f fd ps (LSp K sp) ∧ Binds K fd ps []
  cls : ∀ C, W.has C → Cls K C ∧ Meth K C m f
  fld : ∀ v : WT, ∃ C ns ds, v.o W = .obj C ns ds ∧ fget m ns ds = none
end DL
namespace DL
open PySem PySem.Spec PyProof.Rows L2
variable [Gh]
section
variable {X : Cx} {k : Nat} {W : WA} {m : Str} {f : Addr} {sp : DSp} {o e : Expr} {es : List Expr} {pos apos : Pos} {ta : DT} {t : DTA}
theorem MethW.ok (h : MethW X.prog X.w X.K X.mg X.base W m k f sp) (v : WT) : ∃ C ns ds, v.o W = .obj C ns ds ∧ MethOk X.K C m f ns ds := by
  obtain ⟨C, ns, ds, ho, hf⟩ := h.fld v
  obtain ⟨C', ns', ds', ho', hC⟩ := WT.o_obj W v
  rw [ho'] at ho
  cases ho
  obtain ⟨c1, c2⟩ := h.cls _ hC
  exact ⟨_, _, _, ho', c1, c2, hf⟩
end
end DL
namespace DL
open PySem PySem.Spec PyProof.Rows L2
variable [Gh]
/-- the part with a path -/
def WT.at : WT → List Int → Option WT
  | v, [] => some v
  | v, i :: p => if 0 ≤ i ∧ i < v.inner.length then (match v.inner[i.toNat]? with
    | some u => u.at p
    | none => none) else none
end DL
namespace DL
open PySem PySem.Spec PyProof.Rows L2 He
def wayNs : List Str := ["Letter", "One", "Nothing", "Row", "Choice", "Again", "Maybe", "Ahead", "Unless", "Call"]
/-- the base's method m is found at all ways' classes -/
def metB (K : PySem.W.Frag) (m : Str) : Bool := (wayNs.all fun c => eqO (PySem.W.findIn K (.ref (ga K c)) m) (some (some (.ref (fAd K ("Way", some m)))))) && (PySem.W.isFn K (.ref (fAd K ("Way", some m))) && PySem.W.keepIn K (.ref (fAd K ("Way", some m))))
def isB (K : PySem.W.Frag) (c : Str) : Bool := eqO (PySem.W.findIn K (.ref (ga K c)) "__class__") (some (some (.builtin "object.__class__"))) && decide (PySem.W.mroIn K (ga K c) (.type "object") = some true)
def clsB (K : PySem.W.Frag) : Bool := eqO (PySem.W.specialIn K (.builtin "object.__class__") "__get__") (some (some (.builtin "getset_descriptor.__get__"))) && decide (PySem.W.takesIn K (.builtin "object.__class__") = some true)
/-- == of ways -/
def eqWB (K : PySem.W.Frag) : Bool := metB K "__eq__" && (clsB K && ((wayNs.all fun c => isB K c && (decide (PySem.W.kitOne K (.ref (ga K c)) (.ref (ga K "Way")) = some true) && (PySem.W.notFirst K (ga K c) (.type "str") && (PySem.W.notFirst K (ga K c) (.type "tuple") && wayNs.all fun c' => PySem.W.notFirst K (ga K c) (.ref (ga K c')))))) &&
  (decide (PySem.W.kitOne K (.type "str") (.ref (ga K "Way")) = some false) && decide (PySem.W.kitOne K (.type "tuple") (.ref (ga K "Way")) = some false))))
end DL
namespace DL
open PySem PySem.Spec PyProof.Rows L2 He
abbrev AlZ : Type := AlY × List (Option (List (Option (Str × Int))))
def obsZ (fa : List Fa) (fn sn : List DefD) (ex : PySem.W.Frag → Bool) (ts : List Tab) (K : PySem.W.Frag) : AlZ := (obsY fa fn sn ex K, ts.map fun t => dicW K (t.1 K))
def valZ (fn sn : List DefD) (ts : List Tab) (w : World) : AlZ := (valYs fn sn, ts.map fun t => some (keysIn w.params t.2))
def SaysZ (fa : List Fa) (fn sn : List DefD) (ex : PySem.W.Frag → Bool) (ts : List Tab) (w : World) (K : PySem.W.Frag) : Prop := obsZ fa fn sn ex ts K = valZ fn sn ts w
end DL
namespace DL
open PySem PySem.Spec PyProof.Rows L2 He
section
variable {fa : List Fa} {fn sn : List DefD} {ex : PySem.W.Frag → Bool} {ts : List Tab} {w : World} {K : PySem.W.Frag}
theorem SaysZ.y (c : SaysZ fa fn sn ex ts w K) : SaysY fa fn sn ex K := congrArg (fun z : AlZ => z.1) c
end
end DL
namespace DL
open PySem PySem.Spec PyProof.Rows L2 He
section
variable {K : PySem.W.Frag}
/-- the table of signs -/
def marksV : List (Str × Dv) := [("again", .str "*"), ("maybe", .str "?"), ("ahead", .str "&"), ("unless", .str "!")]
end
end DL
namespace DL
open PySem PySem.Spec PyProof.Rows L2

theorem XRep.mono {K : PySem.W.Frag} {S S' : Hp} {od : Option Addr} {ns : List Str} {ds : List D} (e : Same S S') (h : XRep K S od ns ds) : XRep K S' od ns ds := by
  rcases h with h | ⟨d, xs, h1, h2, h3, h4⟩
  · exact .inl h
  · exact .inr ⟨d, xs, h1, e _ _ h2, h3, h4.mono e⟩
theorem RelC.sub {K : PySem.W.Frag} {F F' S H : Hp} {M : Mem} (c : RelC K F' S H M) (e : Same F F') : RelC K F S H M := ⟨c.same, fun a o q => c.fr a o (e a o q), c.mem⟩
/-- a def of the top that may raise keeps a promise -/
structure FnX (P : Program) (w : World) (K : PySem.W.Frag) (mg : Str → Option Value) (base : Heap) (k : Nat) (x : Str) (ps : List Str) (sp : DSp) : Prop where
  ex : ∃ f fd, FnOk P w K mg base (L2.CX P w) k f fd ps (LSp K sp) ∧ mg x = some (.ref f) ∧ PySem.W.keepIn K (.ref f) = true ∧ Binds K fd ps []
theorem FnX.mono {P : Program} {w : World} {K : PySem.W.Frag} {mg : Str → Option Value} {base : Heap} {j k : Nat} {x : Str} {ps : List Str} {sp : DSp} (h : FnX P w K mg base j x ps sp) (l : j ≤ k) : FnX P w K mg base k x ps sp := by
  obtain ⟨f, fd, G, r⟩ := h.ex
  exact ⟨⟨f, fd, G.mono l, r⟩⟩
theorem FnX.imp {P : Program} {w : World} {K : PySem.W.Frag} {mg : Str → Option Value} {base : Heap} {k : Nat} {x : Str} {ps : List Str} {sp sp' : DSp} (h : FnX P w K mg base k x ps sp) (i : ∀ ds M Q E, sp' ds M Q E → sp ds M Q E) : FnX P w K mg base k x ps sp' := by
  obtain ⟨f, fd, G, r⟩ := h.ex
  exact ⟨⟨f, fd, G.imp (LSp.imp i), r⟩⟩
/-- what an own __init__ of an exception class does: its arguments are kept under these names -/
def spXI (C : Addr) (ns : List Str) : Sp := fun vs H Q _ => ∃ a ws, vs = .ref a :: ws ∧ ws.length = ns.length ∧ H a = some (exo a C none) ∧ ∀ d, H d = none → d ≠ a → Q .non (upd (upd H d (exd d (ns.reverse.zip ws.reverse))) a (exo a C (some d)))
structure ExCl (P : Program) (w : World) (K : PySem.W.Frag) (mg : Str → Option Value) (base : Heap) (k : Nat) (x : Str) (C : Addr) (ns : List Str) : Prop where
  oex : OexC K C
  gm : mg x = some (.ref C)
  ex : ∃ fI fd ps, PySem.W.findIn K (.ref C) "__init__" = some (some (.ref fI)) ∧ PySem.W.typeIn K (.ref fI) = some (.type "function") ∧ FnOk P w K mg base CX0 k fI fd ps (spXI C ns) ∧ Binds K fd ps []
end DL
namespace DL
open PySem PySem.Spec PyProof.Rows L2

/-- what super().__init__ asks of the text's kept part, where ValueError's is meant -/
structure SupXK (P : Program) (K : PySem.W.Frag) (cc cda C : Addr) : Prop where
  code : ∃ ccl cdd vs ccs file tf, K.lookup cda = some ⟨ccl, cdd, .fields vs, ccs⟩ ∧ vs[2]? = some (.str file tf) ∧ ((P.main.file : Str) == file) = true
  cell : ∃ cl cld csl, K.lookup cc = some ⟨cl, cld, .cell (some (.ref C)), csl⟩
  cls : ∃ cdD, PySem.W.clsIn K C = some cdD
  sub : PySem.W.mroIn K C (.ref C) = some true
  subV : PySem.W.subIn K (.ref C) (.type "ValueError") = some true
  find : PySem.W.ks_superIn K C C "__init__" = some (some (.builtin "ValueError.__init__"))
  st : PySem.W.nsIn K cStatics "thirdparty.any" = some none
  top : (P.main.scope.names.lookup ("super" : Str)).isSome = false
  oex : OexC K C
end DL
namespace DL
open PySem PySem.Spec PyProof.Rows L2
/-- a class whose __init__ may raise -/
structure ClE (P : Program) (w : World) (K : PySem.W.Frag) (mg : Str → Option Value) (base : Heap) (k : Nat) (x : Str) (C : Addr) (ps : List Str) (sp : DSp) : Prop where
  ex : ∃ f fd, FnOk P w K mg base (L2.CX P w) k f fd ps (LSp K sp) ∧ Mk K C f ∧ mg x = some (.ref C) ∧ Binds K fd ps []
theorem ClE.gm {P : Program} {w : World} {K : PySem.W.Frag} {mg : Str → Option Value} {base : Heap} {k : Nat} {x : Str} {C : Addr} {ps : List Str} {sp : DSp} (h : ClE P w K mg base k x C ps sp) : mg x = some (.ref C) := by
  obtain ⟨_, _, _, _, hm, _⟩ := h.ex
  exact hm
end DL
namespace DL
open PySem PySem.Spec PyProof.Rows L2

def Nam (t : List Nat) : Prop := 1 ≤ t.length ∧ t.length ≤ 12 ∧ ∀ c ∈ t, c ∈ lettersN
def NamS (s : Str) : Prop := ∃ t, s = tx t ∧ Nam t
theorem NamS.ok {s : Str} (h : NamS s) : PyData.strOk s = true := by
  obtain ⟨t, rfl, _, _, h⟩ := h
  show (t.toArray.all fun x => decide (x < 0x110000)) = true
  simp
  intro c hc
  have := (letters_iff c).mp (h c hc)
  omega
mutual
/-- what a way calls keeps N -/
def WT.cok (N : Str → Prop) : WT → Prop
  | .call s => N s
  | .un _ w => w.cok N
  | .many _ ws => WT.coks N ws
  | .nothing => True
  | .one => True
  | .letter _ => True
def WT.coks (N : Str → Prop) : List WT → Prop
  | [] => True
  | w :: ws => w.cok N ∧ WT.coks N ws
end
abbrev Rules := List (Str × WT)
/-- rules as the laws make them -/
def RlOk (S : Nat) (rs : Rules) : Prop := ∀ r ∈ rs, NamS r.1 ∧ r.2.size ≤ S ∧ r.2.cok NamS
theorem RlOk.cons {S : Nat} {r : Str × WT} {rs : Rules} (h : RlOk S (r :: rs)) : (NamS r.1 ∧ r.2.size ≤ S ∧ r.2.cok NamS) ∧ RlOk S rs := ⟨h r List.mem_cons_self, fun x hx => h x (List.mem_cons_of_mem _ hx)⟩

end DL
namespace DL
open PySem PySem.Spec PyProof.Rows L2
/-- an exception's __init__ of the text as it stands behind the top -/
structure SupXAt (P : Program) (K : PySem.W.Frag) (C : Addr) (nm qual : Str) (ps : List Str) (st : Stmt) (f : Addr) : Prop where
  ex : ∃ cc cda fd, SupD K nm qual (defArgs st) (defBody st) (defScope st) cc cda f fd ∧ SupXK P K cc cda C ∧ Binds K fd ps []
theorem ExCl.mono {P : Program} {w : World} {K : PySem.W.Frag} {mg : Str → Option Value} {base : Heap} {j k : Nat} {x : Str} {C : Addr} {ns : List Str} (h : ExCl P w K mg base j x C ns) (l : j ≤ k) : ExCl P w K mg base k x C ns := by
  obtain ⟨fI, fd, ps, h1, h2, h3, h4⟩ := h.ex
  exact ⟨h.oex, h.gm, fI, fd, ps, h1, h2, h3.mono l, h4⟩
theorem ExCl.of {P : Program} {w : World} {K : PySem.W.Frag} {mg : Str → Option Value} {base : Heap} {k : Nat} {x nm qual : Str} {C f : Addr} {ps ns : List Str} {st : Stmt} (D : SupXAt P K C nm qual ps st f) (hm : mg x = some (.ref C)) (hi : PySem.W.findIn K (.ref C) "__init__" = some (some (.ref f))) (ht : PySem.W.typeIn K (.ref f) = some (.type "function"))
    (h : ∃ fd, FnOk P w K mg base CX0 k f fd ps (spXI C ns) ∧ Binds K fd ps []) : ExCl P w K mg base k x C ns := by
  obtain ⟨cc, cda, fd, G, Sk, hb⟩ := D.ex
  obtain ⟨fd, F, hb⟩ := h
  exact ⟨Sk.oex, hm, f, fd, ps, hi, ht, F, hb⟩
theorem RlOk.app {S : Nat} {a b : Rules} (h : RlOk S a) (q : RlOk S b) : RlOk S (a ++ b) := fun r hr => by
  rcases List.mem_append.mp hr with hr | hr
  · exact h r hr
  · exact q r hr
theorem RlOk.drop {S n : Nat} {a : Rules} (h : RlOk S a) : RlOk S (a.drop n) := fun r hr => h r (List.mem_of_mem_drop hr)
end DL
namespace DL
open PySem PySem.Spec PyProof.Rows L2 He
def excB (K : PySem.W.Frag) (C : Addr) : Bool := match K.lookup C with
  | some ⟨.type "type", _, .cls cd, sl⟩ => (match cd.mro, sl.toList with
    | .ref C' :: bm, [_, _, _, _, some (.builtin n), _] => decide (C' = C) && (decide (n = "ValueError.__new__") && (!cd.hasDel && (cd.hasDict && PySem.HandSPX.refsVE bm)))
    | _, _ => false)
  | _ => false
/-- an exception class with an own __init__ -/
def exB (file : Str) (K : PySem.W.Frag) (d : DefD) (fl : List Str) : Bool := supB file K d && ((PySem.W.clsIn K (ga K d.at_.1)).isSome && (decide (PySem.W.mroIn K (ga K d.at_.1) (.ref (ga K d.at_.1)) = some true) && (decide (PySem.W.subIn K (.ref (ga K d.at_.1)) (.type "ValueError") = some true) &&
  (eqO (PySem.W.ks_superIn K (ga K d.at_.1) (ga K d.at_.1) "__init__") (some (some (.builtin "ValueError.__init__"))) && (eqO (PySem.W.nsIn K cStatics "thirdparty.any") (some none) && (excB K (ga K d.at_.1) && (eqO (PySem.W.findIn K (.ref (ga K d.at_.1)) "__setattr__") (some (some (.builtin "object.__setattr__"))) &&
  (decide (PySem.W.subIn K (.ref (ga K d.at_.1)) (.type "BaseException") = some true) && (decide (PySem.W.typeIn K (.ref (ga K d.at_.1)) = some (.type "type")) && (PySem.W.keepIn K (.ref (ga K d.at_.1)) && (eqO (PySem.W.findIn K (.ref (ga K d.at_.1)) "__getattribute__") (some (some (.builtin "BaseException.__getattribute__"))) &&
  (eqO (PySem.W.findIn K (.ref (ga K d.at_.1)) "__getattr__") (some none) && (PySem.W.hasDictIn K (ga K d.at_.1) && (eqO (PySem.W.findIn K (.ref (ga K d.at_.1)) "__class__") (some (some (.builtin "object.__class__"))) && (eqO (PySem.W.specialIn K (.builtin "object.__class__") "__get__") (some (some (.builtin "getset_descriptor.__get__"))) &&
  (decide (PySem.W.takesIn K (.builtin "object.__class__") = some true) && (decide (PySem.W.mroIn K (ga K d.at_.1) (.type "object") = some true) && (eqO (PySem.W.findIn K (.ref (ga K d.at_.1)) "__init__") (some (some (.ref (fAd K d.at_)))) && (decide (PySem.W.typeIn K (.ref (fAd K d.at_)) = some (.type "function")) &&
  (fl.all fun f => eqO (PySem.W.findIn K (.ref (ga K d.at_.1)) f) (some none)))))))))))))))))))))
/-- x is caught by except c -/
def exmB (K : PySem.W.Frag) (x c : Str) : Bool := decide (PySem.W.exmOne K (.ref (ga K x)) (.ref (ga K c)) = some true)
def kitB (K : PySem.W.Frag) (x c : Str) : Bool := decide (PySem.W.kitOne K (.ref (ga K x)) (.ref (ga K c)) = some true)
end DL
namespace DL
open PySem PySem.Spec PyProof.Rows L2
structure FnOkC (P : Program) (w : World) (K : PySem.W.Frag) (mg : Str → Option Value) (base : Heap) (k : Nat) (f : Addr) (fd : FuncData) (ps : List Str) (sp : Sp) : Prop where
  run : ∀ (s : Shared) (H : Hp) (args : Args) (us : List Value) (vs : List V) (Q : VK) (E : XK), Room k callerA → Env0 P w K mg base callerA [] s H → BindsTo s fd args (ps.zip us) → Vals vs us → sp vs H Q E →
    codeAny (model P w) callerA (.call (.ref f) args) (CR CX0 [] P w H s Q E) s
end DL
namespace DL
open PySem PySem.Spec PyProof.Rows L2
variable [Gh]

inductive Rt (R : Nat → Nat → Prop) (a : Nat) : Nat → Prop
  | refl : Rt R a a
  | step {b c : Nat} : Rt R a b → R b c → Rt R a c
mutual
def En (l : List Nat) : WT → Nat → Nat → Prop
  | .nothing, a, b => ∃ t, tk l .nothing a = some t ∧ b = a + t
  | .one, a, b => ∃ t, tk l .one a = some t ∧ b = a + t
  | .letter s, a, b => ∃ t, tk l (.letter s) a = some t ∧ b = a + t
  | .call s, a, b => ∃ t, tk l (.call s) a = some t ∧ b = a + t
  | .un .again w, a, b => Rt (En l w) a b
  | .un .maybe w, a, b => a = b ∨ En l w a b
  | .un .ahead w, a, b => ∃ t, tk l (.un .ahead w) a = some t ∧ b = a + t
  | .un .unless w, a, b => ∃ t, tk l (.un .unless w) a = some t ∧ b = a + t
  | .many true ws, a, b => EnAny l ws a b
  | .many false ws, a, b => EnRow l ws a b
def EnAny (l : List Nat) : List WT → Nat → Nat → Prop
  | [], _, _ => False
  | w :: ws, a, b => En l w a b ∨ EnAny l ws a b
def EnRow (l : List Nat) : List WT → Nat → Nat → Prop
  | [], a, b => a = b
  | w :: ws, a, b => ∃ m, En l w a m ∧ EnRow l ws m b
end
abbrev Asc (l : List Nat) : Prop := l.Pairwise (· < ·)
theorem Asc.eq : ∀ {xs ys : List Nat}, Asc xs → Asc ys → (∀ b, b ∈ xs ↔ b ∈ ys) → xs = ys
  | [], [], _, _, _ => rfl
  | [], y :: ys, _, _, h => absurd ((h y).mpr (List.mem_cons_self ..)) (List.not_mem_nil)
  | x :: xs, [], _, _, h => absurd ((h x).mp (List.mem_cons_self ..)) (List.not_mem_nil)
  | x :: xs, y :: ys, hx, hy, h => by
    obtain ⟨x1, x2⟩ := List.pairwise_cons.mp hx
    obtain ⟨y1, y2⟩ := List.pairwise_cons.mp hy
    have e : x = y := by
      have a := (h x).mp (List.mem_cons_self ..)
      have b := (h y).mpr (List.mem_cons_self ..)
      rcases List.mem_cons.mp a with a | a
      · exact a
      · rcases List.mem_cons.mp b with b | b
        · exact b.symm
        · have := x1 y b
          have := y1 x a
          omega
    subst e
    rw [Asc.eq x2 y2 fun b => ⟨fun hb => ?_, fun hb => ?_⟩]
    · rcases List.mem_cons.mp ((h b).mp (List.mem_cons_of_mem _ hb)) with z | z
      · have := x1 b hb
        omega
      · exact z
    · rcases List.mem_cons.mp ((h b).mpr (List.mem_cons_of_mem _ hb)) with z | z
      · have := y1 b hb
        omega
      · exact z
theorem Asc.nodup {xs : List Nat} (h : Asc xs) : xs.Nodup := h.imp fun a => Nat.ne_of_lt a
/-- as many as fit -/
theorem nodup_le : ∀ (n : Nat) (xs : List Nat), xs.Nodup → (∀ b ∈ xs, b < n) → xs.length ≤ n
  | 0, [], _, _ => Nat.le_refl _
  | 0, x :: xs, _, h => absurd (h x (List.mem_cons_self ..)) (Nat.not_lt_zero _)
  | n + 1, xs, d, h => by
    have q := nodup_le n (xs.erase n) (d.erase n) fun b hb => by
      have h1 := h b (List.mem_of_mem_erase hb)
      have h2 : b ≠ n := fun z => by
        subst z
        exact (List.Nodup.not_mem_erase d) hb
      omega
    have := List.length_erase (a := n) (l := xs)
    split at this <;> omega
/-- the ends of some places -/
def EndOf (R : Nat → Nat → Prop) (ps qs : List Nat) : Prop := Asc qs ∧ ∀ b, b ∈ qs ↔ ∃ a ∈ ps, R a b
theorem EndOf.eq {R : Nat → Nat → Prop} {ps qs rs : List Nat} (h : EndOf R ps qs) (g : EndOf R ps rs) : qs = rs := h.1.eq g.1 fun b => (h.2 b).trans (g.2 b).symm
structure Clo (R : Nat → Nat → Prop) (L : Nat) (ps found latest : List Nat) : Prop where
  nd : found.Nodup
  le : ∀ b ∈ found, b ≤ L
  all_ : ∀ p ∈ ps, p ∈ found
  of : ∀ b ∈ found, ∃ a ∈ ps, Rt R a b
  lt : ∀ b ∈ latest, b ∈ found
  asc : Asc latest
  cl : ∀ a ∈ found, a ∉ latest → ∀ b, R a b → b ∈ found
theorem Clo.start {R : Nat → Nat → Prop} {L : Nat} {ps : List Nat} (a : Asc ps) (h : ∀ p ∈ ps, p ≤ L) : Clo R L ps ps ps :=
  ⟨a.nodup, h, fun _ h => h, fun b hb => ⟨b, hb, .refl⟩, fun _ h => h, a, fun a h n => absurd h n⟩
theorem Clo.length {R : Nat → Nat → Prop} {L : Nat} {ps found latest : List Nat} (c : Clo R L ps found latest) : found.length ≤ L + 1 := nodup_le (L + 1) found c.nd fun b hb => Nat.lt_succ_of_le (c.le b hb)
end DL
namespace DL
open PySem PySem.Spec PyProof.Rows L2
variable [Gh]
mutual
/-- the widest choice -/
def WT.cw : WT → Nat
  | .un _ v => max 1 v.cw
  | .many true ws => max ws.length (WT.cws ws)
  | .many false ws => WT.cws ws
  | .nothing => 0
  | .one => 0
  | .letter _ => 0
  | .call _ => 0
def WT.cws : List WT → Nat
  | [] => 0
  | w :: ws => max w.cw (WT.cws ws)
end
end DL
namespace DL
open PySem PySem.Spec PyProof.Rows L2
structure FnOkG (P : Program) (w : World) (K : PySem.W.Frag) (mg : Str → Option Value) (base : Heap) (k : Nat) (f : Addr) (fd : FuncData) (ps : List Str) (sp : Sp) : Prop where
  len : ∀ vs H Q E, sp vs H Q E → vs.length = ps.length
  run : ∀ (A : Around) (outer : List Env) (s : Shared) (H : Hp) (args : Args) (us : List Value) (vs : List V) (Q : VK) (E : XK), A.guards = some [] → Room k A → Env0 P w K mg base A outer s H → BindsTo s fd args (ps.zip us) → Vals vs us → sp vs H Q E →
    codeAny (model P w) A (.call (.ref f) args) (CR CX0 outer P w H s Q E) s
end DL
namespace DL
open PySem PySem.Spec PyProof.Rows L2
section
variable {P : Program} {w : World} {K : PySem.W.Frag} {mg : Str → Option Value} {base : Heap} {x qual : Str} {params : Arguments} {body : List Stmt} {scope : Scope} {dvs : List V} {kws : List (Str × V)} {f : Addr} {fd : FuncData}
theorem FnOkG.mono {j k : Nat} {ps : List Str} {sp : Sp} (F : FnOkG P w K mg base j f fd ps sp) (h : j ≤ k) : FnOkG P w K mg base k f fd ps sp := ⟨F.len, fun A outer s H args us vs Q E hg hr => F.run A outer s H args us vs Q E hg (hr.mono h)⟩
theorem FnOkG.c {k : Nat} {ps : List Str} {sp : Sp} (F : FnOkG P w K mg base k f fd ps sp) : FnOkC P w K mg base k f fd ps sp := ⟨fun s H args us vs Q E hr => F.run callerA [] s H args us vs Q E rfl hr⟩
end
end DL
namespace DL
open PySem PySem.Spec PyProof.Rows L2
/-- a def of the top that keeps a promise where nothing is being shown -/
structure FnG (P : Program) (w : World) (K : PySem.W.Frag) (mg : Str → Option Value) (base : Heap) (k : Nat) (x : Str) (ps : List Str) (sp : DSp) : Prop where
  ex : ∃ f fd, FnOkG P w K mg base k f fd ps (LSp K sp) ∧ mg x = some (.ref f) ∧ PySem.W.keepIn K (.ref f) = true ∧ Binds K fd ps []
theorem FnG.mono {P : Program} {w : World} {K : PySem.W.Frag} {mg : Str → Option Value} {base : Heap} {j k : Nat} {x : Str} {ps : List Str} {sp : DSp} (h : FnG P w K mg base j x ps sp) (l : j ≤ k) : FnG P w K mg base k x ps sp := by
  obtain ⟨f, fd, G, r⟩ := h.ex
  exact ⟨⟨f, fd, G.mono l, r⟩⟩
end DL
namespace DL
open PySem PySem.Spec PyProof.Rows L2
variable [Gh]
/-- a text that begins by just n times c -/
structure TextC (tt : List Nat) (c n : Nat) : Prop where
  eq : ∀ i, i < n → tt[i]? = some c
  ne : tt[n]? ≠ some c
  le : n ≤ tt.length
theorem tx_inj1 {a b : Nat} (h : tx [a] = tx [b]) : a = b := by
  have e : (tx [a]).cps.toList = (tx [b]).cps.toList := by rw [h]
  have e' : [a] = [b] := e
  cases e'
  rfl
/-- one letter -/
def letW (c : Nat) : WT := .letter (tx [c])
def sameW (c s : Nat) : WT := if s = 1 then letW c else .many false (List.replicate s (letW c))
end DL
namespace DL
open PySem PySem.Spec PyProof.Rows L2
variable [Gh]
section
variable {tt : List Nat} {c n : Nat}
theorem let_tk (h : TextC tt c n) {a : Nat} (ha : a ≤ n) : tk tt (letW c) a = if a + 1 ≤ n then some 1 else none := by
  unfold letW
  rw [tk]
  by_cases hn : a + 1 ≤ n
  · rw [h.eq a (by omega), if_pos hn]
    simp
  · have e : a = n := by omega
    subst e
    rw [if_neg hn]
    cases hc : tt[a]? with
    | none => rfl
    | some d =>
      have hd : d ≠ c := fun z => h.ne (by rw [hc, z])
      show (if tx [d] = tx [c] then some 1 else none) = none
      rw [if_neg fun z => hd (tx_inj1 z)]
theorem let_En (h : TextC tt c n) {a b : Nat} (ha : a ≤ n) : En tt (letW c) a b ↔ b = a + 1 ∧ b ≤ n := by
  have e : En tt (letW c) a b ↔ ∃ t, tk tt (letW c) a = some t ∧ b = a + t := by
    unfold letW
    rw [En]
  rw [e, let_tk h ha]
  by_cases hn : a + 1 ≤ n
  · rw [if_pos hn]
    constructor
    · rintro ⟨t, e1, rfl⟩
      cases e1
      exact ⟨rfl, hn⟩
    · rintro ⟨rfl, _⟩
      exact ⟨1, rfl, rfl⟩
  · rw [if_neg hn]
    constructor
    · rintro ⟨t, e1, _⟩
      cases e1
    · rintro ⟨rfl, z⟩
      exact absurd z hn
theorem rep_En (h : TextC tt c n) : ∀ (k a b : Nat), a ≤ n → (EnRow tt (List.replicate k (letW c)) a b ↔ b = a + k ∧ b ≤ n)
  | 0, a, b, ha => by
    rw [List.replicate_zero, EnRow]
    omega
  | k + 1, a, b, ha => by
    rw [List.replicate_succ, EnRow]
    constructor
    · rintro ⟨m, e1, e2⟩
      obtain ⟨rfl, hm⟩ := (let_En h ha).mp e1
      have := (rep_En h k (a + 1) b hm).mp e2
      omega
    · rintro ⟨rfl, hb⟩
      exact ⟨a + 1, (let_En h ha).mpr ⟨rfl, by omega⟩, (rep_En h k (a + 1) _ (by omega)).mpr ⟨by omega, hb⟩⟩
theorem same_En (h : TextC tt c n) {s a b : Nat} (ha : a ≤ n) : En tt (sameW c s) a b ↔ b = a + s ∧ b ≤ n := by
  unfold sameW
  by_cases h1 : s = 1
  · rw [if_pos h1, h1]
    exact let_En h ha
  · rw [if_neg h1, En]
    exact rep_En h s a b ha

def Stp (n : Nat) (ss : List Nat) (a b : Nat) : Prop := ∃ s ∈ ss, b = a + s ∧ b ≤ n
def anyW (c : Nat) (ss : List Nat) : WT := match ss with
  | [s] => sameW c s
  | _ => .many true (ss.map (sameW c))
theorem any_En (h : TextC tt c n) {a b : Nat} (ha : a ≤ n) : ∀ ss : List Nat, EnAny tt (ss.map (sameW c)) a b ↔ Stp n ss a b
  | [] => by
    rw [List.map_nil, EnAny]
    exact ⟨fun z => z.elim, fun ⟨s, hs, _⟩ => by cases hs⟩
  | s :: ss => by
    rw [List.map_cons, EnAny, same_En h ha, any_En h ha ss]
    constructor
    · rintro (⟨e, z⟩ | ⟨x, hx, z⟩)
      · exact ⟨s, List.mem_cons_self .., e, z⟩
      · exact ⟨x, List.mem_cons_of_mem _ hx, z⟩
    · rintro ⟨x, hx, z⟩
      rcases List.mem_cons.mp hx with rfl | hx
      · exact .inl z
      · exact .inr ⟨x, hx, z⟩
theorem anyW_En (h : TextC tt c n) {a b : Nat} (ha : a ≤ n) (ss : List Nat) : En tt (anyW c ss) a b ↔ Stp n ss a b := by
  unfold anyW
  split
  · rename_i s
    rw [same_En h ha]
    exact ⟨fun z => ⟨s, List.mem_singleton.mpr rfl, z⟩, fun ⟨x, hx, z⟩ => by rw [List.mem_singleton.mp hx] at z; exact z⟩
  · rw [En]
    exact any_En h ha ss
def fit (n : Nat) (ss : List Nat) (a : Nat) : Option Nat := ss.find? fun s => decide (a + s ≤ n)
theorem Rt_le' {ss : List Nat} {a b : Nat} (ha : a ≤ n) (t : Rt (Stp n ss) a b) : b ≤ n := by
  cases t with
  | refl => exact ha
  | step _ r =>
    obtain ⟨_, _, _, z⟩ := r
    exact z
theorem rounds_En (h : TextC tt c n) (ss : List Nat) (b : Nat) : En tt (.un .again (anyW c ss)) 0 b ↔ Rt (Stp n ss) 0 b := by
  rw [En]
  constructor
  · intro t
    induction t with
    | refl => exact .refl
    | step _ r ih => exact .step ih ((anyW_En h (Rt_le' (Nat.zero_le _) ih) ss).mp r)
  · intro t
    have key : ∀ b, Rt (Stp n ss) 0 b → Rt (En tt (anyW c ss)) 0 b := fun b t => by
      induction t with
      | refl => exact .refl
      | step t r ih => exact .step ih ((anyW_En h (Rt_le' (Nat.zero_le _) t) ss).mpr r)
    exact key b t
/-- the law's sums, up to T -/
structure SumsTo (n : Nat) (ss : List Nat) (T : Nat) (qs : List Nat) : Prop where
  asc : Asc qs
  mem : ∀ b, b ∈ qs ↔ b ≤ T ∧ Rt (Stp n ss) 0 b
theorem SumsTo.start (ss : List Nat) (pos : ∀ s ∈ ss, 0 < s) : SumsTo n ss 0 [0] := ⟨List.pairwise_singleton _ _, fun b => by
  rw [List.mem_singleton]
  exact ⟨fun z => by subst z; exact ⟨Nat.le_refl _, .refl⟩, fun z => by omega⟩⟩
theorem SumsTo.ends (h : TextC tt c n) {ss qs : List Nat} (s : SumsTo n ss n qs) : EndOf (En tt (.un .again (anyW c ss))) [0] qs := ⟨s.asc, fun b => by
  rw [s.mem b]
  constructor
  · rintro ⟨_, z⟩
    exact ⟨0, List.mem_singleton.mpr rfl, (rounds_En h ss b).mpr z⟩
  · rintro ⟨a, ha, z⟩
    rw [List.mem_singleton.mp ha] at z
    have t := (rounds_En h ss b).mp z
    exact ⟨Rt_le' (Nat.zero_le _) t, t⟩⟩
def mayW (c s : Nat) : WT := .un .maybe (sameW c s)
end
end DL
namespace DL
open PySem PySem.Spec PyProof.Rows L2
variable [Gh]
theorem sizes_rep (w : WT) : ∀ k, WT.sizes (List.replicate k w) = k * w.size
  | 0 => by rw [List.replicate_zero, WT.sizes, Nat.zero_mul]
  | k + 1 => by rw [List.replicate_succ, WT.sizes, sizes_rep w k, Nat.succ_mul]; omega
theorem cws_rep (w : WT) (h : w.cw = 0) : ∀ k, WT.cws (List.replicate k w) = 0
  | 0 => rfl
  | k + 1 => by rw [List.replicate_succ, WT.cws, cws_rep w h k, h]; rfl
theorem plns_rep (w : WT) (h : w.pln) : ∀ k, WT.plns (List.replicate k w)
  | 0 => trivial
  | k + 1 => ⟨h, plns_rep w h k⟩
theorem sameW_size (c s : Nat) (hs : s ≤ 9) : (sameW c s).size ≤ 10 := by
  unfold sameW
  split
  · exact (by decide : 1 ≤ 10)
  · show WT.sizes (List.replicate s (letW c)) + 1 ≤ 10
    rw [sizes_rep]
    show s * 1 + 1 ≤ 10
    omega
theorem sameW_cw (c s : Nat) : (sameW c s).cw = 0 := by
  unfold sameW
  split
  · rfl
  · rw [WT.cw]
    exact cws_rep _ rfl s
theorem sameW_pln (c s : Nat) (h : PyData.strOk (tx [c]) = true) : (sameW c s).pln := by
  unfold sameW
  split
  · exact h
  · exact plns_rep (letW c) h s
theorem map_sizes {f : Nat → WT} {B : Nat} : ∀ ss : List Nat, (∀ s ∈ ss, (f s).size ≤ B) → WT.sizes (ss.map f) ≤ ss.length * B
  | [], _ => Nat.zero_le _
  | s :: ss, h => by
    rw [List.map_cons, WT.sizes, List.length_cons, Nat.succ_mul]
    have := h s (List.mem_cons_self ..)
    have := map_sizes ss fun x hx => h x (List.mem_cons_of_mem _ hx)
    omega
theorem map_cws {f : Nat → WT} {B : Nat} : ∀ ss : List Nat, (∀ s ∈ ss, (f s).cw ≤ B) → WT.cws (ss.map f) ≤ B
  | [], _ => Nat.zero_le _
  | s :: ss, h => by
    rw [List.map_cons, WT.cws]
    have := h s (List.mem_cons_self ..)
    have := map_cws ss fun x hx => h x (List.mem_cons_of_mem _ hx)
    omega
theorem map_plns {f : Nat → WT} : ∀ ss : List Nat, (∀ s ∈ ss, (f s).pln) → WT.plns (ss.map f)
  | [], _ => trivial
  | s :: ss, h => ⟨h s (List.mem_cons_self ..), map_plns ss fun x hx => h x (List.mem_cons_of_mem _ hx)⟩
end DL
namespace DL
open PySem PySem.Spec PyProof.Rows L2
variable [Gh]
structure SumsOk (c n : Nat) (ss tt : List Nat) : Prop where
  ne : ss ≠ []
  few : ss.length ≤ 3
  sz : ∀ s ∈ ss, 1 ≤ s ∧ s ≤ 9
  tc : TextC tt c n
  len : tt.length ≤ 200
  cp : CpOk tt
  ok : PyData.strOk (tx [c]) = true
end DL
namespace DL
open PySem PySem.Spec PyProof.Rows L2
variable [Gh]
section
variable {c n : Nat} {ss tt : List Nat}
theorem SumsOk.any (h : SumsOk c n ss tt) : (anyW c ss).size ≤ 31 ∧ (anyW c ss).cw ≤ 3 ∧ (anyW c ss).pln := by
  have hb : ∀ s ∈ ss, (sameW c s).size ≤ 10 := fun s hs => sameW_size c s (h.sz s hs).2
  unfold anyW
  split
  · rename_i s
    exact ⟨Nat.le_trans (hb s (List.mem_singleton.mpr rfl)) (by decide), by rw [sameW_cw]; decide, sameW_pln c s h.ok⟩
  · refine ⟨?_, ?_, map_plns ss fun s _ => sameW_pln c s h.ok⟩
    · have z := map_sizes ss hb
      have := h.few
      have : ss.length * 10 ≤ 3 * 10 := Nat.mul_le_mul_right _ h.few
      show WT.sizes (ss.map (sameW c)) + 1 ≤ 31
      omega
    · have z := map_cws (f := sameW c) (B := 0) ss fun s _ => by rw [sameW_cw]; exact Nat.le_refl _
      have := h.few
      rw [WT.cw, List.length_map]
      omega
theorem SumsOk.again (h : SumsOk c n ss tt) : (WT.un .again (anyW c ss)).size ≤ 40 ∧ ((WT.un .again (anyW c ss)).cw + 1) * (tt.length + 1) < 4000 ∧ (WT.un .again (anyW c ss)).pln := by
  obtain ⟨h1, h2, h3⟩ := h.any
  refine ⟨by show (anyW c ss).size + 1 ≤ 40; omega, ?_, h3⟩
  have e : (WT.un .again (anyW c ss)).cw + 1 ≤ 4 := by rw [WT.cw]; omega
  have z := Nat.mul_le_mul e (show tt.length + 1 ≤ 201 by have := h.len; omega)
  omega
theorem SumsOk.row (h : SumsOk c n ss tt) : (WT.many false (ss.map (mayW c))).size ≤ 40 ∧ ((WT.many false (ss.map (mayW c))).cw + 1) * (tt.length + 1) < 4000 ∧ (WT.many false (ss.map (mayW c))).pln := by
  have z := map_sizes (f := mayW c) (B := 11) ss fun s hs => by
    have := sameW_size c s (h.sz s hs).2
    show (sameW c s).size + 1 ≤ 11
    omega
  have z2 := map_cws (f := mayW c) (B := 1) ss fun s _ => by
    show (WT.un .maybe (sameW c s)).cw ≤ 1
    rw [WT.cw, sameW_cw]
    decide
  have z3 : ss.length * 11 ≤ 3 * 11 := Nat.mul_le_mul_right _ h.few
  refine ⟨by show WT.sizes (ss.map (mayW c)) + 1 ≤ 40; omega, ?_, map_plns ss fun s _ => sameW_pln c s h.ok⟩
  have e : (WT.many false (ss.map (mayW c))).cw + 1 ≤ 2 := by rw [WT.cw]; omega
  have z4 := Nat.mul_le_mul e (show tt.length + 1 ≤ 201 by have := h.len; omega)
  omega
end
end DL
namespace DL
open PySem PySem.Spec PyProof.Rows L2
variable [Gh]
/-- behind the spaces -/
def sk (t : List Nat) (p : Nat) : Nat := p + ((t.drop p).takeWhile fun c => decide (c = 32)).length
abbrev cAmp : Nat := 38
abbrev cBang : Nat := 33
abbrev cDot : Nat := 46
abbrev cLt : Nat := 60
abbrev cOpen : Nat := 40
def begC (c : Nat) : Bool := decide (c ∈ lettersN) || decide (c ∈ [cDot, cLt, cOpen, cAmp, cBang])
def begins (t : List Nat) (p : Nat) : Bool := match t[sk t p]? with
  | some c => begC c
  | none => false
end DL
namespace DL
open PySem PySem.Spec PyProof.Rows L2
structure RM (P : Program) (w : World) (K : PySem.W.Frag) (mg : Str → Option Value) (base : Heap) (k : Nat) (RC : Addr) (m : Str) (ps : List Str) (sp : DSp) : Prop where
  ex : ∃ f fd, FnOk P w K mg base CX0 k f fd ps (LSp K sp) ∧ Binds K fd ps [] ∧ Cls K RC ∧ Meth K RC m f
structure RX (P : Program) (w : World) (K : PySem.W.Frag) (mg : Str → Option Value) (base : Heap) (k : Nat) (RC : Addr) (m : Str) (ps : List Str) (sp : DSp) : Prop where
  ex : ∃ f fd, FnOk P w K mg base (L2.CX P w) k f fd ps (LSp K sp) ∧ Binds K fd ps [] ∧ Cls K RC ∧ Meth K RC m f
end DL
namespace DL
open PySem PySem.Spec PyProof.Rows L2
section
variable {P : Program} {w : World} {K : PySem.W.Frag} {mg : Str → Option Value} {base : Heap}
theorem RM.mono {j k : Nat} {RC : Addr} {m : Str} {ps : List Str} {sp : DSp} (h : RM P w K mg base j RC m ps sp) (l : j ≤ k) : RM P w K mg base k RC m ps sp := by
  obtain ⟨f, fd, G, r⟩ := h.ex
  exact ⟨⟨f, fd, G.mono l, r⟩⟩
theorem RX.mono {j k : Nat} {RC : Addr} {m : Str} {ps : List Str} {sp : DSp} (h : RX P w K mg base j RC m ps sp) (l : j ≤ k) : RX P w K mg base k RC m ps sp := by
  obtain ⟨f, fd, G, r⟩ := h.ex
  exact ⟨⟨f, fd, G.mono l, r⟩⟩
end
end DL
namespace DL
open PySem PySem.Spec PyProof.Rows L2
/-- a reader: t its text, mk the def that makes ways, p its place -/
@[reducible] def rdN : List Str := ["text", "line", "make", "place"]
theorem insD_set {M : Mem} {a C : Addr} {ns : List Str} {ds : List D} : insD (.ref a) (mset M a (.ins C ns ds)) = some (C, ns, ds) := insD_ref mset_same
theorem rne {x y : Str} (h : (x == y) = false) : ¬ y = x := fun z => by
  rw [z, beq_self_eq_true] at h
  cases h
theorem lk_ne {f g : Str} {d : D} {l : List (Str × D)} (h : (f == g) = false) : List.lookup f ((g, d) :: l) = List.lookup f l := by rw [List.lookup_cons, h]
theorem fg_text {x y z u : D} : fget "text" rdN [x, y, z, u] = some x := by
  show List.lookup _ (((("text" : Str)), x) :: _) = _
  rw [List.lookup_cons_self]
theorem fg_line {x y z u : D} : fget "line" rdN [x, y, z, u] = some y := by
  show List.lookup _ (((("text" : Str)), x) :: ((("line" : Str)), y) :: _) = _
  rw [lk_ne (by decide +kernel), List.lookup_cons_self]
theorem fg_make {x y z u : D} : fget "make" rdN [x, y, z, u] = some z := by
  show List.lookup _ (((("text" : Str)), x) :: ((("line" : Str)), y) :: ((("make" : Str)), z) :: _) = _
  rw [lk_ne (by decide +kernel), lk_ne (by decide +kernel), List.lookup_cons_self]
theorem fg_place {x y z u : D} : fget "place" rdN [x, y, z, u] = some u := by
  show List.lookup _ (((("text" : Str)), x) :: ((("line" : Str)), y) :: ((("make" : Str)), z) :: ((("place" : Str)), u) :: _) = _
  rw [lk_ne (by decide +kernel), lk_ne (by decide +kernel), lk_ne (by decide +kernel), List.lookup_cons_self]
theorem fp_N : fputN "place" rdN = rdN := by
  show fputN _ [_, _, _, _] = _
  unfold fputN
  rw [if_neg (rne (by decide +kernel))]
  unfold fputN
  rw [if_neg (rne (by decide +kernel))]
  unfold fputN
  rw [if_neg (rne (by decide +kernel))]
  unfold fputN
  rw [if_pos rfl]
theorem fp_D {x y z u v : D} : fputD "place" v rdN [x, y, z, u] = [x, y, z, v] := by
  show fputD _ _ [_, _, _, _] _ = _
  unfold fputD
  rw [if_neg (rne (by decide +kernel))]
  unfold fputD
  rw [if_neg (rne (by decide +kernel))]
  unfold fputD
  rw [if_neg (rne (by decide +kernel))]
  unfold fputD
  rw [if_pos rfl]
theorem fg_no {m : Str} {x y z u : D} (h1 : (m == ("text" : Str)) = false) (h2 : (m == ("line" : Str)) = false) (h3 : (m == ("make" : Str)) = false) (h4 : (m == ("place" : Str)) = false) : fget m rdN [x, y, z, u] = none := by
  show List.lookup _ (((("text" : Str)), x) :: ((("line" : Str)), y) :: ((("make" : Str)), z) :: ((("place" : Str)), u) :: []) = _
  rw [lk_ne h1, lk_ne h2, lk_ne h3, lk_ne h4]
  rfl
end DL
namespace DL
open PySem PySem.Spec PyProof.Rows L2
/-- a text of words, with any spaces between -/
def Lo : List (List Nat) → List Nat → Prop
  | [], t => ∀ c ∈ t, c = 32
  | w :: ws, t => ∃ s t', t = s ++ (w ++ t') ∧ (∀ c ∈ s, c = 32) ∧ Lo ws t'
theorem Lo.sp : ∀ {ws : List (List Nat)} {s t : List Nat}, (∀ c ∈ s, c = 32) → Lo ws t → Lo ws (s ++ t)
  | [], s, t, hs, h => fun c hc => by
    rcases List.mem_append.mp hc with hc | hc
    · exact hs c hc
    · exact h c hc
  | w :: ws, s, t, hs, ⟨s', t', e, h1, h2⟩ => ⟨s ++ s', t', by rw [e, List.append_assoc], fun c hc => by
    rcases List.mem_append.mp hc with hc | hc
    · exact hs c hc
    · exact h1 c hc, h2⟩
def hd : List (List Nat) → Option Nat
  | [] => none
  | [] :: _ => none
  | (c :: _) :: _ => some c
/-- words that are not empty and begin with no space -/
def Wd (ws : List (List Nat)) : Prop := ∀ w ∈ ws, ∃ c r, w = c :: r ∧ c ≠ 32
theorem Wd.app {a b : List (List Nat)} (h : Wd a) (g : Wd b) : Wd (a ++ b) := fun w hw => by
  rcases List.mem_append.mp hw with hw | hw
  · exact h w hw
  · exact g w hw
theorem Wd.one {c : Nat} {r : List Nat} (h : c ≠ 32) : Wd [c :: r] := fun w hw => ⟨c, r, List.mem_singleton.mp hw, h⟩
theorem Wd.nil : Wd [] := fun w hw => by cases hw
theorem Wd.cons {c : Nat} {r : List Nat} {ws : List (List Nat)} (h : c ≠ 32) (g : Wd ws) : Wd ((c :: r) :: ws) := (Wd.one h).app g
end DL
namespace DL
open PySem PySem.Spec PyProof.Rows L2 ClX
/-- a classmethod m of the class at C keeps a promise -/
structure CMX (P : Program) (w : World) (K : PySem.W.Frag) (mg : Str → Option Value) (base : Heap) (k : Nat) (C : Addr) (m : Str) (ps : List Str) (sp : DSp) : Prop where
  ex : ∃ mc p g fd, CRead K C mc ∧ CMet K C mc m p g ∧ FnOk P w K mg base (L2.CX P w) k g fd ps (LSp K sp) ∧ Binds K fd ps []
end DL
namespace DL
open PySem PySem.Spec PyProof.Rows L2 ClX
section
variable {P : Program} {w : World} {K : PySem.W.Frag} {mg : Str → Option Value} {base : Heap}
theorem CMX.mono {j k : Nat} {C : Addr} {m : Str} {ps : List Str} {sp : DSp} (h : CMX P w K mg base j C m ps sp) (l : j ≤ k) : CMX P w K mg base k C m ps sp := by
  obtain ⟨mc, p, g, fd, h1, h2, G, r⟩ := h.ex
  exact ⟨⟨mc, p, g, fd, h1, h2, G.mono l, r⟩⟩
end
end DL
namespace DL
open PySem PySem.Spec PyProof.Rows L2 He
/-- one part of what the Hook looks at -/
def RunP {β : Type} (r : PySem.W.OpenRow) (f : (Addr → Option Obj) → β) (v : β) (M : Nat) (w : World) : Prop :=
  ∀ os : OsState, (HandSHeadRun.endF (HandSHeadRun.stepQ (HandSHeadRun.denQ HandSHeadRun.tabQ) r.prog w) M r.prog w os).map (fun s => f (HandSHeadRun.getT s)) = some v
theorem RunP.pair {β γ : Type} {r : PySem.W.OpenRow} {f : (Addr → Option Obj) → β} {g : (Addr → Option Obj) → γ} {v : β} {u : γ} {M : Nat} {w : World} (a : RunP r f v M w) (b : RunP r g u M w) : RunP r (fun s => (f s, g s)) (v, u) M w := fun os => by
  have ha := a os
  have hb := b os
  cases e : HandSHeadRun.endF (HandSHeadRun.stepQ (HandSHeadRun.denQ HandSHeadRun.tabQ) r.prog w) M r.prog w os with
  | none => rw [e] at ha; cases ha
  | some s =>
    rw [e] at ha hb
    have h1 : f (HandSHeadRun.getT s) = v := Option.some.inj ha
    have h2 : g (HandSHeadRun.getT s) = u := Option.some.inj hb
    show some (f _, g _) = _
    rw [h1, h2]
abbrev AlP : Type := (Bool × (Bool × Bool)) × ((Bool × (List FnW × List FnY)) × (List FnW × List (Option (List (Option (Str × Int))))))
/-- the parts: two lists of facts, the defs, what they are, further facts, defs at other places, tables -/
def oFa (as : List Addr) (fa : List Fa) (g : Addr → Option Obj) : Bool := fa.all fun f => f.ok (frG g as)
def oFn (as : List Addr) (fn : List DefD) (g : Addr → Option Obj) : Bool := fn.all fun d => d.ok (frG g as)
def oEx (as : List Addr) (ex : PySem.W.Frag → Bool) (g : Addr → Option Obj) : Bool := ex (frG g as)
def oVal (as : List Addr) (fn sn : List DefD) (g : Addr → Option Obj) : List FnW × List FnY := (fn.map (fun d => fnW (frG g as) d.at_), sn.map fun d => fnY (frG g as) d.at_)
def oCs (as : List Addr) (cs : List He5.DefA) (ts : List Tab) (g : Addr → Option Obj) : List FnW × List (Option (List (Option (Str × Int)))) := (cs.map (fun d => He5.fnA (frG g as) (d.at_ (frG g as))), ts.map fun t => dicW (frG g as) (t.1 (frG g as)))
def obsP (as : List Addr) (fa fa2 : List Fa) (fn sn : List DefD) (ex : PySem.W.Frag → Bool) (cs : List He5.DefA) (ts : List Tab) (g : Addr → Option Obj) : AlP :=
  ((oFa as fa g, (oFa as fa2 g, oFn as fn g)), ((oEx as ex g, oVal as fn sn g), oCs as cs ts g))
def valP (fn sn : List DefD) (cs : List He5.DefA) (ts : List Tab) (w : World) : AlP := ((true, (true, true)), ((true, (fn.map DefD.val, sn.map valY)), (cs.map He5.DefA.val, ts.map fun t => some (keysIn w.params t.2))))
structure SaysP (fa fa2 : List Fa) (fn sn : List DefD) (ex : PySem.W.Frag → Bool) (cs : List He5.DefA) (ts : List Tab) (w : World) (K : PySem.W.Frag) : Prop where
  f1 : (fa.all fun f => f.ok K) = true
  f2 : (fa2.all fun f => f.ok K) = true
  f3 : (fn.all fun d => d.ok K) = true
  f4 : ex K = true
  fv : fn.map (fun d => fnW K d.at_) = fn.map DefD.val
  sv : sn.map (fun d => fnY K d.at_) = sn.map valY
  cv : cs.map (fun d => He5.fnA K (d.at_ K)) = cs.map He5.DefA.val
  tv : ts.map (fun t => dicW K (t.1 K)) = ts.map fun t => some (keysIn w.params t.2)
def hookP (as : List Addr) (fa fa2 : List Fa) (fn sn : List DefD) (ex : PySem.W.Frag → Bool) (cs : List He5.DefA) (ts : List Tab) : PySem.W.Hook where
  α := AlP
  obs := fun s => obsP as fa fa2 fn sn ex cs ts s.heap.get?
  val := fun w => valP fn sn cs ts w
  says := fun w h => ∃ K : PySem.W.Frag, K.In h ∧ SaysP fa fa2 fn sn ex cs ts w K
  of := fun _ _ e => ⟨_, frG_in (as := as), congrArg (fun z : AlP => z.1.1) e, congrArg (fun z : AlP => z.1.2.1) e, congrArg (fun z : AlP => z.1.2.2) e, congrArg (fun z : AlP => z.2.1.1) e, congrArg (fun z : AlP => z.2.1.2.1) e, congrArg (fun z : AlP => z.2.1.2.2) e, congrArg (fun z : AlP => z.2.2.1) e, congrArg (fun z : AlP => z.2.2.2) e⟩
  keeps := fun _ _ _ ⟨K, hK, c⟩ k => ⟨K, PySem.W.Frag.In.keeps hK k, c⟩
theorem obsP_eq {as : List Addr} {fa fa2 : List Fa} {fn sn : List DefD} {ex : PySem.W.Frag → Bool} {cs : List He5.DefA} {ts : List Tab} {g : Addr → Option Obj} {s : Shared} (h : ∀ a, g a = s.heap.get? a) : obsP as fa fa2 fn sn ex cs ts g = (hookP as fa fa2 fn sn ex cs ts).obs s := by
  have e : g = s.heap.get? := funext h
  rw [e] <;> rfl
theorem runB_of {r : PySem.W.OpenRow} {as : List Addr} {fa fa2 : List Fa} {fn sn : List DefD} {ex : PySem.W.Frag → Bool} {cs : List He5.DefA} {ts : List Tab} {M : Nat} {w : World}
    (h1 : RunP r (fun g => (oFa as fa g, (oFa as fa2 g, oFn as fn g))) (true, (true, true)) M w) (h2 : RunP r (fun g => (oEx as ex g, oVal as fn sn g)) (true, (fn.map DefD.val, sn.map valY)) M w) (h3 : RunP r (oCs as cs ts) (cs.map He5.DefA.val, ts.map fun t => some (keysIn w.params t.2)) M w) :
    RunB r (hookP as fa fa2 fn sn ex cs ts) (fun s => obsP as fa fa2 fn sn ex cs ts (HandSHeadRun.getT s)) M w := h1.pair (h2.pair h3)
end DL
namespace DL
open PySem PySem.Spec PyProof.Rows L2 He
section
variable {fa fa2 : List Fa} {fn sn : List DefD} {ex : PySem.W.Frag → Bool} {cs : List He5.DefA} {ts : List Tab} {w : World} {K : PySem.W.Frag}
theorem SaysP.d (c : SaysP fa fa2 fn sn ex cs ts w K) : SaysD (fa ++ fa2) fn K := by
  unfold SaysD obsD valD
  rw [List.all_append, c.f1, c.f2, c.f3, c.fv]
  rfl
theorem SaysP.y (c : SaysP fa fa2 fn sn ex cs ts w K) : SaysY (fa ++ fa2) fn sn ex K := by
  unfold SaysY obsY valYs
  rw [show obsD (fa ++ fa2) fn K = valD fn from c.d, c.f4, c.sv]
theorem SaysP.z (c : SaysP fa fa2 fn sn ex cs ts w K) : SaysZ (fa ++ fa2) fn sn ex ts w K := by
  unfold SaysZ obsZ valZ
  rw [show obsY (fa ++ fa2) fn sn ex K = valYs fn sn from c.y, c.tv]
end
end DL
namespace DL
open PySem PySem.Spec PyProof.Rows L2 He
/-- a classmethod, as a Bool -/
def cmB (K : PySem.W.Frag) (C m : Str) (d : He5.DefA) : Bool := PySem.W.readsIn K (ga K C) (.type "type") && (He5.wrapB K (ga K C) "classmethod" "classmethod.__get__" m && (PySem.W.fnIn K (He5.wf K (ga K C) "classmethod" m) && (decide (d.at_ K = He5.wf K (ga K C) "classmethod" m) && d.ok K)))
/-- the table of words -/
def wordsV : List (Str × Dv) := [("*", .str "again"), ("?", .str "maybe"), ("&", .str "ahead"), ("!", .str "unless")]
end DL
namespace K05
open PySem PySem.Spec PyProof.Rows L2 DL

def top (i : Nat) : Stmt := PySem.Challenge.pw_waystaken_k05_wrong_texts_of_ways.main.body.getD i (.Pass ⟨0, 0, 0, 0⟩)

end K05
namespace K05
open PySem PySem.Spec PyProof.Rows L2 DL

local macro_rules | `(tactic| walk_at "dl") => `(tactic| with_reducible conv => whnf)
local macro_rules | `(tactic| walk_at "pen") => `(tactic| (walk_at "dl"; repeat (first | rw [mset_same] | rw [pen_cells] | rw [pen_at] | rw [pen_left] | rw [penN_at, penD_at] | rw [penN_left, penD_left]); walk_at "dl"))
local macro_rules | `(tactic| walk_at "c") => `(tactic| (refine And.intro (by first | decide | assumption | omega | rfl | (show 1 ≤ sizeLine; decide) | (show 2 ≤ sizeLine; decide) | (show 3 ≤ sizeLine; decide) | (show 4 ≤ sizeLine; decide) | (show 5 ≤ sizeLine; decide) | (show 6 ≤ sizeLine; decide) | (show 7 ≤ sizeLine; decide)) ?_; walk_at "dl"))
local macro_rules | `(tactic| walk_at "q") => `(tactic| (refine And.intro (by first | assumption | exact okEq_flat rfl | exact okEq_flat (by decide +kernel)) (And.intro (by first | assumption | exact okEq_flat rfl | exact okEq_flat (by decide +kernel)) ?_); walk_at "dl"; try (first | rw [deq_int] | rw [deq_NI] | rw [deq_IN] | rw [deq_NN] | (rw [deq_str, lit_beq]; conv in (_ == _) => simp only [String.reduceBEq]) | rw [deq_str] | (conv in deq _ _ => simp only [String.reduceBEq, deq_bf, deq_bt])); walk_at "dl"))
local macro_rules | `(tactic| walk_at "in") => `(tactic| (refine And.intro rfl (And.intro rfl ?_); walk_at "dl"; (conv in inF _ _ => simp only [inF_cons, inF_nil, eqF_lit, String.reduceBEq, Bool.or_false, Bool.or_true, Bool.false_or, Bool.true_or]); walk_at "dl"))
local macro_rules | `(tactic| walk_at "a") => `(tactic| (walk_at "dl"; repeat (first | walk_at "in" | walk_at "q" | walk_at "c")))

section
variable {P : Program} {w : World} {K : PySem.W.Frag} {mg : Str → Option Value} {base : Heap}

abbrev s__law_draw : Stmt := top 29
abbrev N_s__law_draw : List Str := ["_law_pen_here", "_law_many", "_law_digit", "_law_at", "_law_cell", "_law_mixed"]
end
end K05
namespace K05
open PySem PySem.Spec PyProof.Rows L2 DL

local macro_rules | `(tactic| walk_at "dl") => `(tactic| with_reducible conv => whnf)
local macro_rules | `(tactic| walk_at "pen") => `(tactic| (walk_at "dl"; repeat (first | rw [mset_same] | rw [pen_cells] | rw [pen_at] | rw [pen_left] | rw [penN_at, penD_at] | rw [penN_left, penD_left]); walk_at "dl"))
local macro_rules | `(tactic| walk_at "c") => `(tactic| (refine And.intro (by first | decide | assumption | omega | rfl | (show 1 ≤ sizeLine; decide) | (show 2 ≤ sizeLine; decide) | (show 3 ≤ sizeLine; decide) | (show 4 ≤ sizeLine; decide) | (show 5 ≤ sizeLine; decide) | (show 6 ≤ sizeLine; decide) | (show 7 ≤ sizeLine; decide)) ?_; walk_at "dl"))
local macro_rules | `(tactic| walk_at "q") => `(tactic| (refine And.intro (by first | assumption | exact okEq_flat rfl | exact okEq_flat (by decide +kernel)) (And.intro (by first | assumption | exact okEq_flat rfl | exact okEq_flat (by decide +kernel)) ?_); walk_at "dl"; try (first | rw [deq_int] | rw [deq_NI] | rw [deq_IN] | rw [deq_NN] | (rw [deq_str, lit_beq]; conv in (_ == _) => simp only [String.reduceBEq]) | rw [deq_str] | (conv in deq _ _ => simp only [String.reduceBEq, deq_bf, deq_bt])); walk_at "dl"))
local macro_rules | `(tactic| walk_at "in") => `(tactic| (refine And.intro rfl (And.intro rfl ?_); walk_at "dl"; (conv in inF _ _ => simp only [inF_cons, inF_nil, eqF_lit, String.reduceBEq, Bool.or_false, Bool.or_true, Bool.false_or, Bool.true_or]); walk_at "dl"))
local macro_rules | `(tactic| walk_at "a") => `(tactic| (walk_at "dl"; repeat (first | walk_at "in" | walk_at "q" | walk_at "c")))

section
variable {P : Program} {w : World} {K : PySem.W.Frag} {mg : Str → Option Value} {base : Heap}

local macro_rules | `(tactic| walk_at "tail") => `(tactic| (walk_at "c"; refine ⟨mulW (by omega) (by decide), ?_⟩; walk_at "dl"; refine ⟨mulW (by decide) (by omega), ?_⟩; walk_at "dl"; refine ⟨mulW (by omega) (by omega), ?_⟩; walk_at "dl"; refine ⟨mulW (by decide) (by omega), ?_⟩; walk_at "dl"; walk_at "c"; refine ⟨mulW (by omega) (by omega), ?_⟩; walk_at "dl"; walk_at "c"; refine ⟨mulW (by omega) (by omega), ?_⟩; walk_at "dl"; walk_at "c"; refine ⟨wide_div (b := 64) (by decide) (by decide) (by decide) (by decide), ?_⟩; walk_at "dl"; refine ⟨by assumption, ?_⟩; walk_at "dl"))
abbrev s__law_pen : Stmt := top 28
abbrev N_s__law_pen : List Str := ["_law_script"]
abbrev s__law_pick : Stmt := top 30
abbrev N_s__law_pick : List Str := ["_law_pen_here", "_law_items"]
abbrev s__law_signs : Stmt := top 31
abbrev N_s__law_signs : List Str := ["_law_pen_here", "_law_many", "_law_left", "_law_found", "_law_turn", "_law_at"]
abbrev s__law_leaf : Stmt := top 32
abbrev N_s__law_leaf : List Str := ["_law_pen_here", "_law_signs_here", "_law_sort"]
abbrev s__law_way_of : Stmt := top 34
abbrev N_s__law_way_of : List Str := ["_law_pen_here", "_law_signs_here", "_law_size", "_law_word", "_law_left", "_law_found", "_law_rest", "_law_share"]
abbrev s__law_way : Stmt := top 33
abbrev N_s__law_way : List Str := ["_law_pen_here", "_law_signs_here", "_law_most", "_law_size"]
abbrev s__law_inner : Stmt := top 35
abbrev N_s__law_inner : List Str := ["_law_way_here"]
abbrev s_Way___init__ : Stmt := inClass (top 14) 0
abbrev N_s_Way___init__ : List Str := ["self", "word", "sign", "inner"]
abbrev s_Letter___init__ : Stmt := inClass (top 15) 0
abbrev N_s_Letter___init__ : List Str := ["self", "letter", "__class__"]
abbrev s_One___init__ : Stmt := inClass (top 16) 0
abbrev N_s_One___init__ : List Str := ["self", "__class__"]
abbrev s_Nothing___init__ : Stmt := inClass (top 17) 0
abbrev N_s_Nothing___init__ : List Str := ["self", "__class__"]
abbrev s_Row___init__ : Stmt := inClass (top 18) 0
abbrev N_s_Row___init__ : List Str := ["self", "ways", "__class__"]
abbrev s_Choice___init__ : Stmt := inClass (top 19) 0
abbrev N_s_Choice___init__ : List Str := ["self", "ways", "__class__"]
abbrev s_Again___init__ : Stmt := inClass (top 20) 0
abbrev N_s_Again___init__ : List Str := ["self", "part", "__class__"]
abbrev s_Maybe___init__ : Stmt := inClass (top 21) 0
abbrev N_s_Maybe___init__ : List Str := ["self", "part", "__class__"]
abbrev s_Ahead___init__ : Stmt := inClass (top 22) 0
abbrev N_s_Ahead___init__ : List Str := ["self", "part", "__class__"]
abbrev s_Unless___init__ : Stmt := inClass (top 23) 0
abbrev N_s_Unless___init__ : List Str := ["self", "part", "__class__"]
abbrev s_Call___init__ : Stmt := inClass (top 24) 0
abbrev N_s_Call___init__ : List Str := ["self", "name", "__class__"]
abbrev s__law_made : Stmt := top 36
abbrev N_s__law_made : List Str := ["_law_way_here", "_law_ways", "_law_one"]
abbrev s_Way___eq__ : Stmt := inClass (top 14) 1
abbrev N_s_Way___eq__ : List Str := ["self", "other"]
abbrev s_is_put_in_brackets : Stmt := top 8
abbrev N_s_is_put_in_brackets : List Str := ["way", "around"]
abbrev s_inner_text : Stmt := top 9
abbrev N_s_inner_text : List Str := ["way", "around"]
abbrev s_way_text : Stmt := top 10
abbrev N_s_way_text : List Str := ["way", "texts", "inner"]
abbrev s_Way___str__ : Stmt := inClass (top 14) 5
abbrev N_s_Way___str__ : List Str := ["self"]
abbrev s_way_of : Stmt := top 25
abbrev N_s_way_of : List Str := ["word", "sign", "inner"]
abbrev s_BadText___init__ : Stmt := inClass (top 2) 0
abbrev N_s_BadText___init__ : List Str := ["self", "line", "place", "__class__"]
abbrev s_Reader___init__ : Stmt := inClass (top 11) 0
abbrev N_s_Reader___init__ : List Str := ["self", "text", "line", "make"]
abbrev s_Reader_next_sign : Stmt := inClass (top 11) 1
abbrev N_s_Reader_next_sign : List Str := ["self"]
abbrev s_Reader_refuse : Stmt := inClass (top 11) 2
abbrev N_s_Reader_refuse : List Str := ["self"]
abbrev s_Reader_step_over : Stmt := inClass (top 11) 3
abbrev N_s_Reader_step_over : List Str := ["self", "sign"]
abbrev s_Reader_read_name : Stmt := inClass (top 11) 4
abbrev N_s_Reader_read_name : List Str := ["self", "start"]
abbrev s_Reader_is_letter : Stmt := inClass (top 11) 5
abbrev N_s_Reader_is_letter : List Str := ["self", "sign"]
abbrev s_Reader_begins : Stmt := inClass (top 11) 7
abbrev N_s_Reader_begins : List Str := ["self", "sign"]
abbrev s_Reader_read_row : Stmt := inClass (top 11) 8
abbrev N_s_Reader_read_row : List Str := ["self", "ways"]
abbrev s_Reader_read_choice : Stmt := inClass (top 11) 6
abbrev N_s_Reader_read_choice : List Str := ["self", "ways"]
abbrev s_Reader_read_look : Stmt := inClass (top 11) 9
abbrev N_s_Reader_read_look : List Str := ["self", "sign"]
abbrev s_Reader_read_repeat : Stmt := inClass (top 11) 10
abbrev N_s_Reader_read_repeat : List Str := ["self", "way"]
abbrev s_Reader_read_one : Stmt := inClass (top 11) 11
abbrev N_s_Reader_read_one : List Str := ["self", "sign", "name"]
abbrev s_Reader_read_brackets : Stmt := inClass (top 11) 12
abbrev N_s_Reader_read_brackets : List Str := ["self", "way"]
abbrev s_Reader_read_end : Stmt := inClass (top 11) 13
abbrev N_s_Reader_read_end : List Str := ["self"]
abbrev s_read_way : Stmt := top 12
abbrev N_s_read_way : List Str := ["text", "make", "reader", "way"]
abbrev s_Way_read : Stmt := inClass (top 14) 7
abbrev N_s_Way_read : List Str := ["cls", "text"]
abbrev s__law_skip : Stmt := top 37
abbrev N_s__law_skip : List Str := ["_law_text", "_law_at"]
abbrev s__law_begins : Stmt := top 38
abbrev N_s__law_begins : List Str := ["_law_sign"]
abbrev s__law_read_call : Stmt := top 43
abbrev N_s__law_read_call : List Str := ["_law_text", "_law_at", "_law_end", "_law_close"]
abbrev s__law_read_one : Stmt := top 42
abbrev N_s__law_read_one : List Str := ["_law_text", "_law_at", "_law_sign", "_law_inner_here", "_law_way_here"]
abbrev s__law_read_row : Stmt := top 40
abbrev N_s__law_read_row : List Str := ["_law_text", "_law_at", "_law_ways", "_law_way_here"]
abbrev s__law_read_choice : Stmt := top 39
abbrev N_s__law_read_choice : List Str := ["_law_text", "_law_at", "_law_ways", "_law_way_here"]
abbrev s__law_read_look : Stmt := top 41
abbrev N_s__law_read_look : List Str := ["_law_text", "_law_at", "_law_end", "_law_way_here"]
abbrev s__law_due : Stmt := top 44
abbrev N_s__law_due : List Str := ["_law_text", "_law_way_here", "_law_at"]
abbrev s__law_told : Stmt := top 45
abbrev N_s__law_told : List Str := ["_law_text", "_law_told_here", "e"]
abbrev s__law_bent : Stmt := top 46
abbrev N_s__law_bent : List Str := ["_law_pen_here", "_law_text", "_law_at", "_law_sort", "_law_odd"]
abbrev s_law : Stmt := top 47
abbrev N_s_law : List Str := ["_law_script", "_law_pen_here", "_law_turn", "_law_signs_here", "_law_again", "_law_bent_here", "_law_change", "_law_told_here", "_law_due_here", "_law_text"]
end
end K05
namespace K05
open PySem PySem.Spec PyProof.Rows L2 DL

local macro_rules | `(tactic| walk_at "dl") => `(tactic| with_reducible conv => whnf)
local macro_rules | `(tactic| walk_at "pen") => `(tactic| (walk_at "dl"; repeat (first | rw [mset_same] | rw [pen_cells] | rw [pen_at] | rw [pen_left] | rw [penN_at, penD_at] | rw [penN_left, penD_left]); walk_at "dl"))
local macro_rules | `(tactic| walk_at "c") => `(tactic| (refine And.intro (by first | decide | assumption | omega | rfl | (show 1 ≤ sizeLine; decide) | (show 2 ≤ sizeLine; decide) | (show 3 ≤ sizeLine; decide) | (show 4 ≤ sizeLine; decide) | (show 5 ≤ sizeLine; decide) | (show 6 ≤ sizeLine; decide) | (show 7 ≤ sizeLine; decide)) ?_; walk_at "dl"))
local macro_rules | `(tactic| walk_at "q") => `(tactic| (refine And.intro (by first | assumption | exact okEq_flat rfl | exact okEq_flat (by decide +kernel)) (And.intro (by first | assumption | exact okEq_flat rfl | exact okEq_flat (by decide +kernel)) ?_); walk_at "dl"; try (first | rw [deq_int] | rw [deq_NI] | rw [deq_IN] | rw [deq_NN] | (rw [deq_str, lit_beq]; conv in (_ == _) => simp only [String.reduceBEq]) | rw [deq_str] | (conv in deq _ _ => simp only [String.reduceBEq, deq_bf, deq_bt])); walk_at "dl"))
local macro_rules | `(tactic| walk_at "in") => `(tactic| (refine And.intro rfl (And.intro rfl ?_); walk_at "dl"; (conv in inF _ _ => simp only [inF_cons, inF_nil, eqF_lit, String.reduceBEq, Bool.or_false, Bool.or_true, Bool.false_or, Bool.true_or]); walk_at "dl"))
local macro_rules | `(tactic| walk_at "a") => `(tactic| (walk_at "dl"; repeat (first | walk_at "in" | walk_at "q" | walk_at "c")))

set_option maxHeartbeats 0
def d__law_draw : He.DefD := ⟨("_law_draw", none), "_law_draw", "_law_draw", defArgs s__law_draw, defBody s__law_draw, defScope s__law_draw, [], []⟩
def d__law_pen : He.DefD := ⟨("_law_pen", none), "_law_pen", "_law_pen", defArgs s__law_pen, defBody s__law_pen, defScope s__law_pen, [], []⟩
def d__law_pick : He.DefD := ⟨("_law_pick", none), "_law_pick", "_law_pick", defArgs s__law_pick, defBody s__law_pick, defScope s__law_pick, [], []⟩
def d__law_signs : He.DefD := ⟨("_law_signs", none), "_law_signs", "_law_signs", defArgs s__law_signs, defBody s__law_signs, defScope s__law_signs, [], []⟩
def d__law_leaf : He.DefD := ⟨("_law_leaf", none), "_law_leaf", "_law_leaf", defArgs s__law_leaf, defBody s__law_leaf, defScope s__law_leaf, [], []⟩
def d__law_way_of : He.DefD := ⟨("_law_way_of", none), "_law_way_of", "_law_way_of", defArgs s__law_way_of, defBody s__law_way_of, defScope s__law_way_of, [], []⟩
def d__law_way : He.DefD := ⟨("_law_way", none), "_law_way", "_law_way", defArgs s__law_way, defBody s__law_way, defScope s__law_way, [], []⟩
def d__law_inner : He.DefD := ⟨("_law_inner", none), "_law_inner", "_law_inner", defArgs s__law_inner, defBody s__law_inner, defScope s__law_inner, [], []⟩
def d_Way___init__ : He.DefD := ⟨("Way", some "__init__"), "__init__", "Way.__init__", defArgs s_Way___init__, defBody s_Way___init__, defScope s_Way___init__, [], []⟩
def d__law_made : He.DefD := ⟨("_law_made", none), "_law_made", "_law_made", defArgs s__law_made, defBody s__law_made, defScope s__law_made, [], []⟩
def d_Way___eq__ : He.DefD := ⟨("Way", some "__eq__"), "__eq__", "Way.__eq__", defArgs s_Way___eq__, defBody s_Way___eq__, defScope s_Way___eq__, [], []⟩
def d_is_put_in_brackets : He.DefD := ⟨("is_put_in_brackets", none), "is_put_in_brackets", "is_put_in_brackets", defArgs s_is_put_in_brackets, defBody s_is_put_in_brackets, defScope s_is_put_in_brackets, [], []⟩
def d_inner_text : He.DefD := ⟨("inner_text", none), "inner_text", "inner_text", defArgs s_inner_text, defBody s_inner_text, defScope s_inner_text, [], []⟩
def d_way_text : He.DefD := ⟨("way_text", none), "way_text", "way_text", defArgs s_way_text, defBody s_way_text, defScope s_way_text, [], []⟩
def d_Way___str__ : He.DefD := ⟨("Way", some "__str__"), "__str__", "Way.__str__", defArgs s_Way___str__, defBody s_Way___str__, defScope s_Way___str__, [], []⟩
def d_way_of : He.DefD := ⟨("way_of", none), "way_of", "way_of", defArgs s_way_of, defBody s_way_of, defScope s_way_of, [], []⟩
def d_Reader___init__ : He.DefD := ⟨("Reader", some "__init__"), "__init__", "Reader.__init__", defArgs s_Reader___init__, defBody s_Reader___init__, defScope s_Reader___init__, [], []⟩
def d_Reader_next_sign : He.DefD := ⟨("Reader", some "next_sign"), "next_sign", "Reader.next_sign", defArgs s_Reader_next_sign, defBody s_Reader_next_sign, defScope s_Reader_next_sign, [], []⟩
def d_Reader_refuse : He.DefD := ⟨("Reader", some "refuse"), "refuse", "Reader.refuse", defArgs s_Reader_refuse, defBody s_Reader_refuse, defScope s_Reader_refuse, [], []⟩
def d_Reader_step_over : He.DefD := ⟨("Reader", some "step_over"), "step_over", "Reader.step_over", defArgs s_Reader_step_over, defBody s_Reader_step_over, defScope s_Reader_step_over, [], []⟩
def d_Reader_read_name : He.DefD := ⟨("Reader", some "read_name"), "read_name", "Reader.read_name", defArgs s_Reader_read_name, defBody s_Reader_read_name, defScope s_Reader_read_name, [], []⟩
def d_Reader_is_letter : He.DefD := ⟨("Reader", some "is_letter"), "is_letter", "Reader.is_letter", defArgs s_Reader_is_letter, defBody s_Reader_is_letter, defScope s_Reader_is_letter, [], []⟩
def d_Reader_begins : He.DefD := ⟨("Reader", some "begins"), "begins", "Reader.begins", defArgs s_Reader_begins, defBody s_Reader_begins, defScope s_Reader_begins, [], []⟩
def d_Reader_read_row : He.DefD := ⟨("Reader", some "read_row"), "read_row", "Reader.read_row", defArgs s_Reader_read_row, defBody s_Reader_read_row, defScope s_Reader_read_row, [], []⟩
def d_Reader_read_choice : He.DefD := ⟨("Reader", some "read_choice"), "read_choice", "Reader.read_choice", defArgs s_Reader_read_choice, defBody s_Reader_read_choice, defScope s_Reader_read_choice, [], []⟩
def d_Reader_read_look : He.DefD := ⟨("Reader", some "read_look"), "read_look", "Reader.read_look", defArgs s_Reader_read_look, defBody s_Reader_read_look, defScope s_Reader_read_look, [], []⟩
def d_Reader_read_repeat : He.DefD := ⟨("Reader", some "read_repeat"), "read_repeat", "Reader.read_repeat", defArgs s_Reader_read_repeat, defBody s_Reader_read_repeat, defScope s_Reader_read_repeat, [], []⟩
def d_Reader_read_one : He.DefD := ⟨("Reader", some "read_one"), "read_one", "Reader.read_one", defArgs s_Reader_read_one, defBody s_Reader_read_one, defScope s_Reader_read_one, [], []⟩
def d_Reader_read_brackets : He.DefD := ⟨("Reader", some "read_brackets"), "read_brackets", "Reader.read_brackets", defArgs s_Reader_read_brackets, defBody s_Reader_read_brackets, defScope s_Reader_read_brackets, [], []⟩
def d_Reader_read_end : He.DefD := ⟨("Reader", some "read_end"), "read_end", "Reader.read_end", defArgs s_Reader_read_end, defBody s_Reader_read_end, defScope s_Reader_read_end, [], []⟩
def d_read_way : He.DefD := ⟨("read_way", none), "read_way", "read_way", defArgs s_read_way, defBody s_read_way, defScope s_read_way, [], []⟩
def d__law_skip : He.DefD := ⟨("_law_skip", none), "_law_skip", "_law_skip", defArgs s__law_skip, defBody s__law_skip, defScope s__law_skip, [], []⟩
def d__law_begins : He.DefD := ⟨("_law_begins", none), "_law_begins", "_law_begins", defArgs s__law_begins, defBody s__law_begins, defScope s__law_begins, [], []⟩
def d__law_read_call : He.DefD := ⟨("_law_read_call", none), "_law_read_call", "_law_read_call", defArgs s__law_read_call, defBody s__law_read_call, defScope s__law_read_call, [], []⟩
def d__law_read_one : He.DefD := ⟨("_law_read_one", none), "_law_read_one", "_law_read_one", defArgs s__law_read_one, defBody s__law_read_one, defScope s__law_read_one, [], []⟩
def d__law_read_row : He.DefD := ⟨("_law_read_row", none), "_law_read_row", "_law_read_row", defArgs s__law_read_row, defBody s__law_read_row, defScope s__law_read_row, [], []⟩
def d__law_read_choice : He.DefD := ⟨("_law_read_choice", none), "_law_read_choice", "_law_read_choice", defArgs s__law_read_choice, defBody s__law_read_choice, defScope s__law_read_choice, [], []⟩
def d__law_read_look : He.DefD := ⟨("_law_read_look", none), "_law_read_look", "_law_read_look", defArgs s__law_read_look, defBody s__law_read_look, defScope s__law_read_look, [], []⟩
def d__law_due : He.DefD := ⟨("_law_due", none), "_law_due", "_law_due", defArgs s__law_due, defBody s__law_due, defScope s__law_due, [], []⟩
def d__law_told : He.DefD := ⟨("_law_told", none), "_law_told", "_law_told", defArgs s__law_told, defBody s__law_told, defScope s__law_told, [], []⟩
def d__law_bent : He.DefD := ⟨("_law_bent", none), "_law_bent", "_law_bent", defArgs s__law_bent, defBody s__law_bent, defScope s__law_bent, [], []⟩
def d_law : He.DefD := ⟨("law", none), "law", "law", defArgs s_law, defBody s_law, defScope s_law, [], []⟩
def d_Letter___init__ : He.DefD := ⟨("Letter", some "__init__"), "__init__", "Letter.__init__", defArgs s_Letter___init__, defBody s_Letter___init__, defScope s_Letter___init__, [], []⟩
def d_One___init__ : He.DefD := ⟨("One", some "__init__"), "__init__", "One.__init__", defArgs s_One___init__, defBody s_One___init__, defScope s_One___init__, [], []⟩
def d_Nothing___init__ : He.DefD := ⟨("Nothing", some "__init__"), "__init__", "Nothing.__init__", defArgs s_Nothing___init__, defBody s_Nothing___init__, defScope s_Nothing___init__, [], []⟩
def d_Row___init__ : He.DefD := ⟨("Row", some "__init__"), "__init__", "Row.__init__", defArgs s_Row___init__, defBody s_Row___init__, defScope s_Row___init__, [], []⟩
def d_Choice___init__ : He.DefD := ⟨("Choice", some "__init__"), "__init__", "Choice.__init__", defArgs s_Choice___init__, defBody s_Choice___init__, defScope s_Choice___init__, [], []⟩
def d_Again___init__ : He.DefD := ⟨("Again", some "__init__"), "__init__", "Again.__init__", defArgs s_Again___init__, defBody s_Again___init__, defScope s_Again___init__, [], []⟩
def d_Maybe___init__ : He.DefD := ⟨("Maybe", some "__init__"), "__init__", "Maybe.__init__", defArgs s_Maybe___init__, defBody s_Maybe___init__, defScope s_Maybe___init__, [], []⟩
def d_Ahead___init__ : He.DefD := ⟨("Ahead", some "__init__"), "__init__", "Ahead.__init__", defArgs s_Ahead___init__, defBody s_Ahead___init__, defScope s_Ahead___init__, [], []⟩
def d_Unless___init__ : He.DefD := ⟨("Unless", some "__init__"), "__init__", "Unless.__init__", defArgs s_Unless___init__, defBody s_Unless___init__, defScope s_Unless___init__, [], []⟩
def d_Call___init__ : He.DefD := ⟨("Call", some "__init__"), "__init__", "Call.__init__", defArgs s_Call___init__, defBody s_Call___init__, defScope s_Call___init__, [], []⟩
def d_BadText___init__ : He.DefD := ⟨("BadText", some "__init__"), "__init__", "BadText.__init__", defArgs s_BadText___init__, defBody s_BadText___init__, defScope s_BadText___init__, [], []⟩
def fn : List He.DefD := [d__law_draw, d__law_pen, d__law_pick, d__law_signs, d__law_leaf, d__law_way_of, d__law_way, d__law_inner, d_Way___init__, d__law_made, d_Way___eq__, d_is_put_in_brackets, d_inner_text, d_way_text, d_Way___str__, d_way_of, d_Reader___init__, d_Reader_next_sign, d_Reader_refuse, d_Reader_step_over, d_Reader_read_name, d_Reader_is_letter, d_Reader_begins, d_Reader_read_row, d_Reader_read_choice, d_Reader_read_look, d_Reader_read_repeat, d_Reader_read_one, d_Reader_read_brackets, d_Reader_read_end, d_read_way, d__law_skip, d__law_begins, d__law_read_call, d__law_read_one, d__law_read_row, d__law_read_choice, d__law_read_look, d__law_due, d__law_told, d__law_bent, d_law]
def sn : List He.DefD := [d_Letter___init__, d_One___init__, d_Nothing___init__, d_Row___init__, d_Choice___init__, d_Again___init__, d_Maybe___init__, d_Ahead___init__, d_Unless___init__, d_Call___init__, d_BadText___init__]
def snw : List He.DefD := [d_Letter___init__, d_One___init__, d_Nothing___init__, d_Row___init__, d_Choice___init__, d_Again___init__, d_Maybe___init__, d_Ahead___init__, d_Unless___init__, d_Call___init__]
def fa : List He.Fa := [.glo "_law_draw", .glo "_law_pen", .glo "_law_pick", .glo "_law_signs", .glo "_law_leaf", .glo "_law_way_of", .glo "_law_way", .glo "_law_inner", .glo "_law_made", .glo "is_put_in_brackets", .glo "inner_text", .glo "way_text", .glo "way_of", .glo "read_way", .glo "_law_skip", .glo "_law_begins", .glo "_law_read_call", .glo "_law_read_one", .glo "_law_read_row", .glo "_law_read_choice", .glo "_law_read_look", .glo "_law_due", .glo "_law_told", .glo "_law_bent", .glo "law", .glo "Letter", .glo "One", .glo "Nothing", .glo "Row", .glo "Choice", .glo "Again", .glo "Maybe", .glo "Ahead", .glo "Unless", .glo "Call", .glo "Way", .free "len", .free "int", .free "list", .free "range", .free "min", .free "max", .free "sum", .free "isinstance", .free "tuple", .free "set", .free "sorted", .free "str", .free "enumerate", .free "reversed", .free "all", .free "any", .free "divmod", .free "dict", .free "super", .free "iter", .free "zip", .free "bool", .free "abs", .free "type", .cls "Letter", .cls "One", .cls "Nothing", .cls "Row", .cls "Choice", .cls "Again", .cls "Maybe", .cls "Ahead", .cls "Unless", .cls "Call", .mkr "Letter", .mkr "One", .mkr "Nothing", .mkr "Row", .mkr "Choice", .mkr "Again", .mkr "Maybe", .mkr "Ahead", .mkr "Unless", .mkr "Call", .noat "Letter" "word", .noat "Letter" "sign", .noat "Letter" "inner", .noat "Letter" "letter", .noat "Letter" "name", .noat "Letter" "part", .noat "Letter" "ways", .noat "One" "word"]
def fa2 : List He.Fa := [.noat "One" "sign", .noat "One" "inner", .noat "One" "letter", .noat "One" "name", .noat "One" "part", .noat "One" "ways", .noat "Nothing" "word", .noat "Nothing" "sign", .noat "Nothing" "inner", .noat "Nothing" "letter", .noat "Nothing" "name", .noat "Nothing" "part", .noat "Nothing" "ways", .noat "Row" "word", .noat "Row" "sign", .noat "Row" "inner", .noat "Row" "letter", .noat "Row" "name", .noat "Row" "part", .noat "Row" "ways", .noat "Choice" "word", .noat "Choice" "sign", .noat "Choice" "inner", .noat "Choice" "letter", .noat "Choice" "name", .noat "Choice" "part", .noat "Choice" "ways", .noat "Again" "word", .noat "Again" "sign", .noat "Again" "inner", .noat "Again" "letter", .noat "Again" "name", .noat "Again" "part", .noat "Again" "ways", .noat "Maybe" "word", .noat "Maybe" "sign", .noat "Maybe" "inner", .noat "Maybe" "letter", .noat "Maybe" "name", .noat "Maybe" "part", .noat "Maybe" "ways", .noat "Ahead" "word", .noat "Ahead" "sign", .noat "Ahead" "inner", .noat "Ahead" "letter", .noat "Ahead" "name", .noat "Ahead" "part", .noat "Ahead" "ways", .noat "Unless" "word", .noat "Unless" "sign", .noat "Unless" "inner", .noat "Unless" "letter", .noat "Unless" "name", .noat "Unless" "part", .noat "Unless" "ways", .noat "Call" "word", .noat "Call" "sign", .noat "Call" "inner", .noat "Call" "letter", .noat "Call" "name", .noat "Call" "part", .noat "Call" "ways", .glo "BadText", .glo "WayError", .glo "MARKS", .glo "Reader", .cls "Reader", .mkr "Reader", .str "LETTERS" "abcdefghijklmnopqrstuvwxyz", .int "MOST_LETTERS" 12, .glo "WORDS", .noat "Reader" "text", .noat "Reader" "line", .noat "Reader" "make", .noat "Reader" "place", .meth "Reader" "__init__", .meth "Reader" "next_sign", .meth "Reader" "refuse", .meth "Reader" "step_over", .meth "Reader" "read_name", .meth "Reader" "is_letter", .meth "Reader" "begins", .meth "Reader" "read_row", .meth "Reader" "read_choice", .meth "Reader" "read_look", .meth "Reader" "read_repeat", .meth "Reader" "read_one", .meth "Reader" "read_brackets", .meth "Reader" "read_end"]
def d_cm_Way_read : He5.DefA := ⟨fun K => He5.wf K (He.ga K "Way") "classmethod" "read", "read", "Way.read", defArgs s_Way_read, defBody s_Way_read, defScope s_Way_read, [], []⟩
def cs : List He5.DefA := [d_cm_Way_read]
def as : List Addr := [3, 2, 6, 4, 24, 46, 49, 50, 57, 64, 69, 177, 188, 257, 280, 301, 322, 343, 364, 385, 406, 427, 448, 469, 478, 487, 494, 501, 508, 515, 522, 529, 536, 543, 548, 555, 562, 569, 576, 583, 590, 597, 604, 611, 618, 625, 0, 23, 45, 56, 63, 68, 176, 187, 256, 279, 300, 321, 342, 363, 384, 405, 426, 447, 468, 477, 486, 480, 493, 500, 507, 514, 521, 528, 535, 542, 547, 554, 561, 568, 575, 582, 589, 596, 603, 610, 617, 624, 22, 25, 43, 44, 51, 52, 53, 54, 55, 58, 59, 60] ++
  [61, 62, 65, 66, 67, 83, 90, 97, 104, 111, 118, 125, 132, 139, 146, 153, 160, 167, 174, 175, 178, 179, 182, 183, 184, 185, 186, 202, 209, 216, 223, 230, 237, 244, 253, 255, 258, 259, 277, 278, 298, 299, 319, 320, 340, 341, 361, 362, 382, 383, 403, 404, 424, 425, 445, 446, 466, 467, 472, 473, 474, 475, 476, 481, 482, 483, 484, 485, 479, 488, 489, 490, 491, 492, 495, 496, 497, 498, 499, 502, 503, 504, 505, 506, 509, 510, 511, 512, 513, 516, 517, 518, 519, 520, 523, 524, 525, 526, 527, 530] ++
  [531, 532, 533, 534, 537, 538, 539, 540, 541, 544, 545, 546, 549, 550, 551, 552, 553, 556, 557, 558, 559, 560, 563, 564, 565, 566, 567, 570, 571, 572, 573, 574, 577, 578, 579, 580, 581, 584, 585, 586, 587, 588, 591, 592, 593, 594, 595, 598, 599, 600, 601, 602, 605, 606, 607, 608, 609, 612, 613, 614, 615, 616, 619, 620, 621, 622, 623, 42, 31, 82, 89, 96, 103, 110, 117, 124, 131, 138, 145, 152, 159, 166, 173, 201, 208, 215, 222, 229, 236, 243, 251, 252, 276, 265, 297, 286, 318, 307, 339, 328] ++
  [360, 349, 381, 370, 402, 391, 423, 412, 444, 433, 465, 454, 37, 38, 39, 40, 41, 77, 78, 79, 80, 81, 84, 85, 86, 87, 88, 91, 92, 93, 94, 95, 98, 99, 100, 101, 102, 105, 106, 107, 108, 109, 112, 113, 114, 115, 116, 119, 120, 121, 122, 123, 126, 127, 128, 129, 130, 133, 134, 135, 136, 137, 140, 141, 142, 143, 144, 147, 148, 149, 150, 151, 154, 155, 156, 157, 158, 161, 162, 163, 164, 165, 168, 169, 170, 171, 172, 196, 197, 198, 199, 200, 203, 204, 205, 206, 207, 210, 211, 212] ++
  [213, 214, 217, 218, 219, 220, 221, 224, 225, 226, 227, 228, 231, 232, 233, 234, 235, 238, 239, 240, 241, 242, 250, 254, 271, 272, 273, 274, 275, 292, 293, 294, 295, 296, 313, 314, 315, 316, 317, 334, 335, 336, 337, 338, 355, 356, 357, 358, 359, 376, 377, 378, 379, 380, 397, 398, 399, 400, 401, 418, 419, 420, 421, 422, 439, 440, 441, 442, 443, 460, 461, 462, 463, 464]
def way0 (K : PySem.W.Frag) : Addr := He.fAd K ("Way", some "__init__")
def ex (K : PySem.W.Frag) : Bool := (snw.all fun d => supB PySem.Challenge.pw_waystaken_k05_wrong_texts_of_ways.main.file K d && baseB K (He.ga K d.at_.1) (way0 K)) && (exB PySem.Challenge.pw_waystaken_k05_wrong_texts_of_ways.main.file K d_BadText___init__ ["line", "place"] && (exmB K "BadText" "BadText" && (kitB K "BadText" "WayError" && (eqWB K && (decide (PySem.W.kitOne K (.type "int") (.ref (He.ga K "Way")) = some false) && (He.valsB K (He.ga K "MARKS") marksV && (He.valsB K (He.ga K "WORDS") wordsV && (cmB K "Way" "read" d_cm_Way_read && (metB K "__str__" && (true))))))))))
def loose : List Str := ([("WayError" : Str), ("BadText" : Str), ("LETTERS" : Str), ("MOST_LETTERS" : Str), ("MARKS" : Str), ("WORDS" : Str), ("is_put_in_brackets" : Str), ("inner_text" : Str), ("way_text" : Str), ("Reader" : Str), ("read_way" : Str), ("Way" : Str), ("Letter" : Str), ("One" : Str), ("Nothing" : Str), ("Row" : Str), ("Choice" : Str), ("Again" : Str), ("Maybe" : Str), ("Ahead" : Str)] : List Str) ++ ([("Unless" : Str), ("Call" : Str), ("way_of" : Str), ("parts_of" : Str), ("_law_pen" : Str), ("_law_draw" : Str), ("_law_pick" : Str), ("_law_signs" : Str), ("_law_leaf" : Str), ("_law_way" : Str), ("_law_way_of" : Str), ("_law_inner" : Str), ("_law_made" : Str), ("_law_skip" : Str), ("_law_begins" : Str), ("_law_read_choice" : Str), ("_law_read_row" : Str), ("_law_read_look" : Str), ("_law_read_one" : Str), ("_law_read_call" : Str)] : List Str) ++ ([("_law_due" : Str), ("_law_told" : Str), ("_law_bent" : Str)] : List Str)
def ts : List He.Tab := [(fun K => He.ga K "MARKS", ["again", "maybe", "ahead", "unless"]), (fun K => He.ga K "WORDS", ["*", "?", "&", "!"])]
abbrev R : PySem.W.OpenRow := PySem.W.OpenLaw.row PySem.Challenge.rw_waystaken_k05_wrong_texts_of_ways
abbrev hk : PySem.W.Hook := hookP as fa fa2 fn sn ex cs ts
def ob (s : PySem.W.SharedT) : AlP := obsP as fa fa2 fn sn ex cs ts (HandSHeadRun.getT s)
theorem ob_eq (s : PySem.W.SharedT) : ob s = hk.obs s.abs := obsP_eq (HandSHeadRun.getT_eq s)
theorem runA0 (w : World) : RunA R (PySem.W.view R.prog [47]) 20000 loose (w.withFollow "special-get-raises" false) := by
  intro os
  kernel_rfl
theorem runP0 (w : World) : RunP R (fun g => (oFa as fa g, (oFa as fa2 g, oFn as fn g))) (true, (true, true)) 20000 (w.withFollow "special-get-raises" false) := by
  intro os
  kernel_rfl
theorem runQ0 (w : World) : RunP R (fun g => (oEx as ex g, oVal as fn sn g)) (true, (fn.map He.DefD.val, sn.map valY)) 20000 (w.withFollow "special-get-raises" false) := by
  intro os
  kernel_rfl
theorem runR0 (w : World) : RunP R (oCs as cs ts) (cs.map He5.DefA.val, ts.map fun t => some (He.keysIn (w.withFollow "special-get-raises" false).params t.2)) 20000 (w.withFollow "special-get-raises" false) := by
  intro os
  kernel_rfl
theorem runB0 (w : World) : RunB R hk ob 20000 (w.withFollow "special-get-raises" false) := runB_of (runP0 w) (runQ0 w) (runR0 w)
theorem runA1 (w : World) : RunA R (PySem.W.view R.prog [47]) 20000 loose (w.withFollow "special-get-raises" true) := by
  intro os
  kernel_rfl
theorem runP1 (w : World) : RunP R (fun g => (oFa as fa g, (oFa as fa2 g, oFn as fn g))) (true, (true, true)) 20000 (w.withFollow "special-get-raises" true) := by
  intro os
  kernel_rfl
theorem runQ1 (w : World) : RunP R (fun g => (oEx as ex g, oVal as fn sn g)) (true, (fn.map He.DefD.val, sn.map valY)) 20000 (w.withFollow "special-get-raises" true) := by
  intro os
  kernel_rfl
theorem runR1 (w : World) : RunP R (oCs as cs ts) (cs.map He5.DefA.val, ts.map fun t => some (He.keysIn (w.withFollow "special-get-raises" true).params t.2)) 20000 (w.withFollow "special-get-raises" true) := by
  intro os
  kernel_rfl
theorem runB1 (w : World) : RunB R hk ob 20000 (w.withFollow "special-get-raises" true) := runB_of (runP1 w) (runQ1 w) (runR1 w)
theorem run0 (w : World) : HandSHeadRun.RunEq R (PySem.W.view R.prog [47]) hk ob 20000 loose (w.withFollow "special-get-raises" false) := run_ab (runA0 w) (runB0 w)
theorem run1 (w : World) : HandSHeadRun.RunEq R (PySem.W.view R.prog [47]) hk ob 20000 loose (w.withFollow "special-get-raises" true) := run_ab (runA1 w) (runB1 w)
end K05
set_option Elab.async false
set_option linter.all false
set_option maxRecDepth 100000
set_option maxHeartbeats 1000000
/-! DL1: values as trees (D), what is mutable (Mem), the slots of a def (Sl); readings over these, lifted to the hand layer's. -/
namespace DL
open PySem PySem.Spec PyProof.Rows L2


section
variable {K : PySem.W.Frag} {S S' : Hp}
theorem Reps.append : ∀ {ds es : List D} {vs us : List V}, Reps K S ds vs → Reps K S es us → Reps K S (ds ++ es) (vs ++ us)
  | [], _, [], _, _, h => h
  | _ :: _, _, _ :: _, _, h, q => ⟨h.1, Reps.append h.2 q⟩
  | [], _, _ :: _, _, h, _ => h.elim
  | _ :: _, _, [], _, h, _ => h.elim
theorem Reps.take : ∀ {ds : List D} {vs : List V} (n : Nat), Reps K S ds vs → Reps K S (ds.take n) (vs.take n)
  | _, _, 0, _ => by rw [List.take_zero, List.take_zero]; trivial
  | [], [], n + 1, _ => trivial
  | _ :: _, _ :: _, n + 1, h => ⟨h.1, Reps.take n h.2⟩
  | [], _ :: _, _ + 1, h => h.elim
  | _ :: _, [], _ + 1, h => h.elim
theorem Reps.nil_inv {vs : List V} (h : Reps K S [] vs) : vs = [] := by
  cases vs with
  | nil => rfl
  | cons _ _ => exact h.elim
end

theorem mset_ne {M : Mem} {a b : Addr} {o : MO} (h : b ≠ a) : mset M a o b = M b := by unfold mset; rw [if_neg h]
def m0 : Mem := fun _ => none
@[reducible] def put : Ev → Nat → Sl → Ev
  | [], _, _ => []
  | _ :: r, 0, x => x :: r
  | s :: r, n + 1, x => s :: put r n x
theorem put_length (x : Sl) : ∀ (e : Ev) (i : Nat), (put e i x).length = e.length
  | [], _ => rfl
  | _ :: _, 0 => rfl
  | _ :: r, n + 1 => congrArg Nat.succ (put_length x r n)
theorem look_put_same {x : Sl} : ∀ {e : Ev} {i : Nat}, i < e.length → look (put e i x) i = x
  | [], _, h => absurd h (Nat.not_lt_zero _)
  | _ :: _, 0, _ => rfl
  | _ :: r, n + 1, h => look_put_same (e := r) (Nat.lt_of_succ_lt_succ h)
theorem look_put_ne {x : Sl} : ∀ {e : Ev} {i j : Nat}, i ≠ j → look (put e i x) j = look e j
  | [], _, _, _ => rfl
  | _ :: _, 0, 0, h => absurd rfl h
  | _ :: _, 0, _ + 1, _ => rfl
  | _ :: _, _ + 1, 0, _ => rfl
  | _ :: r, n + 1, m + 1, h => look_put_ne (e := r) (fun q => h (congrArg Nat.succ q))
theorem look_lt : ∀ {e : Ev} {i : Nat} {s : Sl}, look e i = s → s ≠ .no → i < e.length
  | [], _, _, h, n => absurd h.symm n
  | _ :: _, 0, _, _, _ => Nat.succ_pos _
  | _ :: r, n + 1, _, h, q => Nat.succ_lt_succ (look_lt (e := r) h q)

theorem ghOk0 {F S : Hp} : @GhOk gh0 F S := @GhOk.mk gh0 F S (fun _ _ e => by cases e) (fun _ _ e => by cases e)

theorem RelC.newM {K : PySem.W.Frag} {F S H : Hp} {M : Mem} (R : RelC K F S H M) {p : Addr} {o : HO} {m : MO} (h : H p = none) (hm : MOk K S (upd H p o) p m) : RelC K F S (upd H p o) (mset M p m) := by
  have sp := R.sfree h
  have fp := R.ffree h
  refine ⟨fun b u e => ?_, fun b u e => ?_, fun b u e => ?_⟩
  · rw [upd_ne (fun z => by rw [z, sp] at e; cases e)]; exact R.same b u e
  · have hb : b ≠ p := fun z => by rw [z, fp] at e; cases e
    rw [upd_ne hb, mset_ne hb]
    exact R.fr b u e
  · by_cases hb : b = p
    · subst hb
      rw [mset_same] at e
      cases e
      exact ⟨sp, hm⟩
    · rw [mset_ne hb] at e
      exact ⟨(R.mem b u e).1, (R.mem b u e).2.mono (Same.refl _) (upd_ne hb)⟩
/-- a mutable thing changes -/
theorem RelC.setM {K : PySem.W.Frag} {F S H : Hp} {M : Mem} (R : RelC K F S H M) {p : Addr} {o : HO} {m m' : MO} (h : M p = some m) (hm : MOk K S (upd H p o) p m') : RelC K F S (upd H p o) (mset M p m') := by
  have sp := (R.mem p m h).1
  refine ⟨fun b u e => ?_, fun b u e => ?_, fun b u e => ?_⟩
  · rw [upd_ne (fun z => by rw [z, sp] at e; cases e)]; exact R.same b u e
  · have hb : b ≠ p := fun z => by rw [z] at e; rw [(R.fr p u e).2.2] at h; cases h
    rw [upd_ne hb, mset_ne hb]
    exact R.fr b u e
  · by_cases hb : b = p
    · subst hb
      rw [mset_same] at e
      cases e
      exact ⟨sp, hm⟩
    · rw [mset_ne hb] at e
      exact ⟨(R.mem b u e).1, (R.mem b u e).2.mono (Same.refl _) (upd_ne hb)⟩

variable [Gh]
section
variable {K : PySem.W.Frag} {F S H : Hp} {M : Mem} {σ : L2.St} {env : Ev}
theorem Rel.newM (R : Rel K F S σ H env M) {p : Addr} {o : HO} {m : MO} (h : H p = none) (hm : MOk K S (upd H p o) p m) : Rel K F S σ (upd H p o) env (mset M p m) := by
  refine R.grow (R.c.newM h hm) (Same.refl _) fun i a e hi => ?_
  have n := R.ownNe e hi h
  obtain ⟨ds, hi⟩ := hi
  obtain ⟨b, xs, e1, e2, e3, e4, _⟩ := R.own i ds hi
  rw [e] at e1
  cases e1
  exact ⟨upd_ne n, e3, by rw [mset_ne n]; exact e4⟩
theorem Rel.setM (R : Rel K F S σ H env M) {p : Addr} {o : HO} {m m' : MO} (h : M p = some m) (hm : MOk K S (upd H p o) p m') : Rel K F S σ (upd H p o) env (mset M p m') := by
  refine R.grow (R.c.setM h hm) (Same.refl _) fun i a e hi => ?_
  obtain ⟨ds, hi⟩ := hi
  obtain ⟨b, xs, e1, e2, e3, e4, _⟩ := R.own i ds hi
  rw [e] at e1
  cases e1
  have n : a ≠ p := fun z => by rw [z, h] at e4; cases e4
  exact ⟨upd_ne n, e3, by rw [mset_ne n]; exact e4⟩
/-- a slot gets a value -/
theorem Rel.store (R : Rel K F S σ H env M) {i : Nat} {d : D} {v : V} (r : Rep K S d v) : Rel K F S (σ.set i (some v)) H (put env i (.val d)) M := by
  refine ⟨R.c, by rw [put_length, List.length_set]; exact R.len, fun j e q => ?_, fun j ds q => ?_, fun j k a ds es n q1 q2 e => ?_, R.g⟩
  · by_cases h : i = j
    · subst h
      have hi : i < env.length := by have := look_lt q (fun z => by cases z); rwa [put_length] at this
      rw [look_put_same hi] at q
      cases q
      exact ⟨v, by rw [List.getElem?_set_self (by rw [← R.len]; exact hi)], r⟩
    · rw [look_put_ne h] at q
      obtain ⟨u, e1, r1⟩ := R.val j e q
      exact ⟨u, by rw [List.getElem?_set_ne h]; exact e1, r1⟩
  · by_cases h : i = j
    · subst h
      have hi : i < env.length := by have := look_lt q (fun z => by cases z); rwa [put_length] at this
      rw [look_put_same hi] at q
      cases q
    · rw [look_put_ne h] at q
      obtain ⟨a, xs, e1, x⟩ := R.own j ds q
      exact ⟨a, xs, by rw [List.getElem?_set_ne h]; exact e1, x⟩
  · have hj : i ≠ j := fun h => by
      subst h
      have hi : i < env.length := by have := look_lt q1 (fun z => by cases z); rwa [put_length] at this
      rw [look_put_same hi] at q1
      cases q1
    have hk : i ≠ k := fun h => by
      subst h
      have hi : i < env.length := by have := look_lt q2 (fun z => by cases z); rwa [put_length] at this
      rw [look_put_same hi] at q2
      cases q2
    rw [look_put_ne hj] at q1
    rw [look_put_ne hk] at q2
    rw [List.getElem?_set_ne hj] at e
    rw [List.getElem?_set_ne hk]
    exact R.dis j k a ds es n q1 q2 e
/-- a slot gets a list of its own: new, or one that no slot holds any more -/
theorem Rel.storeOwn (R : Rel K F S σ H env M) {i : Nat} {ds : List D} {a : Addr} {xs : List V} (e2 : H a = some (.lst xs)) (e3 : S a = none) (e4 : M a = none) (e5 : F a = none) (r : Reps K S ds xs)
    (nw : ∀ j es, look env j = .own es → j ≠ i → σ[j]? ≠ some (some (.ref a))) : Rel K F S (σ.set i (some (.ref a))) H (put env i (.own ds)) M := by
  refine ⟨R.c, by rw [put_length, List.length_set]; exact R.len, fun j e q => ?_, fun j es q => ?_, fun j k b es fs n q1 q2 e => ?_, R.g⟩
  · by_cases h : i = j
    · subst h
      have hi : i < env.length := by have := look_lt q (fun z => by cases z); rwa [put_length] at this
      rw [look_put_same hi] at q
      cases q
    · rw [look_put_ne h] at q
      obtain ⟨u, e1, r1⟩ := R.val j e q
      exact ⟨u, by rw [List.getElem?_set_ne h]; exact e1, r1⟩
  · by_cases h : i = j
    · subst h
      have hi : i < env.length := by have := look_lt q (fun z => by cases z); rwa [put_length] at this
      rw [look_put_same hi] at q
      cases q
      exact ⟨a, xs, by rw [List.getElem?_set_self (by rw [← R.len]; exact hi)], e2, e3, e4, e5, r⟩
    · rw [look_put_ne h] at q
      obtain ⟨b, ys, e1, x⟩ := R.own j es q
      exact ⟨b, ys, by rw [List.getElem?_set_ne h]; exact e1, x⟩
  · by_cases hj : i = j
    · subst hj
      have hi : i < env.length := by have := look_lt q1 (fun z => by cases z); rwa [put_length] at this
      rw [List.getElem?_set_self (by rw [← R.len]; exact hi)] at e
      cases e
      rw [look_put_ne n] at q2
      rw [List.getElem?_set_ne n]
      exact nw k fs q2 (Ne.symm n)
    · rw [look_put_ne hj] at q1
      rw [List.getElem?_set_ne hj] at e
      by_cases hk : i = k
      · subst hk
        have hi : i < env.length := by have := look_lt q2 (fun z => by cases z); rwa [put_length] at this
        rw [List.getElem?_set_self (by rw [← R.len]; exact hi)]
        intro z
        cases z
        exact nw j es q1 (Ne.symm hj) e
      · rw [look_put_ne hk] at q2
        rw [List.getElem?_set_ne hk]
        exact R.dis j k b es fs n q1 q2 e
/-- a list of one's own is handed out: it never changes from now on -/
theorem Rel.freeze (R : Rel K F S σ H env M) {i : Nat} {ds : List D} (q : look env i = .own ds) : ∃ a xs, σ[i]? = some (some (.ref a)) ∧ H a = some (.lst xs) ∧
    Same S (upd S a (.lst xs)) ∧ Rel K F (upd S a (.lst xs)) σ H (put env i (.val (.lst ds))) M ∧ Rep K (upd S a (.lst xs)) (.lst ds) (.ref a) := by
  obtain ⟨a, xs, e1, e2, e3, e4, e5, r⟩ := R.own i ds q
  have hi : i < env.length := look_lt q (fun z => by cases z)
  have ss : Same S (upd S a (.lst xs)) := fun b u e => by rw [upd_ne (fun z => by rw [z, e3] at e; cases e)]; exact e
  have rp : Rep K (upd S a (.lst xs)) (.lst ds) (.ref a) := ⟨a, xs, rfl, upd_same, r.mono ss⟩
  refine ⟨a, xs, e1, e2, ss, ⟨⟨fun b u e => ?_, fun b u e => ?_, fun b u e => ?_⟩, by rw [put_length]; exact R.len, fun j e q' => ?_, fun j es q' => ?_, fun j k b es fs n q1 q2 e => ?_, R.g.up ss⟩, rp⟩
  · by_cases hb : b = a
    · subst hb; rw [upd_same] at e; cases e; exact e2
    · rw [upd_ne hb] at e; exact R.c.same b u e
  · have hb : b ≠ a := fun z => by rw [z, e5] at e; cases e
    rw [upd_ne hb]
    exact R.c.fr b u e
  · have hb : b ≠ a := fun z => by rw [z, e4] at e; cases e
    rw [upd_ne hb]
    exact ⟨(R.c.mem b u e).1, (R.c.mem b u e).2.mono ss rfl⟩
  · by_cases h : i = j
    · subst h
      rw [look_put_same hi] at q'
      cases q'
      exact ⟨_, e1, rp⟩
    · rw [look_put_ne h] at q'
      obtain ⟨u, e', r1⟩ := R.val j e q'
      exact ⟨u, e', r1.mono ss⟩
  · by_cases h : i = j
    · subst h
      rw [look_put_same hi] at q'
      cases q'
    · rw [look_put_ne h] at q'
      obtain ⟨b, ys, f1, f2, f3, f4, f5, r1⟩ := R.own j es q'
      have hb : b ≠ a := fun z => by rw [z] at f1; exact R.dis i j a ds es h q q' e1 f1
      exact ⟨b, ys, f1, f2, by rw [upd_ne hb]; exact f3, f4, f5, r1.mono ss⟩
  · have hj : i ≠ j := fun h => by
      subst h
      rw [look_put_same hi] at q1
      cases q1
    have hk : i ≠ k := fun h => by
      subst h
      rw [look_put_same hi] at q2
      cases q2
    rw [look_put_ne hj] at q1
    rw [look_put_ne hk] at q2
    exact R.dis j k b es fs n q1 q2 e
end

theorem nb_eq (b : Bool) : nb b = !b := by cases b <;> rfl

/-! ### lifted readings -/
def LE (K : PySem.W.Frag) (t : DT) : TE := fun σ H Q => ∃ F S env M Qd, Rel K F S σ H env M ∧ t env M Qd ∧ PostE K F S σ Qd Q
theorem pe_imp {X : Cx} {e : Expr} {t t' : TE} (h : PE X e t) (i : ∀ σ H Q, t' σ H Q → t σ H Q) : PE X e t' := ⟨fun pins s σ H Q I q => h.run pins s σ H Q I (i σ H Q q)⟩
theorem ps_imp {X : Cx} {e : Stmt} {t t' : TS} (h : PS X e t) (i : ∀ D σ H, t' D σ H → t D σ H) : PS X e t' := ⟨fun pins s σ H D I q => h.run pins s σ H D I (i D σ H q)⟩
theorem pss_imp {X : Cx} {e : List Stmt} {t t' : TS} (h : PSs X e t) (i : ∀ D σ H, t' D σ H → t D σ H) : PSs X e t' := ⟨fun pins s σ H D I q => h.run pins s σ H D I (i D σ H q)⟩
theorem pt_imp {X : Cx} {e : Expr} {t t' : TT} (h : PT X e t) (i : ∀ σ H Q, t' σ H Q → t σ H Q) : PT X e t' := ⟨fun pins s σ H Q I q => h.run pins s σ H Q I (i σ H Q q)⟩
theorem pw_imp {X : Cx} {e : Expr} {t t' : TT} (h : PW X e t) (i : ∀ σ H Q, t' σ H Q → t σ H Q) : PW X e t' := ⟨fun wh pins s σ H Q I q => h.run wh pins s σ H Q I (i σ H Q q)⟩
theorem pa_imp {X : Cx} {e : List Expr} {t t' : TA} (h : PA X e t) (i : ∀ σ H Q, t' σ H Q → t σ H Q) : PA X e t' := ⟨fun pos pins s σ H Q I q => h.run pos pins s σ H Q I (i σ H Q q)⟩
theorem pg_imp {X : Cx} {e : Expr} {t t' : TG} (h : PG X e t) (i : ∀ v σ H Q, t' v σ H Q → t v σ H Q) : PG X e t' := ⟨fun pins s σ H v u Q I r q => h.run pins s σ H v u Q I r (i v σ H Q q)⟩
abbrev DE (X : Cx) (e : Expr) (t : DT) : Prop := PE X e (LE X.K t)

def PostA (K : PySem.W.Frag) (F S : Hp) (σ : L2.St) (Qd : KDs) (Q : List V → Hp → Prop) : Prop :=
  ∀ vs H' S' env' M' ds, Same S S' → Rel K F S' σ H' env' M' → Reps K S' ds vs → Qd ds env' M' → Q vs H'
def LA (K : PySem.W.Frag) (t : DTA) : TA := fun σ H Q => ∃ F S env M Qd, Rel K F S σ H env M ∧ t env M Qd ∧ PostA K F S σ Qd Q
abbrev DA (X : Cx) (es : List Expr) (t : DTA) : Prop := PA X es (LA X.K t)
def PostT (K : PySem.W.Frag) (F S : Hp) (σ : L2.St) (Qd : KB) (Q : Bool → Hp → Prop) : Prop :=
  ∀ b H' S' env' M', Same S S' → Rel K F S' σ H' env' M' → Qd b env' M' → Q b H'
def LT (K : PySem.W.Frag) (t : DTT) : TT := fun σ H Q => ∃ F S env M Qd, Rel K F S σ H env M ∧ t env M Qd ∧ PostT K F S σ Qd Q
abbrev DTst (X : Cx) (e : Expr) (t : DTT) : Prop := PT X e (LT X.K t)
abbrev DW (X : Cx) (e : Expr) (t : DTT) : Prop := PW X e (LT X.K t)

abbrev DTS := DEnds → Ev → Mem → Prop
def LS (K : PySem.W.Frag) (t : DTS) : TS := fun E σ H => ∃ F S env M Ed, Rel K F S σ H env M ∧ t Ed env M ∧ PostS K F S Ed E
abbrev DS (X : Cx) (st : Stmt) (t : DTS) : Prop := PS X st (LS X.K t)
abbrev DSs (X : Cx) (st : List Stmt) (t : DTS) : Prop := PSs X st (LS X.K t)

/-! ### names, constants -/
@[reducible] def dVar (i : Nat) : DT := fun env M Q => match look env i with
  | .val d => Q d env M
  | .own ds => Q (.lst ds) (put env i (.val (.lst ds))) M
  | .no => False
@[reducible] def dC (d : D) : DT := fun env M Q => Q d env M
section
variable {X : Cx}
theorem d_var (i : Nat) {x : Str} {pos : Pos} (hN : X.N[i]? = some x := by rfl) (hv : Vis X.env.scope x := by first | exact Or.inl rfl | exact Or.inr (Or.inl rfl) | exact Or.inr (Or.inr rfl)) (hd : (x == ("__debug__" : Str)) = false := by decide)
    (hcd : (x == ("__classdict__" : Str)) = false := by decide) : DE X (.Name x pos) (dVar i) := by
  refine pe_imp (pv i hN hv hd hcd) fun σ H Q ⟨F, S, env, M, Qd, R, t, p⟩ => ?_
  unfold dVar at t
  cases e : look env i with
  | no => rw [e] at t; exact t.elim
  | val d =>
    rw [e] at t
    obtain ⟨v, e1, r⟩ := R.val i d e
    exact ⟨v, e1, p v H S env M d (Same.refl _) R r t⟩
  | own ds =>
    rw [e] at t
    obtain ⟨a, xs, e1, e2, ss, R', r⟩ := R.freeze e
    exact ⟨_, e1, p _ H _ _ M _ ss R' r t⟩
theorem d_int {i j pos} : DE X (.Constant (.int i) j pos) (dC (.int i)) := pe_imp pe_int fun σ H Q ⟨F, S, env, M, Qd, R, t, p⟩ => p _ H S env M (.int i) (Same.refl _) R rfl t
theorem d_bl {b j pos} : DE X (.Constant (.bool b) j pos) (dC (.bl b)) := pe_imp pe_bl fun σ H Q ⟨F, S, env, M, Qd, R, t, p⟩ => p _ H S env M (.bl b) (Same.refl _) R rfl t
theorem d_non {j pos} : DE X (.Constant .none j pos) (dC .non) := pe_imp pe_non fun σ H Q ⟨F, S, env, M, Qd, R, t, p⟩ => p _ H S env M .non (Same.refl _) R rfl t
theorem d_str {x j pos} : DE X (.Constant (.str x) j pos) (dC (.str x)) := pe_imp pe_str fun σ H Q ⟨F, S, env, M, Qd, R, t, p⟩ => p _ H S env M (.str x) (Same.refl _) R rfl t
theorem d_globR {x : Str} {a : Addr} {pos : Pos} (hg : Gl X x) (hm : X.mg x = some (.ref a)) (hd : (x == ("__debug__" : Str)) = false := by decide) : DE X (.Name x pos) (dC (.ref a)) :=
  pe_imp (pe_glob (v := .ref a) hg hm rfl hd) fun σ H Q ⟨F, S, env, M, Qd, R, t, p⟩ => p _ H S env M (.ref a) (Same.refl _) R rfl t
theorem d_globI {x : Str} {i : Int} {tk : Tok} {pos : Pos} (hg : Gl X x) (hm : X.mg x = some (.int i tk)) (hd : (x == ("__debug__" : Str)) = false := by decide) : DE X (.Name x pos) (dC (.int i)) :=
  pe_imp (pe_glob (v := .int i) hg hm ⟨tk, rfl⟩ hd) fun σ H Q ⟨F, S, env, M, Qd, R, t, p⟩ => p _ H S env M (.int i) (Same.refl _) R rfl t
theorem d_globS {x : Str} {z : Str} {tk : Tok} {pos : Pos} (hg : Gl X x) (hm : X.mg x = some (.str z tk)) (hd : (x == ("__debug__" : Str)) = false := by decide) : DE X (.Name x pos) (dC (.str z)) :=
  pe_imp (pe_glob (v := .str z) hg hm ⟨tk, rfl⟩ hd) fun σ H Q ⟨F, S, env, M, Qd, R, t, p⟩ => p _ H S env M (.str z) (Same.refl _) R rfl t
end

/-! ### two-place operations -/
@[reducible] def dBin (rd : RD2) (ta tb : DT) : DT := fun env M Q => ta env M fun d env1 M1 => tb env1 M1 fun e env2 M2 => rd d e env2 M2 Q
section
variable {X : Cx} {a b c : Expr} {ta tb tc : DT} {pos : Pos}
theorem lift2 {r : R2} {rd : RD2} (h : ∀ F S σ H env M x y d e Qd Q, Rel X.K F S σ H env M → Rep X.K S d x → Rep X.K S e y → rd d e env M Qd → PostE X.K F S σ Qd Q → r x y H Q)
    {σ : L2.St} {H : Hp} {Q : VK} (q : LE X.K (dBin rd ta tb) σ H Q) : tOp r (LE X.K ta) (LE X.K tb) σ H Q := by
  obtain ⟨F, S, env, M, Qd, R, t, p⟩ := q
  refine ⟨F, S, env, M, _, R, t, fun v H1 S1 env1 M1 d s1 R1 r1 q1 => ⟨F, S1, env1, M1, _, R1, q1, fun u H2 S2 env2 M2 e s2 R2 r2 q2 => ?_⟩⟩
  exact h F S2 σ H2 env2 M2 v u d e Qd Q R2 (r1.mono s2) r2 q2 (p.up (s1.trans s2))
theorem d_op {op : Operator} {rd : RD2} (ho : OpD X (binaryOp op) rd) (ha : DE X a ta) (hb : DE X b tb) : DE X (.BinOp a op b pos) (dBin rd ta tb) := by
  obtain ⟨r, h1, h2⟩ := ho.ex
  exact pe_imp (pe_op h1 ha hb) fun σ H Q q => lift2 h2 q
theorem d_cmp {op : CmpOp} {rd : RD2} (ho : OpD X (compareOp op) rd) (ha : DE X a ta) (hb : DE X b tb) (hm : behindInMarks op b = false) : DE X (.Compare a [op] [b] pos) (dBin rd ta tb) := by
  obtain ⟨r, h1, h2⟩ := ho.ex
  exact pe_imp (pe_cmpR h1 ha hb hm) fun σ H Q q => lift2 h2 q
/-- a value that is a bool, as a test -/
@[reducible] def dTst (t : DT) : DTT := fun env M Q => t env M fun d env' M' => match d with
  | .bl b => Q b env' M'
  | _ => False
theorem d_tcmp {op : CmpOp} {rd : RD2} (ho : OpD X (compareOp op) rd) (ha : DE X a ta) (hb : DE X b tb) (hm : behindInMarks op b = false) : DTst X (.Compare a [op] [b] pos) (dTst (dBin rd ta tb)) := by
  obtain ⟨r, h1, h2⟩ := ho.ex
  refine pt_imp (pt_cmpR h1 ha hb hm) fun σ H Q ⟨F, S, env, M, Qd, R, t, p⟩ => ?_
  refine lift2 (Q := fun x H' => ∃ k, x = .bl k ∧ Q k H') h2 ⟨F, S, env, M, _, R, t, fun v H' S' env' M' d s' R' r' q' => ?_⟩
  cases d with
  | bl k => exact ⟨k, r', p k H' S' env' M' s' R' q'⟩
  | _ => exact q'.elim
end
end DL
set_option Elab.async false
set_option linter.all false
set_option maxRecDepth 100000
set_option maxHeartbeats 1000000
/-! DL2: operators, comparisons, tests, arguments, displays, subscripts, built-ins. -/
namespace DL
open PySem PySem.Spec PyProof.Rows L2
variable [Gh]

/-! ### data, its equality -/
section
variable {K : PySem.W.Frag} {S : Hp}
mutual
theorem pd_lay : ∀ {d : D}, isData d = true → (pd d).canLay0 = true
  | .non, _ => rfl
  | .bl _, _ => rfl
  | .int _, _ => rfl
  | .str s, h => by
    simp only [isData] at h
    simp only [pd, PyData.canLay0, h]
  | .tup ds, h => by
    simp only [pd, PyData.canLay0]
    exact pds_lay (by simpa [isData] using h)
  | .lst ds, h => by
    simp only [pd, PyData.canLay0]
    exact pds_lay (by simpa [isData] using h)
  | .lstK ds, h => by
    simp only [pd, PyData.canLay0]
    exact pds_lay (by simpa [isData] using h)
  | .ref _, h => by cases h
  | .ty _, h => by cases h
  | .obj _ _ _, h => by cases h
theorem pds_lay : ∀ {ds : List D}, areData ds = true → PyData.canLayAll0 (pds ds) = true
  | [], _ => rfl
  | d :: r, h => by
    have h' := (Bool.and_eq_true_iff.mp (by simpa [areData] using h : (isData d && areData r) = true))
    simp only [pds, PyData.canLayAll0, pd_lay h'.1, pds_lay h'.2, Bool.and_self]
end
mutual
theorem pd_depth : ∀ (d : D), (pd d).depth = depD d
  | .non => rfl
  | .bl _ => rfl
  | .int _ => rfl
  | .str s => rfl
  | .tup ds => by simp only [pd, PyData.depth, depD, pds_depth ds]
  | .lst ds => by simp only [pd, PyData.depth, depD, pds_depth ds]
  | .lstK ds => by simp only [pd, PyData.depth, depD, pds_depth ds]
  | .ref _ => rfl
  | .ty _ => rfl
  | .obj _ _ _ => rfl
theorem pds_depth : ∀ (ds : List D), PyData.depthAll (pds ds) = depDs ds
  | [] => rfl
  | d :: r => by simp only [pds, PyData.depthAll, depDs, pd_depth d, pds_depth r]
end
mutual
theorem Rep.dp : ∀ {d : D} {v : V}, Rep K S d v → isData d = true → Dp K S v (pd d)
  | .non, _, h, _ => by cases h; exact .non
  | .bl _, _, h, _ => by cases h; exact .bl _
  | .int _, _, h, _ => by cases h; exact .int _
  | .str s, _, h, _ => by cases h; exact .str _
  | .tup ds, _, h, i => by
    obtain ⟨a, xs, rfl, q, t⟩ := h
    exact .tup q (Reps.dp t (by simpa [isData] using i))
  | .lst ds, _, h, i => by
    obtain ⟨a, xs, rfl, q, t⟩ := h
    exact .lst (.of q) (Reps.dp t (by simpa [isData] using i))
  | .lstK ds, _, h, i => by
    obtain ⟨a, xs, rfl, q, t⟩ := h
    exact .lst q (Reps.dp t (by simpa [isData] using i))
  | .ref _, _, _, i => by cases i
  | .ty _, _, _, i => by cases i
  | .obj _ _ _, _, _, i => by cases i
theorem Reps.dp : ∀ {ds : List D} {vs : List V}, Reps K S ds vs → areData ds = true → DpAll K S vs (pds ds)
  | [], [], _, _ => .nil
  | d :: r, v :: vs, h, i => by
    have h' := (Bool.and_eq_true_iff.mp (by simpa [areData] using i : (isData d && areData r) = true))
    exact .cons (Rep.dp h.1 h'.1) (Reps.dp h.2 h'.2)
  | [], _ :: _, h, _ => h.elim
  | _ :: _, [], h, _ => h.elim
end
end
theorem okEq.shaped {d : D} (h : okEq d) : SeqAt.shaped (pd d) = true := by
  unfold SeqAt.shaped
  rw [pd_lay h.1, pd_depth]
  simp [h.2]

@[reducible] def rdEq : RD2 := fun d e env M Q => okEq d ∧ okEq e ∧ Q (.bl (deq d e)) env M
@[reducible] def rdNe : RD2 := fun d e env M Q => okEq d ∧ okEq e ∧ Q (.bl (nb (deq d e))) env M
section
variable {X : Cx}
theorem od_eq {k : Nat} (hr : Room k X.A) : OpD X (compareOp .Eq) rdEq :=
  ⟨⟨_, op_eqD hr.units, fun F S σ H env M x y d e Qd Q R r1 r2 ⟨h1, h2, q⟩ p =>
    ⟨pd d, pd e, Dp.mono R.c.same (r1.dp h1.1), Dp.mono R.c.same (r2.dp h2.1), h1.shaped, h2.shaped, p _ H S env M (.bl _) (Same.refl _) R rfl q⟩⟩⟩
theorem od_ne {k : Nat} (hr : Room k X.A) : OpD X (compareOp .NotEq) rdNe :=
  ⟨⟨_, op_neD hr.units, fun F S σ H env M x y d e Qd Q R r1 r2 ⟨h1, h2, q⟩ p =>
    ⟨pd d, pd e, Dp.mono R.c.same (r1.dp h1.1), Dp.mono R.c.same (r2.dp h2.1), h1.shaped, h2.shaped, p _ H S env M (.bl (nb (deq d e))) (Same.refl _) R (congrArg V.bl (nb_eq _).symm) q⟩⟩⟩

/-- of two ints -/
@[reducible] def rdI (g : Int → Int → D) : RD2 := fun d e env M Q => match d, e with
  | .int i, .int j => Q (g i j) env M
  | _, _ => False
@[reducible] def rdIC (C : Int → Int → Prop) (g : Int → Int → D) : RD2 := fun d e env M Q => match d, e with
  | .int i, .int j => C i j ∧ Q (g i j) env M
  | _, _ => False
theorem od_I {f : Value → Value → Sem Value} {g : Int → Int → V} {gd : Int → Int → D} (h : OpR X f (rI0 g)) (hg : ∀ K S i j, Rep K S (gd i j) (g i j)) : OpD X f (rdI gd) := by
  refine ⟨⟨_, h, fun F S σ H env M x y d e Qd Q R r1 r2 q p => ?_⟩⟩
  cases d with
  | int i =>
    cases e with
    | int j =>
      cases r1
      cases r2
      exact ⟨i, j, rfl, rfl, p _ H S env M _ (Same.refl _) R (hg _ _ i j) q⟩
    | _ => exact q.elim
  | _ => exact q.elim
theorem od_IC {f : Value → Value → Sem Value} {C : Int → Int → Prop} {g : Int → Int → V} {gd : Int → Int → D} (h : OpR X f (rI C g)) (hg : ∀ K S i j, Rep K S (gd i j) (g i j)) : OpD X f (rdIC C gd) := by
  refine ⟨⟨_, h, fun F S σ H env M x y d e Qd Q R r1 r2 q p => ?_⟩⟩
  cases d with
  | int i =>
    cases e with
    | int j =>
      cases r1
      cases r2
      exact ⟨i, j, rfl, rfl, q.1, p _ H S env M _ (Same.refl _) R (hg _ _ i j) q.2⟩
    | _ => exact q.elim
  | _ => exact q.elim
theorem od_sub : OpD X (binaryOp .Sub) (rdI fun i j => .int (i - j)) := od_I op_sub fun _ _ _ _ => rfl
theorem od_mul : OpD X (binaryOp .Mult) (rdIC CMulW fun i j => .int (i * j)) := od_IC op_mulW fun _ _ _ _ => rfl
theorem od_fdiv : OpD X (binaryOp .FloorDiv) (rdIC CDivW fun i j => .int (i / j)) := od_IC op_fdivW fun _ _ _ _ => rfl
theorem od_mod : OpD X (binaryOp .Mod) (rdIC (fun _ j => 0 < j) fun i j => .int (i % j)) := od_IC op_mod fun _ _ _ _ => rfl
theorem od_pow : OpD X (binaryOp .Pow) (rdIC CPow fun i j => .int (i ^ j.toNat)) := od_IC op_pow fun _ _ _ _ => rfl
theorem od_lt : OpD X (compareOp .Lt) (rdI fun i j => .bl (decide (i < j))) := od_I op_lt fun _ _ _ _ => rfl
theorem od_gt : OpD X (compareOp .Gt) (rdI fun i j => .bl (decide (j < i))) := od_I op_gt fun _ _ _ _ => rfl
theorem od_ge : OpD X (compareOp .GtE) (rdI fun i j => .bl (decide (j ≤ i))) := od_I op_ge fun _ _ _ _ => rfl

/-- +: ints, texts, tuples (the left one not empty), lists -/
@[reducible] def rdAdd : RD2 := fun d e env M Q => match d, e with
  | .int i, .int j => Q (.int (i + j)) env M
  | .str s, .str t => s.length + t.length ≤ sizeLine ∧ Q (.str (s ++ t)) env M
  | .tup ds, .tup es => ds ≠ [] ∧ ds.length + es.length ≤ sizeLine ∧ Q (.tup (ds ++ es)) env M
  | .lst ds, .lst es => ds.length + es.length ≤ sizeLine ∧ Q (.lst (ds ++ es)) env M
  | _, _ => False
theorem rep_tup {K : PySem.W.Frag} {S : Hp} {p : Addr} {ds : List D} {xs : List V} (r : Reps K S ds xs) (h : S p = none) : Rep K (upd S p (.tup xs)) (.tup ds) (.ref p) :=
  ⟨p, xs, rfl, .of upd_same, r.mono fun b u e => by rw [upd_ne (fun z => by rw [z, h] at e; cases e)]; exact e⟩
theorem rep_lst {K : PySem.W.Frag} {S : Hp} {p : Addr} {ds : List D} {xs : List V} (r : Reps K S ds xs) (h : S p = none) : Rep K (upd S p (.lst xs)) (.lst ds) (.ref p) :=
  ⟨p, xs, rfl, upd_same, r.mono fun b u e => by rw [upd_ne (fun z => by rw [z, h] at e; cases e)]; exact e⟩
theorem Reps.nil_iff {K : PySem.W.Frag} {S : Hp} {ds : List D} {xs : List V} (r : Reps K S ds xs) : ds = [] ↔ xs = [] := by
  have := r.length
  cases ds with
  | nil => cases xs with
    | nil => exact ⟨fun _ => rfl, fun _ => rfl⟩
    | cons _ _ => exact r.elim
  | cons _ _ => cases xs with
    | nil => exact r.elim
    | cons _ _ => exact ⟨fun z => (by cases z), fun z => (by cases z)⟩
theorem od_add : OpD X (binaryOp .Add) rdAdd := by
  refine ⟨⟨_, (op_add (X := X)).or (op_add_str.or (op_catT.or op_cat)), fun F S σ H env M x y d e Qd Q R r1 r2 q p => ?_⟩⟩
  cases d with
  | int i =>
    cases e with
    | int j =>
      cases r1
      cases r2
      exact .inl ⟨i, j, rfl, rfl, p _ H S env M (.int (i + j)) (Same.refl _) R rfl q⟩
    | _ => exact q.elim
  | str s =>
    cases e with
    | str t =>
      cases r1
      cases r2
      exact .inr (.inl ⟨s, t, rfl, rfl, q.1, p _ H S env M (.str (s ++ t)) (Same.refl _) R rfl q.2⟩)
    | _ => exact q.elim
  | tup ds =>
    cases e with
    | tup es =>
      obtain ⟨a, xs, rfl, h1, t1⟩ := r1
      obtain ⟨b, ys, rfl, h2, t2⟩ := r2
      obtain ⟨n, l, q⟩ := q
      refine .inr (.inr (.inl ⟨a, b, xs, ys, rfl, rfl, DL.Same.tup R.c.same h1, DL.Same.tup R.c.same h2, fun z => n (t1.nil_iff.mpr z), by rw [← t1.length, ← t2.length]; exact l, fun z => ?_, fun z u hu => ?_⟩))
      · have ez := t2.nil_iff.mpr z
        subst ez
        rw [List.append_nil] at q
        exact p _ H S env M (.tup ds) (Same.refl _) R ⟨a, xs, rfl, h1, t1⟩ q
      · obtain ⟨R', ss⟩ := R.new (o := .tup (xs ++ ys)) hu
        exact p _ _ _ env M (.tup (ds ++ es)) ss R' (rep_tup (t1.append t2) (R.c.sfree hu)) q
    | _ => exact q.elim
  | lst ds =>
    cases e with
    | lst es =>
      obtain ⟨a, xs, rfl, h1, t1⟩ := r1
      obtain ⟨b, ys, rfl, h2, t2⟩ := r2
      obtain ⟨l, q⟩ := q
      refine .inr (.inr (.inr ⟨a, b, xs, ys, rfl, rfl, R.c.same _ _ h1, R.c.same _ _ h2, by rw [← t1.length, ← t2.length]; exact l, fun u hu => ?_⟩))
      obtain ⟨R', ss⟩ := R.new (o := .lst (xs ++ ys)) hu
      exact p _ _ _ env M (.lst (ds ++ es)) ss R' (rep_lst (t1.append t2) (R.c.sfree hu)) q
    | _ => exact q.elim
  | _ => cases e <;> exact q.elim
/-- is None, is not None -/
@[reducible] def isNon : D → Bool
  | .non => true
  | _ => false
@[reducible] def rdIsN : RD2 := fun d e env M Q => match e with
  | .non => Q (.bl (isNon d)) env M
  | _ => False
theorem rep_non {K : PySem.W.Frag} {S : Hp} {d : D} {v : V} (r : Rep K S d v) : decide (v = .non) = isNon d := by
  cases d with
  | non => cases r; rfl
  | bl _ => cases r; rfl
  | int _ => cases r; rfl
  | str _ => cases r; rfl
  | ref _ => cases r; rfl
  | ty _ => cases r; rfl
  | tup _ => obtain ⟨a, xs, rfl, _⟩ := r; rfl
  | lst _ => obtain ⟨a, xs, rfl, _⟩ := r; rfl
  | lstK _ => obtain ⟨a, xs, rfl, _⟩ := r; rfl
  | obj _ _ _ => obtain ⟨a, dx, xs, rfl, _⟩ := r; rfl
theorem od_isN : OpD X (compareOp .Is) rdIsN := by
  refine ⟨⟨_, op_isN, fun F S σ H env M x y d e Qd Q R r1 r2 q p => ?_⟩⟩
  cases e with
  | non =>
    cases r2
    exact ⟨rfl, p _ H S env M (.bl (isNon d)) (Same.refl _) R (congrArg V.bl (rep_non r1)) q⟩
  | _ => exact q.elim
end

/-! ### flat things, in -/
def flatD : D → Bool
  | .non => true
  | .bl _ => true
  | .int _ => true
  | .str _ => true
  | _ => false
section
variable {K : PySem.W.Frag} {S : Hp}
theorem rep_flat {d : D} {v : V} (r : Rep K S d v) (f : flatD d = true) : flatV v = true := by
  cases d with
  | non => cases r; rfl
  | bl _ => cases r; rfl
  | int _ => cases r; rfl
  | str _ => cases r; rfl
  | _ => cases f
theorem rep_eqF {d e : D} {v u : V} (r : Rep K S d v) (q : Rep K S e u) (f : flatD d = true) (g : flatD e = true) : eqV v u = eqF d e := by
  cases d <;> first | (cases f; done) | (cases e <;> first | (cases g; done) | (cases r; cases q; rfl))
theorem reps_flat : ∀ {ds : List D} {vs : List V}, Reps K S ds vs → ds.all flatD = true → vs.all flatV = true
  | [], [], _, _ => rfl
  | d :: r, v :: vs, h, f => by
    simp only [List.all_cons, Bool.and_eq_true] at f ⊢
    exact ⟨rep_flat h.1 f.1, reps_flat h.2 f.2⟩
  | [], _ :: _, h, _ => h.elim
  | _ :: _, [], h, _ => h.elim
theorem reps_inF {d : D} {v : V} (q : Rep K S d v) (g : flatD d = true) : ∀ {ds : List D} {vs : List V}, Reps K S ds vs → ds.all flatD = true → inV v vs = inF d ds
  | [], [], _, _ => rfl
  | e :: r, u :: vs, h, f => by
    simp only [List.all_cons, Bool.and_eq_true] at f
    have ih := reps_inF q g h.2 f.2
    unfold inV inF at ih ⊢
    simp only [List.any_cons, rep_eqF h.1 q f.1 g, ih]
  | [], _ :: _, h, _ => h.elim
  | _ :: _, [], h, _ => h.elim
end
@[reducible] def seqD : D → Option (List D)
  | .lst ds => some ds
  | .lstK ds => some ds
  | .tup ds => some ds
  | _ => none
@[reducible] def rdIn : RD2 := fun d e env M Q => match seqD e with
  | some ds => flatD d = true ∧ ds.all flatD = true ∧ Q (.bl (inF d ds)) env M
  | none => False
section
variable {X : Cx}
theorem rep_seq {K : PySem.W.Frag} {S H : Hp} {e : D} {ds : List D} {v : V} (ss : Same S H) (h : seqD e = some ds) (r : Rep K S e v) : ∃ p xs, v = .ref p ∧ (SqL K H p xs ∨ SqT K H p xs) ∧ Reps K S ds xs := by
  cases e with
  | lst es => cases h; obtain ⟨a, xs, e1, h1, t⟩ := r; exact ⟨a, xs, e1, .inl (.of (ss _ _ h1)), t⟩
  | lstK es => cases h; obtain ⟨a, xs, e1, h1, t⟩ := r; exact ⟨a, xs, e1, .inl (L2.Same.seq ss h1), t⟩
  | tup es => cases h; obtain ⟨a, xs, e1, h1, t⟩ := r; exact ⟨a, xs, e1, .inr (DL.Same.tup ss h1), t⟩
  | _ => cases h
theorem od_in : OpD X (compareOp .In) rdIn := by
  refine ⟨⟨_, op_in_seq, fun F S σ H env M x y d e Qd Q R r1 r2 q p => ?_⟩⟩
  unfold rdIn at q
  cases he : seqD e with
  | none => rw [he] at q; exact q.elim
  | some ds =>
    rw [he] at q
    obtain ⟨f, g, q⟩ := q
    obtain ⟨a, xs, rfl, h, t⟩ := rep_seq R.c.same he r2
    refine ⟨a, xs, rfl, h, rep_flat r1 f, reps_flat t g, ?_⟩
    have e1 := reps_inF r1 f t g
    show Q (.bl (inV x xs)) H
    rw [e1]
    exact p _ H S env M (.bl _) (Same.refl _) R rfl q
end

/-! ### truth, and, or, not, a if t else b -/
@[reducible] def truD : D → Option Bool
  | .non => some false
  | .bl b => some b
  | .int i => some (i != 0)
  | .tup ds => some (!ds.isEmpty)
  | .lst ds => some (!ds.isEmpty)
  | _ => none
@[reducible] def dTru (t : DT) : DTT := fun env M Q => t env M fun d env' M' => match truD d with
  | some b => Q b env' M'
  | none => False
section
variable {X : Cx} {a b c : Expr} {ta tb : DT} {tA tB : DTT} {rest : List Expr} {pos : Pos}
theorem d_truth (ha : DE X a ta) (he : ∀ whole, isTrue a X.env whole = (do let v ← whole; standAt a.pos; holding [v] (truthy v)) := by intro _; rfl) : DTst X a (dTru ta) := by
  refine pt_imp (pt_truth ha he) fun σ H Q ⟨F, S, env, M, Qd, R, t, p⟩ => ⟨F, S, env, M, _, R, t, fun v H' S' env' M' d s' R' r q => ?_⟩
  cases d with
  | non => cases r; exact ⟨false, rfl, p _ _ S' env' M' s' R' q⟩
  | bl k => cases r; exact ⟨k, rfl, p _ _ S' env' M' s' R' q⟩
  | int i => cases r; exact ⟨_, rfl, p _ _ S' env' M' s' R' q⟩
  | tup ds =>
    obtain ⟨l, xs, rfl, h, t⟩ := r
    refine ⟨_, .inr (.inl ⟨xs, DL.Same.tup R'.c.same h, rfl⟩), ?_⟩
    rw [← t.empty]
    exact p _ _ S' env' M' s' R' q
  | lst ds =>
    obtain ⟨l, xs, rfl, h, t⟩ := r
    refine ⟨_, .inl ⟨xs, .of (R'.c.same _ _ h), rfl⟩, ?_⟩
    rw [← t.empty]
    exact p _ _ S' env' M' s' R' q
  | _ => exact q.elim
@[reducible] def dAnd (t u : DTT) : DTT := fun env M Q => t env M fun c env1 M1 => match c with
  | true => u env1 M1 Q
  | false => Q false env1 M1
@[reducible] def dOr (t u : DTT) : DTT := fun env M Q => t env M fun c env1 M1 => match c with
  | true => Q true env1 M1
  | false => u env1 M1 Q
@[reducible] def dNot (t : DTT) : DTT := fun env M Q => t env M fun c env1 M1 => Q (nb c) env1 M1
theorem w_and1 (ha : DTst X a tA) : DW X (.BoolOp .And [a] pos) tA := pw_and1 ha
theorem w_or1 (ha : DTst X a tA) : DW X (.BoolOp .Or [a] pos) tA := pw_or1 ha
theorem w_and (ha : DTst X a tA) (hb : DW X (.BoolOp .And (b :: rest) pos) tB) : DW X (.BoolOp .And (a :: b :: rest) pos) (dAnd tA tB) :=
  pw_imp (pw_and ha hb) fun σ H Q ⟨F, S, env, M, Qd, R, t, p⟩ => ⟨F, S, env, M, _, R, t, fun k H' S' env' M' s' R' q => by
    cases k with
    | true => exact ⟨F, S', env', M', Qd, R', q, fun k2 H2 S2 env2 M2 s2 R2 q2 => p k2 H2 S2 env2 M2 (s'.trans s2) R2 q2⟩
    | false => exact p false H' S' env' M' s' R' q⟩
theorem w_or (ha : DTst X a tA) (hb : DW X (.BoolOp .Or (b :: rest) pos) tB) : DW X (.BoolOp .Or (a :: b :: rest) pos) (dOr tA tB) :=
  pw_imp (pw_or ha hb) fun σ H Q ⟨F, S, env, M, Qd, R, t, p⟩ => ⟨F, S, env, M, _, R, t, fun k H' S' env' M' s' R' q => by
    cases k with
    | false => exact ⟨F, S', env', M', Qd, R', q, fun k2 H2 S2 env2 M2 s2 R2 q2 => p k2 H2 S2 env2 M2 (s'.trans s2) R2 q2⟩
    | true => exact p true H' S' env' M' s' R' q⟩
theorem d_wt (h : DW X a tA) : DTst X a tA := h.pt
theorem d_not (ha : DTst X a tA) : DTst X (.UnaryOp .Not a pos) (dNot tA) :=
  pt_imp (pt_not ha) fun σ H Q ⟨F, S, env, M, Qd, R, t, p⟩ => ⟨F, S, env, M, _, R, t, fun k H' S' env' M' s' R' q => by show Q (!k) H'; rw [← nb_eq]; exact p (nb k) H' S' env' M' s' R' q⟩
@[reducible] def dIf (t : DTT) (ta tb : DT) : DT := fun env M Q => t env M fun c env1 M1 => match c with
  | true => ta env1 M1 Q
  | false => tb env1 M1 Q
theorem d_ifExp (hc : DTst X c tA) (ha : DE X a ta) (hb : DE X b tb) : DE X (.IfExp c a b pos) (dIf tA ta tb) :=
  pe_imp (pe_ifExp hc ha hb) fun σ H Q ⟨F, S, env, M, Qd, R, t, p⟩ => ⟨F, S, env, M, _, R, t, fun k H' S' env' M' s' R' q => by
    cases k with
    | true => exact ⟨F, S', env', M', Qd, R', q, p.up s'⟩
    | false => exact ⟨F, S', env', M', Qd, R', q, p.up s'⟩⟩
/-- as values: bools -/
@[reducible] def dAndV (ta tb : DT) : DT := fun env M Q => ta env M fun d env1 M1 => match d with
  | .bl true => tb env1 M1 Q
  | .bl false => Q (.bl false) env1 M1
  | _ => False
theorem d_one {op} (h : DE X a ta) : DE X (.BoolOp op [a] pos) ta := pe_one h
theorem d_and (ha : DE X a ta) (hb : DE X (.BoolOp .And (b :: rest) pos) tb) : DE X (.BoolOp .And (a :: b :: rest) pos) (dAndV ta tb) :=
  pe_imp (pe_and ha hb) fun σ H Q ⟨F, S, env, M, Qd, R, t, p⟩ => ⟨F, S, env, M, _, R, t, fun v H' S' env' M' d s' R' r q => by
    cases d with
    | bl k =>
      refine ⟨k, r, ?_⟩
      cases k with
      | true => exact ⟨F, S', env', M', Qd, R', q, p.up s'⟩
      | false => exact p _ H' S' env' M' (.bl false) s' R' rfl q
    | _ => exact q.elim⟩
end

/-! ### argument lists, displays -/
@[reducible] def dNil : DTA := fun env M Q => Q [] env M
@[reducible] def dCons (ta : DT) (tr : DTA) : DTA := fun env M Q => ta env M fun d env1 M1 => tr env1 M1 fun ds env2 M2 => Q (d :: ds) env2 M2
section
variable {X : Cx} {e : Expr} {es : List Expr} {te : DT} {t : DTA} {pos : Pos}
theorem a_nil : DA X [] dNil := pa_imp pa_nil fun σ H Q ⟨F, S, env, M, Qd, R, t, p⟩ => p [] H S env M [] (Same.refl _) R trivial t
theorem lift_cons {te : DT} {t : DTA} {σ : L2.St} {H : Hp} {Q : List V → Hp → Prop} {K : PySem.W.Frag} (h : LA K (dCons te t) σ H Q) : tCons (LE K te) (LA K t) σ H Q := by
  obtain ⟨F, S, env, M, Qd, R, h, p⟩ := h
  exact ⟨F, S, env, M, _, R, h, fun v H' S' env' M' d s' R' r q => ⟨F, S', env', M', _, R', q, fun vs H2 S2 env2 M2 ds s2 R2 r2 q2 => p (v :: vs) H2 S2 env2 M2 (d :: ds) (s'.trans s2) R2 ⟨r.mono s2, r2⟩ q2⟩⟩
theorem a_cons (ha : DE X e te) (hr : DA X es t) (hs : starEach (e :: es) X.env = (false, eval e X.env) :: starEach es X.env := by rfl) : DA X (e :: es) (dCons te t) :=
  pa_imp (pa_cons ha hr hs) fun σ H Q h => lift_cons h
@[reducible] def dTup (t : DTA) : DT := fun env M Q => t env M fun ds env1 M1 => ds.length ≤ sizeLine ∧ Q (.tup ds) env1 M1
@[reducible] def dLst (t : DTA) : DT := fun env M Q => t env M fun ds env1 M1 => ds.length ≤ sizeLine ∧ Q (.lst ds) env1 M1
theorem d_tup {x1} (h : DA X es t) : DE X (.Tuple es x1 pos) (dTup t) :=
  pe_imp (pe_tup h) fun σ H Q ⟨F, S, env, M, Qd, R, t, p⟩ => ⟨F, S, env, M, _, R, t, fun vs H' S' env' M' ds s' R' r q => ⟨by rw [← r.length]; exact q.1, fun u hu => by
    obtain ⟨R2, s2⟩ := R'.new (o := .tup vs) hu
    exact p _ _ _ env' M' (.tup ds) (s'.trans s2) R2 (rep_tup r (R'.c.sfree hu)) q.2⟩⟩
theorem d_lst (h : DA X es t) : DE X (.List es pos) (dLst t) :=
  pe_imp (pe_lst h) fun σ H Q ⟨F, S, env, M, Qd, R, t, p⟩ => ⟨F, S, env, M, _, R, t, fun vs H' S' env' M' ds s' R' r q => ⟨by rw [← r.length]; exact q.1, fun u hu => by
    obtain ⟨R2, s2⟩ := R'.new (o := .lst vs) hu
    exact p _ _ _ env' M' (.lst ds) (s'.trans s2) R2 (rep_lst r (R'.c.sfree hu)) q.2⟩⟩
end

/-! ### subscripts -/
/-- xs[i], t[i], s[i] -/
@[reducible] def rdIx : RD2 := fun d e env M Q => match e with
  | .int i => (match d with
    | .str z => z.length ≤ sizeLine ∧ (match atI z.cps.toList i with
      | some c => Q (.str ⟨#[c]⟩) env M
      | none => False)
    | _ => (match seqD d with
      | some ds => (match atI ds i with
        | some r => Q r env M
        | none => False)
      | none => False))
  | _ => False
theorem reps_atI {K : PySem.W.Frag} {S : Hp} {ds : List D} {vs : List V} {i : Int} {r : D} (h : Reps K S ds vs) (e : atI ds i = some r) : ∃ v, atI vs i = some v ∧ Rep K S r v := by
  unfold atI at e ⊢
  rw [← h.length]
  cases q : ixN ds.length i with
  | none => rw [q] at e; cases e
  | some j =>
    rw [q] at e
    obtain ⟨v, e1, r1⟩ := h.get (show ds[j]? = some r from e)
    exact ⟨v, e1, r1⟩
section
variable {X : Cx} {a b : Expr} {ta tb : DT} {pos : Pos}
theorem d_ix (ha : DE X a ta) (hb : DE X b tb) (hs : PlainIx b := by exact fun _ _ => rfl) : DE X (.Subscript a b pos) (dBin rdIx ta tb) := by
  refine pe_imp (pe_ix ix_seq ha hb hs) fun σ H Q q => lift2 (r := rIx X.K) (fun F S σ H env M x y d e Qd Q R r1 r2 q p => ?_) q
  unfold rdIx at q
  cases e with
  | int i =>
    cases r2
    have seq : ∀ ds, seqD d = some ds → (match atI ds i with | some r => Qd r env M | none => False) → rIx X.K x (.int i) H Q := fun ds hd q => by
      obtain ⟨p1, xs, rfl, h, t⟩ := rep_seq R.c.same hd r1
      cases he : atI ds i with
      | none => rw [he] at q; exact q.elim
      | some r =>
        rw [he] at q
        obtain ⟨v, e1, r'⟩ := reps_atI t he
        have fin := p v H S env M r (Same.refl _) R r' q
        rcases h with h | h
        · exact .inl ⟨p1, xs, i, v, rfl, rfl, h, e1, fin⟩
        · exact .inr (.inl ⟨p1, xs, i, v, rfl, rfl, h, e1, fin⟩)
    cases d with
    | str z =>
      cases r1
      obtain ⟨hz, q⟩ := q
      cases he : atI z.cps.toList i with
      | none => rw [he] at q; exact q.elim
      | some c =>
        rw [he] at q
        exact .inr (.inr ⟨z, i, c, rfl, rfl, hz, he, p _ H S env M (.str ⟨#[c]⟩) (Same.refl _) R rfl q⟩)
    | tup ds => exact seq ds rfl q
    | lst ds => exact seq ds rfl q
    | lstK ds => exact seq ds rfl q
    | _ => exact q.elim
  | _ => exact q.elim
end

/-! ### slices -/
abbrev DTO := Ev → Mem → (Option Int → Ev → Mem → Prop) → Prop
def LO (K : PySem.W.Frag) (t : DTO) : TO := fun σ H Q => ∃ F S env M Qd, Rel K F S σ H env M ∧ t env M Qd ∧ ∀ o H' S' env' M', Same S S' → Rel K F S' σ H' env' M' → Qd o env' M' → Q o H'
abbrev DO (X : Cx) (e : Option Expr) (t : DTO) : Prop := PO X e (LO X.K t)
theorem po_imp {X : Cx} {e : Option Expr} {t t' : TO} (h : PO X e t) (i : ∀ σ H Q, t' σ H Q → t σ H Q) : PO X e t' := ⟨fun pins s σ H Q I q => h.run pins s σ H Q I (i σ H Q q)⟩
@[reducible] def dNoPart : DTO := fun env M Q => Q none env M
@[reducible] def dPart (t : DT) : DTO := fun env M Q => t env M fun d env' M' => match d with
  | .int i => Q (some i) env' M'
  | _ => False
/-- s[i:j], xs[i:j], t[i:j] (not the whole of t) -/
@[reducible] def rdSl (d : D) (lo hi : Option Int) : DT := fun env M Q => match d with
  | .str z => z.length ≤ sizeLine ∧ Q (.str (cutS z lo hi)) env M
  | .tup ds => ¬ (HT.sIx ds.length 0 lo = 0 ∧ HT.sIx ds.length ds.length hi = ds.length) ∧ Q (.tup ((ds.drop (HT.sIx ds.length 0 lo)).take (HT.sIx ds.length ds.length hi - HT.sIx ds.length 0 lo))) env M
  | .lst ds => Q (.lst ((ds.drop (HT.sIx ds.length 0 lo)).take (HT.sIx ds.length ds.length hi - HT.sIx ds.length 0 lo))) env M
  | .lstK ds => Q (.lst ((ds.drop (HT.sIx ds.length 0 lo)).take (HT.sIx ds.length ds.length hi - HT.sIx ds.length 0 lo))) env M
  | _ => False
@[reducible] def dSl (te : DT) (tl th : DTO) : DT := fun env M Q => te env M fun d env1 M1 => tl env1 M1 fun lo env2 M2 => th env2 M2 fun hi env3 M3 => rdSl d lo hi env3 M3 Q
section
variable {X : Cx} {e : Expr} {te : DT} {lo hi : Option Expr} {tl th : DTO} {pos p2 : Pos}
theorem o_none : DO X none dNoPart := po_imp po_none fun σ H Q ⟨F, S, env, M, Qd, R, t, p⟩ => p none H S env M (Same.refl _) R t
theorem o_some (h : DE X e te) : DO X (some e) (dPart te) := po_imp (po_some h) fun σ H Q ⟨F, S, env, M, Qd, R, t, p⟩ => ⟨F, S, env, M, _, R, t, fun v H' S' env' M' d s' R' r q => by
  cases d with
  | int i => exact ⟨i, r, p _ H' S' env' M' s' R' q⟩
  | _ => exact q.elim⟩
theorem d_slice (he : DE X e te) (hl : DO X lo tl) (hu : DO X hi th) : DE X (.Subscript e (.Slice lo hi none p2) pos) (dSl te tl th) := by
  refine pe_imp (pe_slice ((sl_list (X := X)).or (sl_tup.or sl_str)) he hl hu) fun σ H Q ⟨F, S, env, M, Qd, R, t, p⟩ => ⟨F, S, env, M, _, R, t, fun v H1 S1 env1 M1 d s1 R1 r1 q1 =>
    ⟨F, S1, env1, M1, _, R1, q1, fun l H2 S2 env2 M2 s2 R2 q2 => ⟨F, S2, env2, M2, _, R2, q2, fun u H3 S3 env3 M3 s3 R3 q3 => ?_⟩⟩⟩
  have r3 := r1.mono (s2.trans s3)
  have p3 := p.up (s1.trans (s2.trans s3))
  cases d with
  | str z => cases r3; exact .inr (.inr ⟨z, rfl, q3.1, p3 _ H3 S3 env3 M3 (.str _) (Same.refl _) R3 rfl q3.2⟩)
  | tup ds =>
    obtain ⟨a, xs, rfl, h, t⟩ := r3
    have el := t.length
    refine .inr (.inl ⟨a, xs, rfl, DL.Same.tup R3.c.same h, by rw [← el]; exact q3.1, fun w hw => ?_⟩)
    obtain ⟨R4, s4⟩ := R3.new (o := .tup (cutV xs l u)) hw
    refine p3 _ _ _ env3 M3 (.tup _) s4 R4 (rep_tup ?_ (R3.c.sfree hw)) q3.2
    unfold cutV
    rw [el]
    exact (t.drop _).take _
  | lst ds =>
    obtain ⟨a, xs, rfl, h, t⟩ := r3
    have el := t.length
    refine .inl ⟨a, xs, rfl, .of (R3.c.same _ _ h), fun w hw => ?_⟩
    obtain ⟨R4, s4⟩ := R3.new (o := .lst (cutV xs l u)) hw
    refine p3 _ _ _ env3 M3 (.lst _) s4 R4 (rep_lst ?_ (R3.c.sfree hw)) q3
    unfold cutV
    rw [el]
    exact (t.drop _).take _
  | lstK ds =>
    obtain ⟨a, xs, rfl, h, t⟩ := r3
    have el := t.length
    refine .inl ⟨a, xs, rfl, L2.Same.seq R3.c.same h, fun w hw => ?_⟩
    obtain ⟨R4, s4⟩ := R3.new (o := .lst (cutV xs l u)) hw
    refine p3 _ _ _ env3 M3 (.lst _) s4 R4 (rep_lst ?_ (R3.c.sfree hw)) q3
    unfold cutV
    rw [el]
    exact (t.drop _).take _
  | _ => exact q3.elim
end

/-! ### built-in functions by their names -/
@[reducible] def dCB (rd : RDA) (t : DTA) : DT := fun env M Q => t env M fun ds env1 M1 => rd ds env1 M1 Q
section
variable {X : Cx} {x : Str} {p pos : Pos} {e : Expr} {es : List Expr} {t : DTA} {id T : String} {rd : RDA}
theorem lift_cb {r : List V → Hp → VK → Prop} (h2 : ∀ F S σ H env M xs ds Qd Q, Rel X.K F S σ H env M → Reps X.K S ds xs → rd ds env M Qd → PostE X.K F S σ Qd Q → r xs H Q) {σ : L2.St} {H : Hp} {Q : VK} (q : LE X.K (dCB rd t) σ H Q) : tCB r (LA X.K t) σ H Q := by
  obtain ⟨F, S, env, M, Qd, R, t, p⟩ := q
  exact ⟨F, S, env, M, _, R, t, fun vs H' S' env' M' ds s' R' r q => h2 F S' σ H' env' M' vs ds Qd Q R' r q (p.up s')⟩
theorem d_callB (hc : CallD X (.builtin id) rd) (hg : Gl X x) (hm : X.mg x = none) (hv : bootBuiltins x = some (.builtin id)) (ha : DA X (e :: es) t) (hn : x ≠ "__name__" := by decide) (hdb : (x == ("__debug__" : Str)) = false := by decide)
    (he : starEach (e :: es) X.env = (false, eval e X.env) :: starEach es X.env := by rfl) (hpl : (backTo pos (starEach es X.env)).any (·.1) = false := by rfl) : DE X (.Call (.Name x p) (e :: es) [] pos) (dCB rd t) := by
  obtain ⟨r, h1, h2⟩ := hc.ex
  exact pe_imp (pe_callB h1 hg hm hv ha hn hdb he hpl) fun σ H Q q => lift_cb h2 q
theorem d_callTy (hc : CallD X (.type T) rd) (hg : Gl X x) (hm : X.mg x = none) (hv : bootBuiltins x = some (.type T)) (ha : DA X (e :: es) t) (hn : x ≠ "__name__" := by decide) (hdb : (x == ("__debug__" : Str)) = false := by decide)
    (he : starEach (e :: es) X.env = (false, eval e X.env) :: starEach es X.env := by rfl) (hpl : (backTo pos (starEach es X.env)).any (·.1) = false := by rfl) : DE X (.Call (.Name x p) (e :: es) [] pos) (dCB rd t) := by
  obtain ⟨r, h1, h2⟩ := hc.ex
  exact pe_imp (pe_callTy h1 hg hm hv ha hn hdb he hpl) fun σ H Q q => lift_cb h2 q
/-- len -/
@[reducible] def rdLen : RDA := fun ds env M Q => match ds with
  | [.str z] => z.length ≤ sizeLine ∧ Q (.int z.length) env M
  | [d] => (match seqD d with
    | some es => Q (.int es.length) env M
    | none => False)
  | _ => False
theorem cd_len : CallD X (.builtin "len") rdLen := by
  refine ⟨⟨_, (call_len_seq (X := X)).or call_len_str, fun F S σ H env M xs ds Qd Q R r q p => ?_⟩⟩
  cases ds with
  | nil => exact q.elim
  | cons d rs =>
    cases rs with
    | cons _ _ => cases d <;> exact q.elim
    | nil =>
      obtain ⟨v, rfl, r1⟩ := r.one
      have seq : ∀ es, seqD d = some es → Qd (.int es.length) env M → (∃ p ys, [v] = [V.ref p] ∧ (SqL X.K H p ys ∨ SqT X.K H p ys) ∧ Q (.int ys.length) H) := fun es hd q => by
        obtain ⟨p1, ys, rfl, h, t⟩ := rep_seq R.c.same hd r1
        refine ⟨p1, ys, rfl, h, ?_⟩
        rw [← t.length]
        exact p _ H S env M (.int _) (Same.refl _) R rfl q
      cases d with
      | str z => cases r1; exact .inr ⟨z, rfl, q.1, p _ H S env M (.int _) (Same.refl _) R rfl q.2⟩
      | tup es => exact .inl (seq es rfl q)
      | lst es => exact .inl (seq es rfl q)
      | lstK es => exact .inl (seq es rfl q)
      | _ => exact q.elim
/-- int(n), int(flag) -/
@[reducible] def rdInt : RDA := fun ds env M Q => match ds with
  | [.int i] => Q (.int i) env M
  | [.bl k] => Q (.int (if k then 1 else 0)) env M
  | _ => False
theorem cd_int : CallD X (.type "int") rdInt := by
  refine ⟨⟨_, call_int1 (X := X), fun F S σ H env M xs ds Qd Q R r q p => ?_⟩⟩
  cases ds with
  | nil => exact q.elim
  | cons d rs =>
    cases rs with
    | cons _ _ => cases d <;> exact q.elim
    | nil =>
      obtain ⟨v, rfl, r1⟩ := r.one
      cases d with
      | int i => cases r1; exact .inl ⟨i, rfl, p _ H S env M (.int i) (Same.refl _) R rfl q⟩
      | bl k => cases r1; exact .inr ⟨k, rfl, p _ H S env M (.int (if k then 1 else 0)) (Same.refl _) R rfl q⟩
      | _ => exact q.elim
/-- min(i, j), max(i, j) -/
@[reducible] def rdII (g : Int → Int → D) : RDA := fun ds env M Q => match ds with
  | [.int i, .int j] => Q (g i j) env M
  | _ => False
theorem cd_II {f : Value} {g : Int → Int → Int} (h : CallR X f (fun xs H Q => ∃ i j, xs = [.int i, .int j] ∧ Q (.int (g i j)) H)) : CallD X f (rdII fun i j => .int (g i j)) := by
  refine ⟨⟨_, h, fun F S σ H env M xs ds Qd Q R r q p => ?_⟩⟩
  cases ds with
  | nil => exact q.elim
  | cons d rs =>
    cases d with
    | int i =>
      cases rs with
      | nil => exact q.elim
      | cons e rs2 =>
        cases e with
        | int j =>
          cases rs2 with
          | cons _ _ => exact q.elim
          | nil =>
            obtain ⟨v, u, rfl, r1, r2⟩ := r.two
            cases r1
            cases r2
            exact ⟨i, j, rfl, p _ H S env M (.int (g i j)) (Same.refl _) R rfl q⟩
        | _ => exact q.elim
    | _ => exact q.elim
theorem cd_min (hc : X.calm = true) : CallD X (.builtin "min") (rdII fun i j => .int (if j < i then j else i)) := cd_II (call_min2 hc)
theorem cd_max (hc : X.calm = true) : CallD X (.builtin "max") (rdII fun i j => .int (if j > i then j else i)) := cd_II (call_max2 hc)
end
end DL
set_option Elab.async false
set_option linter.all false
set_option maxRecDepth 100000
set_option maxHeartbeats 1000000
/-! DL3: fields, calls, statements, loops, comprehensions, a def's promise. -/
namespace DL
open PySem PySem.Spec PyProof.Rows L2
variable [Gh]

/-! ### fields -/
theorem reps_fget {K : PySem.W.Frag} {S : Hp} {f : Str} {d : D} : ∀ {ns : List Str} {ds : List D} {xs : List V}, Reps K S ds xs → fget f ns ds = some d → ∃ v, (ns.zip xs).lookup f = some v ∧ Rep K S d v
  | [], _, _, _, e => by cases e
  | _ :: _, [], [], _, e => by cases e
  | n :: ns, d' :: ds, x :: xs, h, e => by
    unfold fget at e
    rw [List.zip_cons_cons, List.lookup_cons] at e ⊢
    cases hb : f == n with
    | true =>
      rw [hb] at e
      cases e
      exact ⟨x, rfl, h.1⟩
    | false =>
      rw [hb] at e
      exact reps_fget h.2 e
  | _ :: _, [], _ :: _, h, _ => h.elim
  | _ :: _, _ :: _, [], h, _ => h.elim
theorem reps_fget_none {K : PySem.W.Frag} {S : Hp} {f : Str} : ∀ {ns : List Str} {ds : List D} {xs : List V}, Reps K S ds xs → fget f ns ds = none → (ns.zip xs).lookup f = none
  | [], _, _, _, e => by rfl
  | _ :: _, [], [], _, e => by rfl
  | n :: ns, d' :: ds, x :: xs, h, e => by
    unfold fget at e
    rw [List.zip_cons_cons, List.lookup_cons] at e ⊢
    cases hb : f == n with
    | true =>
      rw [hb] at e
      cases e
    | false =>
      rw [hb] at e
      exact reps_fget_none h.2 e
  | _ :: _, [], _ :: _, h, _ => h.elim
  | _ :: _, _ :: _, [], h, _ => h.elim
theorem putF_zip {f : Str} {v : V} : ∀ {ns : List Str} {xs : List V}, xs.length = ns.length → putF f v (ns.zip xs) = (fputN f ns).zip (fputD f v ns xs) ∧ (fputD f v ns xs).length = (fputN f ns).length
  | [], [], _ => ⟨rfl, rfl⟩
  | n :: ns, x :: xs, h => by
    have ih := putF_zip (f := f) (v := v) (ns := ns) (xs := xs) (Nat.succ.inj h)
    unfold fputN fputD
    rw [List.zip_cons_cons]
    unfold putF
    by_cases e : n = f
    · rw [if_pos e, if_pos e, if_pos e]
      exact ⟨by rw [List.zip_cons_cons], h⟩
    · rw [if_neg e, if_neg e, if_neg e]
      exact ⟨by rw [List.zip_cons_cons, ih.1], congrArg Nat.succ ih.2⟩
  | [], _ :: _, h => by cases h
  | _ :: _, [], h => by cases h
theorem reps_fput {K : PySem.W.Frag} {S : Hp} {f : Str} {d : D} {v : V} (r : Rep K S d v) : ∀ {ns : List Str} {ds : List D} {xs : List V}, Reps K S ds xs → Reps K S (fputD f d ns ds) (fputD f v ns xs)
  | [], [], [], _ => ⟨r, trivial⟩
  | [], _ :: _, _ :: _, _ => ⟨r, trivial⟩
  | _ :: _, [], [], _ => ⟨r, trivial⟩
  | n :: ns, d' :: ds, x :: xs, h => by
    unfold fputD
    by_cases e : n = f
    · rw [if_pos e, if_pos e]
      exact ⟨r, h.2⟩
    · rw [if_neg e, if_neg e]
      exact ⟨h.1, reps_fput r h.2⟩
  | _, [], _ :: _, h => h.elim
  | _, _ :: _, [], h => h.elim
def FldOk (K : PySem.W.Frag) (C : Addr) (f : Str) : Prop := Cls K C ∧ NoAttr K C f
theorem insD_at {K : PySem.W.Frag} {F S H : Hp} {M : Mem} {d : D} {v : V} {C : Addr} {ns : List Str} {ds : List D} (R : RelC K F S H M) (h : insD d M = some (C, ns, ds)) (r : Rep K S d v) :
    ∃ a dx xs, v = .ref a ∧ H a = some (.ins C dx (ns.zip xs)) ∧ xs.length = ns.length ∧ Reps K S ds xs := by
  cases d with
  | obj C' ns' ds' =>
    cases h
    obtain ⟨a, dx, xs, rfl, e, l, t⟩ := r
    exact ⟨a, dx, xs, rfl, R.same _ _ e, l, t⟩
  | ref a =>
    unfold insD at h
    cases e : M a with
    | none => simp only [e] at h; cases h
    | some o =>
      cases o with
      | ins C' ns' ds' =>
        simp only [e] at h
        cases h
        obtain ⟨dx, xs, e1, l, t⟩ := (R.mem a _ e).2
        exact ⟨a, dx, xs, r, e1, l, t⟩
      | _ => simp only [e] at h; cases h
  | _ => cases h
@[reducible] def dFld (K : PySem.W.Frag) (t : DT) (f : Str) : DT := fun env M Q => t env M fun d env1 M1 => match insD d M1 with
  | some (C, ns, ds) => FldOk K C f ∧ (match fget f ns ds with
    | some r => Q r env1 M1
    | none => False)
  | none => False
section
variable {X : Cx} {e : Expr} {f : Str} {pos : Pos} {te : DT}
theorem d_fld (he : DE X e te) (hb : attributeBase e f X.env (eval e X.env) = eval e X.env := by rfl) : DE X (.Attribute e f pos) (dFld X.K te f) := by
  refine pe_imp (pe_fld he hb) fun σ H Q ⟨F, S, env, M, Qd, R, t, p⟩ => ⟨F, S, env, M, _, R, t, fun v H' S' env' M' d s' R' r q => ?_⟩
  cases hi : insD d M' with
  | none => simp only [hi] at q
  | some z =>
    obtain ⟨C, ns, ds⟩ := z
    simp only [hi] at q
    obtain ⟨c, q⟩ := q
    cases hf : fget f ns ds with
    | none => simp only [hf] at q
    | some y =>
      simp only [hf] at q
      obtain ⟨a, dx, xs, rfl, e1, l, t⟩ := insD_at R'.c hi r
      obtain ⟨u, e2, r2⟩ := reps_fget t hf
      exact ⟨a, C, dx, _, u, rfl, e1, c.1, c.2, e2, p u H' S' env' M' y s' R' r2 q⟩
end

/-! ### promises -/
abbrev KX0 : KX := fun _ _ _ _ => False
open Classical in
/-- the frame of a callee: one's own callers' things, and one's own lists -/
noncomputable def frOwn (F : Hp) (env : Ev) (σ : L2.St) (H : Hp) : Hp := fun a => if ∃ i ds, look env i = .own ds ∧ σ[i]? = some (some (.ref a)) then H a else F a
section
variable {K : PySem.W.Frag} {F S H : Hp} {M : Mem} {σ : L2.St} {env : Ev}
theorem frOwn_own {i : Nat} {ds : List D} {a : Addr} (h : look env i = .own ds) (e : σ[i]? = some (some (.ref a))) : frOwn F env σ H a = H a := by
  unfold frOwn
  rw [if_pos ⟨i, ds, h, e⟩]
theorem frOwn_cases (a : Addr) : (frOwn F env σ H a = F a ∧ ¬ ∃ i ds, look env i = .own ds ∧ σ[i]? = some (some (.ref a))) ∨ (∃ i ds, look env i = .own ds ∧ σ[i]? = some (some (.ref a))) := by
  by_cases h : ∃ i ds, look env i = .own ds ∧ σ[i]? = some (some (.ref a))
  · exact .inr h
  · refine .inl ⟨?_, h⟩
    unfold frOwn
    rw [if_neg h]
theorem Rel.toC (R : Rel K F S σ H env M) : RelC K (frOwn F env σ H) S H M := by
  refine ⟨R.c.same, fun a o e => ?_, R.c.mem⟩
  rcases frOwn_cases (F := F) (env := env) (σ := σ) (H := H) a with ⟨h, _⟩ | ⟨i, ds, h1, h2⟩
  · rw [h] at e
    exact R.c.fr a o e
  · obtain ⟨b, xs, e1, e2, e3, e4, _⟩ := R.own i ds h1
    rw [h2] at e1
    cases e1
    rw [frOwn_own h1 h2] at e
    exact ⟨e, e3, e4⟩
theorem Rel.back {S' H' : Hp} {M' : Mem} (R : Rel K F S σ H env M) (c : RelC K (frOwn F env σ H) S' H' M') (ss : Same S S') : Rel K F S' σ H' env M' := by
  have cc : RelC K F S' H' M' := by
    refine ⟨c.same, fun a o e => ?_, c.mem⟩
    refine c.fr a o ?_
    rcases frOwn_cases (F := F) (env := env) (σ := σ) (H := H) a with ⟨h, _⟩ | ⟨i, ds, h1, h2⟩
    · rw [h]; exact e
    · obtain ⟨b, xs, e1, _, _, _, e5, _⟩ := R.own i ds h1
      rw [h2] at e1
      cases e1
      rw [e5] at e
      cases e
  refine R.grow cc ss fun i a e hi => ?_
  obtain ⟨ds, hi⟩ := hi
  obtain ⟨b, xs, e1, e2, _⟩ := R.own i ds hi
  rw [e] at e1
  cases e1
  have q : frOwn F env σ H a = some (.lst xs) := by rw [frOwn_own hi e]; exact e2
  obtain ⟨h1, h2, h3⟩ := c.fr a _ q
  exact ⟨h1.trans e2.symm, h2, h3⟩
end

/-! ### calls -/
@[reducible] def dCall (sp : DSp) (dds : List D) (t : DTA) : DT := fun env M Q => t env M fun ds env1 M1 => sp (ds ++ dds) M1 (fun d M2 => Q d env1 M2) KX0
theorem sp_of {K : PySem.W.Frag} {F S H : Hp} {M : Mem} {σ : L2.St} {env : Ev} {sp : DSp} {ds : List D} {vs : List V} {Qd : KD} {Q : VK} {E : XK} (R : Rel K F S σ H env M) (r : Reps K S ds vs) (q : sp ds M (fun d M2 => Qd d env M2) KX0) (p : PostE K F S σ Qd Q) :
    LSp K sp vs H Q E := ⟨frOwn F env σ H, S, ds, M, _, _, R.toC, r, q, fun v H' S' M' d s' c r' q' => p v H' S' env M' d s' (R.back c s') r' q', fun _ _ _ _ _ _ _ _ _ _ z => z.elim⟩
section
variable {X : Cx} {CX : CXT} {k : Nat} {f C : Addr} {fd : FuncData} {ps : List Str} {sp : DSp} {dvs : List V} {dds : List D} {dl : List Value} {E : XK} {x m : Str} {p pos apos : Pos} {e o : Expr} {es : List Expr} {ta : DT} {t : DTA}
theorem lift_call (hdd : ∀ S, Reps X.K S dds dvs) {σ : L2.St} {H : Hp} {Q : VK} (q : LE X.K (dCall sp dds t) σ H Q) : tCall (LSp X.K sp) dvs E (LA X.K t) σ H Q := by
  obtain ⟨F, S, env, M, Qd, R, t, p⟩ := q
  exact ⟨F, S, env, M, _, R, t, fun vs H' S' env' M' ds s' R' r q => sp_of R' (r.append (hdd S')) q (p.up s')⟩
theorem d_call (G : FnOk X.prog X.w X.K X.mg X.base CX k f fd ps (LSp X.K sp)) (hr : Room k X.A) (hg : Gl X x) (hm : X.mg x = some (.ref f)) (hk : PySem.W.keepIn X.K (.ref f) = true) (hb : Binds X.K fd ps dl) (hd : Vals dvs dl) (hdd : ∀ S, Reps X.K S dds dvs) (hx : Passes CX X E)
    (ha : DA X (e :: es) t) (hdb : (x == ("__debug__" : Str)) = false := by decide) (he : starEach (e :: es) X.env = (false, eval e X.env) :: starEach es X.env := by rfl) (hpl : (backTo pos (starEach es X.env)).any (·.1) = false := by rfl) :
    DE X (.Call (.Name x p) (e :: es) [] pos) (dCall sp dds t) := pe_imp (pe_call G hr hg hm hk hb hd hx ha hdb he hpl) fun σ H Q q => lift_call hdd q
/-- o.m(..): o an instance of any class that has the method -/
def tMethG (K : PySem.W.Frag) (f : Addr) (m : Str) (sp : Sp) (dvs : List V) (E : XK) (ta : TE) (t : TA) : TE := fun σ H Q => ta σ H fun x H1 => ∃ a C dx fs, x = .ref a ∧ H1 a = some (.ins C dx fs) ∧ Cls K C ∧ Meth K C m f ∧ fs.lookup m = none ∧
  t σ H1 fun vs H2 => sp (x :: (vs ++ dvs)) H2 Q E
theorem pe_methG0 {pl : Sem Bool} {sp : Sp} {ta : TE} (he : PE X o ta) (F : FnOk X.prog X.w X.K X.mg X.base CX k f fd ps sp) (hr : Room k X.A) (hb : Binds X.K fd ps dl) (hd : Vals dvs dl) (hx : Passes CX X E)
    (ht : eval (.Call (.Attribute o m apos) [] [] pos) X.env = (do
      let ov ← eval o X.env
      standAt apos.atName
      let (f, first) ← holding [ov] (getMethod ov m pl)
      callWith pos f first (backTo pos (starEach [] X.env)) (backToKw pos (keywordEach [] X.env))) := by rfl) :
    PE X (.Call (.Attribute o m apos) [] [] pos) (tMethG X.K f m sp dvs E ta tNil) := by
  refine ⟨fun pins s σ H Q I h => ?_⟩
  refine PySem.W.methodCall_KW (pl := pl) (thn (he.run pins s σ H _ I h) fun u s1 ⟨x, H1, I1, rx, a, C, dx, fs, ex, ea, c, hm, l, q⟩ => ?_) ht
  subst ex
  obtain rfl : u = Value.ref a := rx
  refine getmeth_ok I1 ea c hm l ?_
  exact PySem.W.callWith_K0 (first := [.ref a]) I1.kIn hm.kp (run_fn (us := [.ref a]) (vs := [.ref a]) F hr hb hd hx I1 (.cons rfl .nil) q)
/-- C(..): an instance that never changes: g tells its fields -/
def spInit (C : Addr) (g : List D → Option (List Str × List D)) : DSp := fun ds M Q _ => ∃ x args ns es, ds = .ref x :: args ∧ M x = some (.ins C [] []) ∧ g args = some (ns, es) ∧ Q .non (mset M x (.ins C ns es))
@[reducible] def dMake (C : Addr) (g : List D → Option (List Str × List D)) (dds : List D) (t : DTA) : DT := fun env M Q => t env M fun ds env1 M1 => match g (ds ++ dds) with
  | some (ns, es) => Q (.obj C ns es) env1 M1
  | none => False
theorem make_of {K : PySem.W.Frag} {F S H : Hp} {M : Mem} {σ : L2.St} {env : Ev} {g : List D → Option (List Str × List D)} {ds : List D} {vs : List V} {Qd : KD} {Q : VK} {E : XK} {ns : List Str} {es : List D} (R : Rel K F S σ H env M) (r : Reps K S ds vs) (hg : g ds = some (ns, es)) (q : Qd (.obj C ns es) env M) (p : PostE K F S σ Qd Q) :
    ∀ x dx, H x = none → H dx = none → dx ≠ x → LSp K (spInit C g) (.ref x :: vs) (upd (upd H dx (.own x)) x (.ins C dx [])) (fun v H2 => v = .non ∧ Q (.ref x) H2) E := by
  intro x dx hx hdx hne
  have R1 : Rel K F S σ (upd H dx (.own x)) env M := R.more fun b o e => by rw [upd_ne (ne_of_none e hdx)]; exact e
  have hx1 : upd H dx (.own x) x = none := by rw [upd_ne (Ne.symm hne)]; exact hx
  have R2 : Rel K F S σ (upd (upd H dx (.own x)) x (.ins C dx [])) env (mset M x (.ins C [] [])) := R1.newM hx1 ⟨dx, [], upd_same, rfl, trivial⟩
  have sx := R.c.sfree hx
  have fx := R.c.ffree hx
  have mx := R.c.mfree hx
  refine ⟨frOwn F env σ (upd (upd H dx (.own x)) x (.ins C dx [])), S, .ref x :: ds, mset M x (.ins C [] []), (fun d M2 => d = .non ∧ M2 = mset M x (.ins C ns es)), KX0, R2.toC, ⟨rfl, r⟩, ⟨x, ds, ns, es, rfl, mset_same, hg, rfl, mset_mset⟩, fun v H' S' M' d s' c rd qd => ?_, fun _ _ _ _ _ _ _ _ _ _ z => z.elim⟩
  obtain ⟨rfl, rfl⟩ := qd
  refine ⟨rd, ?_⟩
  obtain ⟨sx', dx', xs, e1, l, t⟩ := c.mem x _ mset_same
  -- the instance is put among the things that never change
  have ss : Same S' (upd S' x (.ins C dx' (ns.zip xs))) := fun b o e => by rw [upd_ne (fun z => by rw [z, sx'] at e; cases e)]; exact e
  have R3 : Rel K F S' σ H' env (mset M x (.ins C ns es)) := by
    have R2' : Rel K F S σ (upd (upd H dx (.own x)) x (.ins C dx [])) env (mset M x (.ins C [] [])) := R2
    exact R2'.back c s'
  have R4 : Rel K F (upd S' x (.ins C dx' (ns.zip xs))) σ H' env M := by
    refine Rel.grow (H := H') (M := mset M x (.ins C ns es)) R3 ⟨fun b o e => ?_, fun b o e => ?_, fun b o e => ?_⟩ ss fun i a ea hi => ?_
    · by_cases hb : b = x
      · subst hb; rw [upd_same] at e; cases e; exact e1
      · rw [upd_ne hb] at e; exact R3.c.same b o e
    · have hb : b ≠ x := fun z => by rw [z, fx] at e; cases e
      obtain ⟨h1, h2, h3⟩ := R3.c.fr b o e
      rw [mset_ne hb] at h3
      exact ⟨h1, by rw [upd_ne hb]; exact h2, h3⟩
    · have hb : b ≠ x := fun z => by rw [z, mx] at e; cases e
      obtain ⟨h1, h2⟩ := R3.c.mem b o (by rw [mset_ne hb]; exact e)
      exact ⟨by rw [upd_ne hb]; exact h1, h2.mono ss rfl⟩
    · obtain ⟨ds', hi⟩ := hi
      obtain ⟨b, ys, f1, f2, f3, f4, f5, _⟩ := R3.own i ds' hi
      rw [ea] at f1
      cases f1
      have hb : a ≠ x := fun z => by rw [z, mset_same] at f4; cases f4
      rw [mset_ne hb] at f4
      exact ⟨rfl, by rw [upd_ne hb]; exact f3, f4⟩
  exact p (.ref x) H' _ env M (.obj C ns es) (s'.trans ss) R4 ⟨x, dx', xs, rfl, upd_same, l, t.mono ss⟩ q
variable {g : List D → Option (List Str × List D)}
theorem d_make (Mk' : Mk X.K C f) (G : FnOk X.prog X.w X.K X.mg X.base CX k f fd ps (LSp X.K (spInit C g))) (hr : Room (k + 1) X.A) (hg : Gl X x) (hm : X.mg x = some (.ref C)) (hb : Binds X.K fd ps dl) (hd : Vals dvs dl) (hdd : ∀ S, Reps X.K S dds dvs) (hx : Passes CX X E)
    (ha : DA X (e :: es) t) (hdb : (x == ("__debug__" : Str)) = false := by decide) (he : starEach (e :: es) X.env = (false, eval e X.env) :: starEach es X.env := by rfl) (hpl : (backTo pos (starEach es X.env)).any (·.1) = false := by rfl) :
    DE X (.Call (.Name x p) (e :: es) [] pos) (dMake C g dds t) := by
  refine pe_imp (pe_make Mk' G hr hg hm hb hd hx ha hdb he hpl) fun σ H Q ⟨F, S, env, M, Qd, R, t, p⟩ => ⟨F, S, env, M, _, R, t, fun vs H' S' env' M' ds s' R' r q => ?_⟩
  cases hq : g (ds ++ dds) with
  | none => simp only [hq] at q
  | some z =>
    obtain ⟨ns, es⟩ := z
    simp only [hq] at q
    exact make_of R' (r.append (hdd S')) hq q (p.up s')
theorem d_make0 (Mk' : Mk X.K C f) (G : FnOk X.prog X.w X.K X.mg X.base CX k f fd ps (LSp X.K (spInit C g))) (hr : Room (k + 1) X.A) (hg : Gl X x) (hm : X.mg x = some (.ref C)) (hb : Binds X.K fd ps dl) (hd : Vals dvs dl) (hdd : ∀ S, Reps X.K S dds dvs) (hx : Passes CX X E)
    (hdb : (x == ("__debug__" : Str)) = false := by decide) : DE X (.Call (.Name x p) [] [] pos) (dMake C g dds dNil) := by
  refine pe_imp (pe_make0 Mk' G hr hg hm hb hd hx hdb) fun σ H Q ⟨F, S, env, M, Qd, R, t, p⟩ => ?_
  have q : (match g ([] ++ dds) with
    | some (ns, es) => Qd (.obj C ns es) env M
    | none => False) := t
  cases hq : g ([] ++ dds) with
  | none => simp only [hq] at q
  | some z =>
    obtain ⟨ns, es⟩ := z
    simp only [hq] at q
    exact make_of R (hdd S) hq q p
end

/-! ### lists of one's own -/
abbrev KN := List D → Ev → Mem → Prop
abbrev DTN := Ev → Mem → KN → Prop
def LN (K : PySem.W.Frag) (t : DTN) : TE := fun σ H Q => ∃ F S env M Qd, Rel K F S σ H env M ∧ t env M Qd ∧ ∀ a H' S' env' M' ds, Same S S' → Rel K F S' σ H' env' M' → NewAt K F S' σ H' env' M' a ds → Qd ds env' M' → Q (.ref a) H'
abbrev DN (X : Cx) (e : Expr) (t : DTN) : Prop := PE X e (LN X.K t)
theorem Rel.newAt {K : PySem.W.Frag} {F S H : Hp} {M : Mem} {σ : L2.St} {env : Ev} {p : Addr} {ds : List D} {xs : List V} (R : Rel K F S σ H env M) (h : H p = none) (r : Reps K S ds xs) : Rel K F S σ (upd H p (.lst xs)) env M ∧ NewAt K F S σ (upd H p (.lst xs)) env M p ds := by
  refine ⟨R.more fun b o e => by rw [upd_ne (ne_of_none e h)]; exact e, ⟨xs, upd_same, r⟩, R.c.sfree h, R.c.mfree h, R.c.ffree h, fun j es hj e => R.ownNe e ⟨es, hj⟩ h rfl⟩
section
variable {X : Cx} {e : Expr} {es : List Expr} {t : DTA} {te : DTN} {pos : Pos}
@[reducible] def dLstN (t : DTA) : DTN := fun env M Q => t env M fun ds env1 M1 => ds.length ≤ sizeLine ∧ Q ds env1 M1
theorem n_lst (h : DA X es t) : DN X (.List es pos) (dLstN t) :=
  pe_imp (pe_lst h) fun σ H Q ⟨F, S, env, M, Qd, R, t, p⟩ => ⟨F, S, env, M, _, R, t, fun vs H' S' env' M' ds s' R' r q => ⟨by rw [← r.length]; exact q.1, fun u hu => by
    obtain ⟨R2, n⟩ := R'.newAt hu r
    exact p u _ _ env' M' ds s' R2 n q.2⟩⟩
/-- a new list handed on at once never changes -/
theorem Rel.seal {K : PySem.W.Frag} {F S H : Hp} {M : Mem} {σ : L2.St} {env : Ev} {a : Addr} {ds : List D} (R : Rel K F S σ H env M) (n : NewAt K F S σ H env M a ds) : ∃ S', Same S S' ∧ Rel K F S' σ H env M ∧ Rep K S' (.lst ds) (.ref a) := by
  obtain ⟨xs, e, r⟩ := n.ex
  have ss : Same S (upd S a (.lst xs)) := fun b o q => by rw [upd_ne (fun z => by rw [z, n.s] at q; cases q)]; exact q
  refine ⟨upd S a (.lst xs), ss, R.grow ⟨fun b o q => ?_, fun b o q => ?_, fun b o q => ?_⟩ ss fun i b eb hi => ?_, a, xs, rfl, upd_same, r.mono ss⟩
  · by_cases hb : b = a
    · subst hb; rw [upd_same] at q; cases q; exact e
    · rw [upd_ne hb] at q; exact R.c.same b o q
  · have hb : b ≠ a := fun z => by rw [z, n.f] at q; cases q
    rw [upd_ne hb]
    exact R.c.fr b o q
  · have hb : b ≠ a := fun z => by rw [z, n.m] at q; cases q
    rw [upd_ne hb]
    exact ⟨(R.c.mem b o q).1, (R.c.mem b o q).2.mono ss rfl⟩
  · obtain ⟨es, hi⟩ := hi
    obtain ⟨c, ys, f1, f2, f3, f4, _⟩ := R.own i es hi
    rw [eb] at f1
    cases f1
    have hb : b ≠ a := fun z => by rw [z] at eb; exact n.o i es hi eb
    exact ⟨rfl, by rw [upd_ne hb]; exact f3, f4⟩
end

/-! ### statements -/
section
variable {X : Cx} {st : Stmt} {rest : List Stmt} {t u : DTS} {e : Expr} {te : DT} {pos : Pos}
@[reducible] def sNext : DTS := fun E env M => E.nx env M
@[reducible] def sSeq (t u : DTS) : DTS := fun E env M => t { E with nx := u E } env M
theorem ss_nil : DSs X [] sNext := pss_imp pss_nil fun D σ H ⟨F, S, env, M, Ed, R, t, p⟩ => p.nx σ H S env M (Same.refl _) R t
theorem ss_one (h : DS X st t) : DSs X [st] t := pss_one h
theorem ss_cons (h1 : DS X st t) (h2 : DSs X rest u) : DSs X (st :: rest) (sSeq t u) :=
  pss_imp (pss_cons h1 h2) fun D σ H ⟨F, S, env, M, Ed, R, t, p⟩ => ⟨F, S, env, M, _, R, t, ⟨fun σ' H' S' env' M' s' R' q => ⟨F, S', env', M', Ed, R', q, p.up s'⟩, p.rt, p.bk, p.ct⟩⟩
@[reducible] def sDrop (te : DT) : DTS := fun E env M => te env M fun _ env1 M1 => E.nx env1 M1
theorem s_expr (he : DE X e te) (hs : swapsWith e none pos.line X.env = pure false := by rfl) : DS X (.Expr e pos) (sDrop te) :=
  ps_imp (ps_expr he hs) fun D σ H ⟨F, S, env, M, Ed, R, t, p⟩ => ⟨F, S, env, M, _, R, t, fun v H' S' env' M' d s' R' r q => p.nx σ H' S' env' M' s' R' q⟩
@[reducible] def sRet (te : DT) : DTS := fun E env M => te env M fun d _ M1 => E.rt d M1
theorem s_ret (he : DE X e te) : DS X (.Return (some e) pos) (sRet te) :=
  ps_imp (ps_ret he) fun D σ H ⟨F, S, env, M, Ed, R, t, p⟩ => ⟨F, S, env, M, _, R, t, fun v H' S' env' M' d s' R' r q => p.rt v H' S' M' d s' R'.c r q⟩
@[reducible] def sIf (c : DTT) (t u : DTS) : DTS := fun E env M => c env M fun b env1 M1 => match b with
  | true => t E env1 M1
  | false => u E env1 M1
theorem s_if {c : Expr} {a b : List Stmt} {tc : DTT} (hc : DTst X c tc) (ha : DSs X a t) (hb : DSs X b u) : DS X (.If c a b pos) (sIf tc t u) :=
  ps_imp (ps_if hc ha hb) fun D σ H ⟨F, S, env, M, Ed, R, t, p⟩ => ⟨F, S, env, M, _, R, t, fun k H' S' env' M' s' R' q => by
    cases k with
    | true => exact ⟨F, S', env', M', Ed, R', q, p.up s'⟩
    | false => exact ⟨F, S', env', M', Ed, R', q, p.up s'⟩⟩

/-! targets -/
abbrev KE := Ev → Mem → Prop
abbrev DTG := D → Ev → Mem → KE → Prop
def LG (K : PySem.W.Frag) (t : DTG) : TG := fun v σ H Q => ∃ F S env M d Qd, Rel K F S σ H env M ∧ Rep K S d v ∧ t d env M Qd ∧ ∀ σ' H' S' env' M', Same S S' → Rel K F S' σ' H' env' M' → Qd env' M' → Q σ' H'
abbrev DG (X : Cx) (e : Expr) (t : DTG) : Prop := PG X e (LG X.K t)
@[reducible] def gN (i : Nat) : DTG := fun d env M Q => Q (put env i (.val d)) M
theorem g_name {i : Nat} {x : Str} (hN : X.N.Nodup) (hi : X.N[i]? = some x := by rfl) (hx : Loc X.env.scope x := by first | exact Or.inl rfl | exact Or.inr rfl) (hf : X.fn x = true ∨ X.env.scope.names.lookup x = some .local := by first | exact .inl rfl | exact .inr rfl | assumption) : DG X (.Name x pos) (gN i) :=
  pg_imp (pg_name hN hi hx hf) fun v σ H Q ⟨F, S, env, M, d, Qd, R, r, t, p⟩ => p _ H S _ M (Same.refl _) (R.store r) t
abbrev DTGs := List D → Ev → Mem → KE → Prop
def LGs (K : PySem.W.Frag) (t : DTGs) : TGs := fun vs σ H Q => ∃ F S env M ds Qd, Rel K F S σ H env M ∧ Reps K S ds vs ∧ t ds env M Qd ∧ ∀ σ' H' S' env' M', Same S S' → Rel K F S' σ' H' env' M' → Qd env' M' → Q σ' H'
abbrev DGs (X : Cx) (e : List Expr) (t : DTGs) : Prop := PGs X e (LGs X.K t)
theorem pgs_imp {e : List Expr} {t t' : TGs} (h : PGs X e t) (i : ∀ v σ H Q, t' v σ H Q → t v σ H Q) : PGs X e t' := ⟨fun pins s σ H v u Q I r q => h.run pins s σ H v u Q I r (i v σ H Q q)⟩
@[reducible] def gsNil : DTGs := fun ds env M Q => match ds with
  | [] => Q env M
  | _ => False
@[reducible] def gsCons (g : DTG) (r : DTGs) : DTGs := fun ds env M Q => match ds with
  | d :: rs => g d env M fun env1 M1 => r rs env1 M1 Q
  | [] => False
theorem gs_nil : DGs X [] gsNil := pgs_imp pgs_nil fun v σ H Q ⟨F, S, env, M, ds, Qd, R, r, t, p⟩ => by
  cases ds with
  | nil => exact ⟨r.nil_inv, p σ H S env M (Same.refl _) R t⟩
  | cons _ _ => exact t.elim
theorem gs_cons {es : List Expr} {g : DTG} {r : DTGs} (h1 : DG X e g) (h2 : DGs X es r) (hs : (assignEach (e :: es) X.env).map (·.2) = assign e X.env :: (assignEach es X.env).map (·.2) := by rfl) : DGs X (e :: es) (gsCons g r) :=
  pgs_imp (pgs_cons h1 h2 hs) fun v σ H Q ⟨F, S, env, M, ds, Qd, R, r, t, p⟩ => by
    cases ds with
    | nil => exact t.elim
    | cons d rs =>
      obtain ⟨x, xs, rfl, r1, r2⟩ := r.cons_inv
      exact ⟨x, xs, rfl, F, S, env, M, d, _, R, r1, t, fun σ' H' S' env' M' s' R' q => ⟨F, S', env', M', rs, Qd, R', r2.mono s', q, fun σ2 H2 S2 env2 M2 s2 R2 q2 => p σ2 H2 S2 env2 M2 (s'.trans s2) R2 q2⟩⟩
/-- a, b = a tuple -/
@[reducible] def gT (n : Nat) (t : DTGs) : DTG := fun d env M Q => match d with
  | .tup ds => ds.length = n ∧ t ds env M Q
  | _ => False
theorem g_tup {es : List Expr} {k : Nat} {t : DTGs} {n : Nat} (hc : X.calm = true) (h : DGs X es t) (hn : (assignEach es X.env).length = n := by rfl) (hst : (assignEach es X.env).findIdx? (·.1) = none := by rfl) : DG X (.Tuple es k pos) (gT n t) :=
  pg_imp (pg_tup hc h hn hst) fun v σ H Q ⟨F, S, env, M, d, Qd, R, r, t, p⟩ => by
    cases d with
    | tup ds =>
      obtain ⟨a, xs, rfl, h, t1⟩ := r
      exact ⟨a, xs, rfl, DL.Same.tup R.c.same h, by rw [← t1.length]; exact t.1, F, S, env, M, ds, Qd, R, t1, t.2, p⟩
    | _ => exact t.elim
@[reducible] def sAsg (te : DT) (g : DTG) : DTS := fun E env M => te env M fun d env1 M1 => g d env1 M1 E.nx
theorem s_asg {tg : Expr} {g : DTG} (he : DE X e te) (hg : DG X tg g) (hs : swapsWithSole [tg] e pos.line X.env = pure false := by rfl) (hw : swappedStores [tg] e X.env = pure none := by rfl)
    (h1 : (assignEach [tg] X.env).map (·.2) = [assign tg X.env] := by rfl) : DS X (.Assign [tg] e pos) (sAsg te g) :=
  ps_imp (ps_asg he hg hs hw h1) fun D σ H ⟨F, S, env, M, Ed, R, t, p⟩ => ⟨F, S, env, M, _, R, t, fun v H' S' env' M' d s' R' r q => ⟨F, S', env', M', d, _, R', r, q, fun σ2 H2 S2 env2 M2 s2 R2 q2 => p.nx σ2 H2 S2 env2 M2 (s'.trans s2) R2 q2⟩⟩
theorem s_set {i : Nat} {x : Str} {pos' : Pos} (hN : X.N.Nodup) (he : DE X e te) (hi : X.N[i]? = some x := by rfl) (hx : Loc X.env.scope x := by first | exact Or.inl rfl | exact Or.inr rfl) (hs : swapsWith e (some (.Name x pos')) pos.line X.env = pure false := by rfl) (hf : X.fn x = true ∨ X.env.scope.names.lookup x = some .local := by first | exact .inl rfl | exact .inr rfl | assumption) :
    DS X (.Assign [.Name x pos'] e pos) (sAsg te (gN i)) :=
  ps_imp (ps_set hN hi hx he hs hf) fun D σ H ⟨F, S, env, M, Ed, R, t, p⟩ => ⟨F, S, env, M, _, R, t, fun v H' S' env' M' d s' R' r q => p.nx _ H' S' _ M' s' (R'.store r) q⟩
/-- name = a new list, one's own -/
@[reducible] def sSetN (te : DTN) (i : Nat) : DTS := fun E env M => te env M fun ds env1 M1 => E.nx (put env1 i (.own ds)) M1
theorem s_setN {i : Nat} {x : Str} {pos' : Pos} {te : DTN} (hN : X.N.Nodup) (he : DN X e te) (hi : X.N[i]? = some x := by rfl) (hx : Loc X.env.scope x := by first | exact Or.inl rfl | exact Or.inr rfl) (hs : swapsWith e (some (.Name x pos')) pos.line X.env = pure false := by rfl) (hf : X.fn x = true ∨ X.env.scope.names.lookup x = some .local := by first | exact .inl rfl | exact .inr rfl | assumption) :
    DS X (.Assign [.Name x pos'] e pos) (sSetN te i) :=
  ps_imp (ps_set hN hi hx he hs hf) fun D σ H ⟨F, S, env, M, Ed, R, t, p⟩ => ⟨F, S, env, M, _, R, t, fun a H' S' env' M' ds s' R' n q => by
    obtain ⟨xs, e1, r⟩ := n.ex
    exact p.nx _ H' S' _ M' s' (R'.storeOwn e1 n.s n.m n.f r fun j es hj _ => n.o j es hj) q⟩
/-- o.f = e, o a mutable instance -/
@[reducible] def sFld (K : PySem.W.Frag) (ta tv : DT) (f : Str) : DTS := fun E env M => tv env M fun y env1 M1 => ta env1 M1 fun d env2 M2 => match d with
  | .ref a => (match M2 a with
    | some (.ins C ns ds) => FldOk K C f ∧ ns.length < 1000 ∧ E.nx env2 (mset M2 a (.ins C (fputN f ns) (fputD f y ns ds)))
    | _ => False)
  | _ => False
theorem s_fld {o value : Expr} {f : Str} {pos' : Pos} {ta tv : DT} (ha : DE X o ta) (hv : DE X value tv) (hs : swapsWith value (some (.Attribute o f pos')) pos.line X.env = pure false := by rfl) : DS X (.Assign [.Attribute o f pos'] value pos) (DL.sFld X.K ta tv f) := by
  refine ps_imp (ps_fld ha hv hs) fun D σ H ⟨F, S, env, M, Ed, R, t, p⟩ => ⟨F, S, env, M, _, R, t, fun v H1 S1 env1 M1 y s1 R1 r1 q1 => ⟨F, S1, env1, M1, _, R1, q1, fun u H2 S2 env2 M2 d s2 R2 r2 q2 => ?_⟩⟩
  cases d with
  | ref a =>
    cases r2
    cases e : M2 a with
    | none => simp only [e] at q2
    | some m =>
      cases m with
      | ins C ns ds =>
        simp only [e] at q2
        obtain ⟨c, l, q2⟩ := q2
        obtain ⟨dx, xs, e1, lx, tx⟩ := (R2.c.mem a _ e).2
        have z := putF_zip (f := f) (v := v) lx
        refine ⟨a, C, dx, _, rfl, e1, c.1, c.2, by rw [List.length_zip, lx, Nat.min_self]; exact l, ?_⟩
        rw [z.1]
        exact p.nx σ _ S2 env2 _ (s1.trans s2) (R2.setM (m' := .ins C (fputN f ns) (fputD f y ns ds)) e ⟨dx, _, upd_same, z.2, reps_fput (r1.mono s2) tx⟩) q2
      | _ => simp only [e] at q2
  | _ => exact q2.elim

/-! while -/
@[reducible] def whW (c : DTT) (tb : DTS) (E : DEnds) : Nat → Ev → Mem → Prop
  | 0, _, _ => False
  | n + 1, env, M => c env M fun b env1 M1 => match b with
    | true => tb { E with nx := whW c tb E n, ct := whW c tb E n, bk := E.nx } env1 M1
    | false => E.nx env1 M1
def sWhile (c : DTT) (tb : DTS) : DTS := fun E env M => ∃ n, whW c tb E n env M
theorem s_while {c : Expr} {body : List Stmt} {tc : DTT} {tb : DTS} (hp : PassesOwn (model X.prog X.w) X.A X.env X.xe) (hc : DTst X c tc) (hb : DSs X body tb) : DS X (.While c body [] pos) (sWhile tc tb) := by
  refine ps_imp (ps_while hp hc hb) fun D σ H ⟨F, S, env, M, Ed, R, ⟨n, t⟩, p⟩ => ?_
  refine ⟨fun m σ H => ∃ S' env' M', Same S S' ∧ Rel X.K F S' σ H env' M' ∧ whW tc tb Ed m env' M', ⟨n, S, env, M, Same.refl _, R, t⟩, ?_⟩
  rintro m σ1 H1 ⟨S1, env1, M1, s1, R1, w⟩
  cases m with
  | zero => exact w.elim
  | succ m =>
    refine ⟨F, S1, env1, M1, _, R1, w, fun b H2 S2 env2 M2 s2 R2 q => ?_⟩
    cases b with
    | false => exact p.nx σ1 H2 S2 env2 M2 (s1.trans s2) R2 q
    | true =>
      refine ⟨fun σ' H' => ∃ S' env' M', Same S S' ∧ Rel X.K F S' σ' H' env' M' ∧ whW tc tb Ed m env' M', fun σ' H' z => ⟨m, Nat.lt_succ_self m, z⟩, F, S2, env2, M2, _, R2, q, ⟨fun σ3 H3 S3 env3 M3 s3 R3 q3 => ⟨S3, env3, M3, (s1.trans s2).trans s3, R3, q3⟩, (p.up (s1.trans s2)).rt, fun σ3 H3 S3 env3 M3 s3 R3 q3 => p.nx σ3 H3 S3 env3 M3 ((s1.trans s2).trans s3) R3 q3, fun σ3 H3 S3 env3 M3 s3 R3 q3 => ⟨S3, env3, M3, (s1.trans s2).trans s3, R3, q3⟩⟩⟩
end

/-! ### what is walked -/
abbrev KI := List D → Ev → Mem → Prop
abbrev DTI := Ev → Mem → KI → Prop
def LI (K : PySem.W.Frag) (wi : DTI) : TI := fun σ H R' => ∃ F S env M Qd, Rel K F S σ H env M ∧ wi env M Qd ∧ ∀ J H' S' env' M' items, Same S S' → Rel K F S' σ H' env' M' → Walks K J S' items → Qd items env' M' → R' J H'
abbrev DI (X : Cx) (tg e : Expr) (wi : DTI) : Prop := PI X tg e (LI X.K wi)
theorem pi_imp {X : Cx} {tg e : Expr} {t t' : TI} (h : PI X tg e t) (i : ∀ σ H R, t' σ H R → t σ H R) : PI X tg e t' := ⟨fun pins s σ H R I q => h.run pins s σ H R I (i σ H R q)⟩
section
variable {X : Cx} {tg e : Expr} {te : DT} {t : DTA} {pos p : Pos}
theorem walks_list {K : PySem.W.Frag} {S : Hp} {a : Addr} {xs : List V} {ds : List D} (h : SqL K S a xs) (r : Reps K S ds xs) : Walks K (Itl K a) S ds := by
  have l := r.length
  refine ⟨fun i H S' hi s1 s2 => ⟨xs, xs[i]'(by omega), L2.Same.seq (s1.trans s2) h, by simp⟩, fun H S' s1 s2 => ⟨xs, L2.Same.seq (s1.trans s2) h, by omega⟩, fun i d x H H' S' hd s1 s2 y => ?_⟩
  obtain ⟨rfl, y⟩ := y
  obtain ⟨v, e1, r1⟩ := r.get hd
  have e2 := y xs (L2.Same.seq (s1.trans s2) h)
  rw [e1] at e2
  cases e2
  exact .inl ⟨rfl, r1.mono s1⟩
theorem walks_tup {K : PySem.W.Frag} {S : Hp} {a : Addr} {xs : List V} {ds : List D} (h : SqT K S a xs) (r : Reps K S ds xs) : Walks K (Itt K a) S ds := by
  have l := r.length
  refine ⟨fun i H S' hi s1 s2 => ⟨xs, xs[i]'(by omega), DL.Same.tup (s1.trans s2) h, by simp⟩, fun H S' s1 s2 => ⟨xs, DL.Same.tup (s1.trans s2) h, by omega⟩, fun i d x H H' S' hd s1 s2 y => ?_⟩
  obtain ⟨rfl, y⟩ := y
  obtain ⟨v, e1, r1⟩ := r.get hd
  have e2 := y xs (DL.Same.tup (s1.trans s2) h)
  rw [e1] at e2
  cases e2
  exact .inl ⟨rfl, r1.mono s1⟩
def strD (z : Str) : List D := z.cps.toList.map fun c => .str ⟨#[c]⟩
theorem walks_str {K : PySem.W.Frag} {S : Hp} (z : Str) : Walks K (Its z) S (strD z) := by
  have l : (strD z).length = z.cps.size := by unfold strD; rw [List.length_map, Array.length_toList]
  refine ⟨fun i H S' hi _ _ => by show i < z.cps.size; omega, fun H S' _ _ => by show z.cps.size ≤ _; omega, fun i d x H H' S' hd s1 s2 y => ?_⟩
  obtain ⟨rfl, c, e, rfl⟩ := y
  unfold strD at hd
  rw [List.getElem?_map, Array.getElem?_toList, e] at hd
  cases hd
  exact .inl ⟨rfl, rfl⟩
def rngD (lo : Int) (n : Nat) : List D := (List.range n).map fun k => .int (lo + (k : Nat))
theorem walks_rng {K : PySem.W.Frag} {S : Hp} (lo : Int) (n : Nat) : Walks K (Itr lo n) S (rngD lo n) := by
  have l : (rngD lo n).length = n := by unfold rngD; rw [List.length_map, List.length_range]
  refine ⟨fun i H S' hi _ _ => by show i < n; omega, fun H S' _ _ => by show n ≤ _; omega, fun i d x H H' S' hd s1 s2 y => ?_⟩
  obtain ⟨rfl, rfl⟩ := y
  unfold rngD at hd
  rw [List.getElem?_map] at hd
  by_cases h : i < n
  · rw [List.getElem?_range h] at hd
    cases hd
    exact .inl ⟨rfl, rfl⟩
  · rw [List.getElem?_eq_none_iff.mpr (by rw [List.length_range]; omega)] at hd
    cases hd
/-- a list, a tuple, a text, by its value -/
def itR (K : PySem.W.Frag) (x : V) (H : Hp) (R : It → Hp → Prop) : Prop := (∃ a, x = .ref a ∧ (((∃ xs, SqL K H a xs) ∧ R (Itl K a) H) ∨ ((∃ xs, SqT K H a xs) ∧ R (Itt K a) H))) ∨ ∃ z, x = .str z ∧ R (Its z) H
theorem pi_any {l : Expr} {tl : TE} (hl : PE X l tl) : PI X tg l (fun σ H R => tl σ H fun x H1 => itR X.K x H1 R) := by
  refine ⟨fun pins s σ H R I h => ?_⟩
  refine thn (hl.run pins s σ H _ I h) fun v s1 ⟨x, H1, I1, r1, q1⟩ => ?_
  rcases q1 with ⟨a, e, (⟨⟨xs, hq⟩, q⟩ | ⟨⟨xs, hq⟩, q⟩)⟩ | ⟨z, e, q⟩
  · subst e
    cases r1
    obtain ⟨its, rv, p, hz⟩ := I1.list hq
    refine wpAny_pyIter_list p.isList ?_
    refine ⟨s1.heap.objs.size, [s1.heap.objs.size], _, _, H1, rfl, I1.kept (t' := s1.toks) fun b o e => Heap.get?_push_of_some _ e, turn_list a _, ⟨_, Heap.get?_push_size _ rfl, rfl, rfl⟩, fun b hb => ?_, q⟩
    have e : b = s1.heap.objs.size := by simpa using hb
    subst e
    exact I1.fpOk (Nat.le_refl _) (I1.hok.fresh (Nat.le_refl _))
  · subst e
    cases r1
    obtain ⟨its, rv, p, hz⟩ := I1.tuple hq
    refine wpAny_pyIter_tuple (show s1.heap.IsTuple a its.toArray from p) ?_
    refine ⟨s1.heap.objs.size, [s1.heap.objs.size], _, _, H1, rfl, I1.kept (t' := s1.toks) fun b o e => Heap.get?_push_of_some _ e, turn_tuple a _, ⟨_, Heap.get?_push_size _ rfl, rfl, rfl⟩, fun b hb => ?_, q⟩
    have e : b = s1.heap.objs.size := by simpa using hb
    subst e
    exact I1.fpOk (Nat.le_refl _) (I1.hok.fresh (Nat.le_refl _))
  · subst e
    obtain ⟨t, rfl⟩ := r1
    cases ha : z.cps.all (· < 128)
    · exact wpAny_pyIter_wide ha (pi_one (tk := s1.toks) I1 _ (turn_str _ z t "str_iterator" (.inr rfl)) ⟨_, Heap.get?_push_size _ rfl, rfl, rfl⟩ q)
    · exact wpAny_pyIter_ascii ha (pi_one (tk := s1.toks) I1 _ (turn_str _ z t "str_ascii_iterator" (.inl rfl)) ⟨_, Heap.get?_push_size _ rfl, rfl, rfl⟩ q)
@[reducible] def itemsD : D → Option (List D)
  | .lst ds => some ds
  | .lstK ds => some ds
  | .tup ds => some ds
  | .str z => some (strD z)
  | _ => none
@[reducible] def iAny (te : DT) : DTI := fun env M Q => te env M fun d env1 M1 => match itemsD d with
  | some ds => Q ds env1 M1
  | none => False
theorem i_any (he : DE X e te) : DI X tg e (iAny te) := by
  refine pi_imp (pi_any he) fun σ H R' ⟨F, S, env, M, Qd, R, t, p⟩ => ⟨F, S, env, M, _, R, t, fun v H' S' env' M' d s' R1 r q => ?_⟩
  cases d with
  | lst ds =>
    obtain ⟨a, xs, rfl, h, t1⟩ := r
    exact .inl ⟨a, rfl, .inl ⟨⟨xs, .of (R1.c.same _ _ h)⟩, p _ H' S' env' M' ds s' R1 (walks_list (.of h) t1) q⟩⟩
  | lstK ds =>
    obtain ⟨a, xs, rfl, h, t1⟩ := r
    exact .inl ⟨a, rfl, .inl ⟨⟨xs, L2.Same.seq R1.c.same h⟩, p _ H' S' env' M' ds s' R1 (walks_list h t1) q⟩⟩
  | tup ds =>
    obtain ⟨a, xs, rfl, h, t1⟩ := r
    exact .inl ⟨a, rfl, .inr ⟨⟨xs, DL.Same.tup R1.c.same h⟩, p _ H' S' env' M' ds s' R1 (walks_tup h t1) q⟩⟩
  | str z =>
    cases r
    exact .inr ⟨z, rfl, p _ H' S' env' M' (strD z) s' R1 (walks_str z) q⟩
  | _ => exact q.elim
end
end DL
set_option Elab.async false
set_option linter.all false
set_option maxRecDepth 100000
set_option maxHeartbeats 1000000
/-! DL4: for, comprehensions, lists that grow, tuples of targets, dicts, isinstance, a def's promise by its body. -/
namespace DL
open PySem PySem.Spec PyProof.Rows L2
variable [Gh]

/-! ### for -/
@[reducible] def forW (g : DTG) (tb : DTS) (E : DEnds) : List D → Ev → Mem → Prop
  | [], env, M => E.nx env M
  | d :: r, env, M => g d env M fun env1 M1 => tb { E with nx := forW g tb E r, ct := forW g tb E r, bk := E.nx } env1 M1
@[reducible] def sFor (wi : DTI) (g : DTG) (tb : DTS) : DTS := fun E env M => wi env M fun items env1 M1 => forW g tb E items env1 M1
section
variable {X : Cx} {tg iter : Expr} {body : List Stmt} {wi : DTI} {g : DTG} {tb : DTS} {pos : Pos}
theorem s_for (hp : PassesOwn (model X.prog X.w) X.A X.env X.xe) (hc : X.calm = true) (hi : DI X tg iter wi) (hg : DG X tg g) (hb : DSs X body tb) (hs : ∀ x, foldedSetIterable iter X.env x = pure x := by intro _; rfl) : DS X (.For tg iter body [] pos) (sFor wi g tb) := by
  refine ps_imp (ps_for hp hc hi hg hb hs) fun D σ H ⟨F, S, env, M, Ed, R, t, p⟩ => ⟨F, S, env, M, _, R, t, fun J H1 S1 env1 M1 items s1 R1 w q => ?_⟩
  refine ⟨fun i m σ' H' => m = items.length - i ∧ i ≤ items.length ∧ ∃ S' env' M', Same S1 S' ∧ Rel X.K F S' σ' H' env' M' ∧ forW g tb Ed (items.drop i) env' M', ⟨items.length, by simp, Nat.zero_le _, S1, env1, M1, Same.refl _, R1, by rw [List.drop_zero]; exact q⟩, ?_⟩
  rintro i m σ2 H2 ⟨rfl, hi, S2, env2, M2, s2, R2, q2⟩
  by_cases hlt : i < items.length
  · refine .inr ⟨w.go i H2 S2 hlt s2 R2.c.same, _, fun σ' H' z => ⟨items.length - (i + 1), by omega, z⟩, fun x H3 y => ?_⟩
    have ed : items.drop i = items[i] :: items.drop (i + 1) := List.drop_eq_getElem_cons hlt
    rw [ed] at q2
    have hd : items[i]? = some items[i] := by simp [hlt]
    have fin : ∀ S3, Same S2 S3 → Rel X.K F S3 σ2 H3 env2 M2 → Rep X.K S3 items[i] x → LG X.K g x σ2 H3 (fun σ2 H2 => LS X.K tb { D with nx := fun σ' H' => items.length - (i + 1) = items.length - (i + 1) ∧ i + 1 ≤ items.length ∧ ∃ S' env' M', Same S1 S' ∧ Rel X.K F S' σ' H' env' M' ∧ forW g tb Ed (items.drop (i + 1)) env' M', ct := fun σ' H' => items.length - (i + 1) = items.length - (i + 1) ∧ i + 1 ≤ items.length ∧ ∃ S' env' M', Same S1 S' ∧ Rel X.K F S' σ' H' env' M' ∧ forW g tb Ed (items.drop (i + 1)) env' M', bk := D.nx } σ2 H2) := fun S3 s3 R3 r3 => by
      refine ⟨F, S3, env2, M2, items[i], _, R3, r3, q2, fun σ4 H4 S4 env4 M4 s4 R4 q4 => ⟨F, S4, env4, M4, _, R4, q4, ?_⟩⟩
      have sx := (s1.trans s2).trans (s3.trans s4)
      exact ⟨fun σ5 H5 S5 env5 M5 s5 R5 q5 => ⟨rfl, hlt, S5, env5, M5, s2.trans (s3.trans (s4.trans s5)), R5, q5⟩, (p.up sx).rt, fun σ5 H5 S5 env5 M5 s5 R5 q5 => p.nx σ5 H5 S5 env5 M5 (sx.trans s5) R5 q5, fun σ5 H5 S5 env5 M5 s5 R5 q5 => ⟨rfl, hlt, S5, env5, M5, s2.trans (s3.trans (s4.trans s5)), R5, q5⟩⟩
    rcases w.yld i items[i] x H2 H3 S2 hd s2 R2.c.same y with ⟨rfl, r⟩ | ⟨p1, o, hp1, rfl, r⟩
    · exact fin S2 (Same.refl _) R2 r
    · obtain ⟨R3, s3⟩ := R2.new (o := o) hp1
      exact fin _ s3 R3 r
  · obtain rfl : i = items.length := by omega
    rw [List.drop_length] at q2
    exact .inl ⟨w.stop H2 S2 s2 R2.c.same, p.nx σ2 H2 S2 env2 M2 (s1.trans s2) R2 q2⟩

/-! range -/
def i62 (j : Int) : Prop := -(2 ^ 62) ≤ j ∧ j < 2 ^ 62
@[reducible] def iRng1D (t : DTA) : DTI := fun env M Q => t env M fun ds env1 M1 => match ds with
  | [.int j] => i62 j ∧ Q (rngD 0 j.toNat) env1 M1
  | _ => False
theorem i_rng1 {a : Expr} {t : DTA} {p : Pos} (hg : Gl X "range") (hm : X.mg "range" = none) (ha : DA X [a] t) (hs : starEach [a] X.env = [(false, eval a X.env)] := by rfl) : DI X tg (.Call (.Name "range" p) [a] [] pos) (iRng1D t) := by
  refine pi_imp (pi_range1 hg hm ha hs) fun σ H R' ⟨F, S, env, M, Qd, R, t, p⟩ => ⟨F, S, env, M, _, R, t, fun vs H' S' env' M' ds s' R1 r q => ?_⟩
  cases ds with
  | nil => exact q.elim
  | cons d r2 =>
    cases r2 with
    | cons _ _ => cases d <;> exact q.elim
    | nil =>
      obtain ⟨v, rfl, rv⟩ := r.one
      cases d with
      | int j => cases rv; exact ⟨j, rfl, q.1.1, q.1.2, p _ H' S' env' M' _ s' R1 (walks_rng 0 _) q.2⟩
      | _ => exact q.elim
end

/-! ### comprehensions -/
@[reducible] def wipeD (e : Ev) : List Nat → Ev
  | [] => e
  | v :: vs => put (wipeD e vs) v .no
/-- the block's own names as they were -/
@[reducible] def unw (env be : Ev) : List Nat → Ev
  | [] => be
  | v :: vs => put (unw env be vs) v (look env v)
@[reducible] def lcW (g : DTG) (tt : DTT) (te : DT) (vs : List Nat) : List D → List D → Ev → Mem → KN → Prop
  | [], acc, be, M, Q => Q acc be M
  | d :: r, acc, be, M, Q => g d be M fun e2 M2 => tt e2 M2 fun b e3 M3 => match b with
    | true => te e3 M3 fun y e4 M4 => acc.length < sizeLine ∧ lcW g tt te vs r (acc ++ [y]) (wipeD e4 vs) M4 Q
    | false => lcW g tt te vs r acc (wipeD e3 vs) M3 Q
@[reducible] def notOwn : Sl → Bool
  | .own _ => false
  | _ => true
@[reducible] def dLc (wi : DTI) (g : DTG) (tt : DTT) (te : DT) (vs : List Nat) : DTN := fun env M Q => wi env M fun items env1 M1 => vs.all (fun v => notOwn (look env1 v)) = true ∧ lcW g tt te vs items [] (wipeD env1 vs) M1 fun ys be M2 => Q ys (unw env1 be vs) M2
/-- a target of a comprehension: it changes the block's own names alone -/
def LGw (K : PySem.W.Frag) (vs : List Nat) (t : DTG) : TG := fun v σ H Q => ∃ F S env M d Qd, Rel K F S σ H env M ∧ Rep K S d v ∧ t d env M Qd ∧ ∀ σ' H' S' env' M', Same S S' → Rel K F S' σ' H' env' M' → wipe σ' vs = wipe σ vs → Qd env' M' → Q σ' H'
abbrev DGw (X : Cx) (vs : List Nat) (e : Expr) (t : DTG) : Prop := PG X e (LGw X.K vs t)
theorem wipe_set {i : Nat} {x : Option V} : ∀ {vs : List Nat} {σ : L2.St}, i ∈ vs → wipe (σ.set i x) vs = wipe σ vs
  | v :: vs, σ, h => by
    unfold wipe
    by_cases e : i = v
    · subst e
      have key : ∀ vs : List Nat, (wipe (σ.set i x) vs).set i none = (wipe σ vs).set i none := fun vs => by
        induction vs with
        | nil => unfold wipe; rw [List.set_set]
        | cons w ws ih =>
          unfold wipe
          by_cases e : w = i
          · subst e; rw [List.set_set, List.set_set, ih]
          · rw [List.set_comm _ _ e, List.set_comm _ _ e, ih]
      exact key vs
    · rw [wipe_set (vs := vs) ((List.mem_cons.mp h).resolve_left e)]
section
variable {X : Cx} {pos : Pos} {vs : List Nat}
theorem gw_name {i : Nat} {x : Str} (hv : i ∈ vs) (hN : X.N.Nodup) (hi : X.N[i]? = some x := by rfl) (hx : Loc X.env.scope x := by first | exact Or.inl rfl | exact Or.inr rfl) (hf : X.fn x = true ∨ X.env.scope.names.lookup x = some .local := by first | exact .inl rfl | exact .inr rfl | assumption) : DGw X vs (.Name x pos) (gN i) :=
  pg_imp (pg_name hN hi hx hf) fun v σ H Q ⟨F, S, env, M, d, Qd, R, r, t, p⟩ => p _ H S _ M (Same.refl _) (R.store r) (wipe_set hv) t
end
section
variable {K : PySem.W.Frag} {F S H : Hp} {M : Mem} {σ : L2.St} {env : Ev}
theorem Rel.wipe1 (R : Rel K F S σ H env M) (v : Nat) : Rel K F S (σ.set v none) H (put env v .no) M := by
  refine ⟨R.c, by rw [put_length, List.length_set]; exact R.len, fun i d e => ?_, fun i ds e => ?_, fun i j a ds es n q1 q2 e => ?_, R.g⟩
  · have h : v ≠ i := fun z => by
      subst z
      have hi : v < env.length := by have := look_lt e (fun z => by cases z); rwa [put_length] at this
      rw [look_put_same hi] at e
      cases e
    rw [look_put_ne h] at e
    obtain ⟨u, e1, r⟩ := R.val i d e
    exact ⟨u, by rw [List.getElem?_set_ne h]; exact e1, r⟩
  · have h : v ≠ i := fun z => by
      subst z
      have hi : v < env.length := by have := look_lt e (fun z => by cases z); rwa [put_length] at this
      rw [look_put_same hi] at e
      cases e
    rw [look_put_ne h] at e
    obtain ⟨a, xs, e1, x⟩ := R.own i ds e
    exact ⟨a, xs, by rw [List.getElem?_set_ne h]; exact e1, x⟩
  · have h1 : v ≠ i := fun z => by
      subst z
      have hi : v < env.length := by have := look_lt q1 (fun z => by cases z); rwa [put_length] at this
      rw [look_put_same hi] at q1
      cases q1
    have h2 : v ≠ j := fun z => by
      subst z
      have hi : v < env.length := by have := look_lt q2 (fun z => by cases z); rwa [put_length] at this
      rw [look_put_same hi] at q2
      cases q2
    rw [look_put_ne h1] at q1
    rw [look_put_ne h2] at q2
    rw [List.getElem?_set_ne h1] at e
    rw [List.getElem?_set_ne h2]
    exact R.dis i j a ds es n q1 q2 e
theorem Rel.wipes (R : Rel K F S σ H env M) : ∀ vs : List Nat, Rel K F S (wipe σ vs) H (wipeD env vs) M
  | [] => R
  | v :: vs => (R.wipes vs).wipe1 v
/-- a slot gets back what it held -/
theorem Rel.restore1 {σ0 : L2.St} {env0 : Ev} (R : Rel K F S σ H env M) (v : Nat) (hl : σ0.length = σ.length) (h : (∃ d u, look env0 v = .val d ∧ σ0[v]? = some (some u) ∧ Rep K S d u) ∨ look env0 v = .no) :
    ∀ x, (∀ d, look env0 v = .val d → σ0[v]? = some x) → Rel K F S (σ.set v x) H (put env v (look env0 v)) M := by
  intro x hx
  rcases h with ⟨d, u, e1, e2, r⟩ | e1
  · have e3 := hx d e1
    rw [e2] at e3
    cases e3
    rw [e1]
    exact R.store r
  · rw [e1]
    refine ⟨R.c, by rw [put_length, List.length_set]; exact R.len, fun i d e => ?_, fun i ds e => ?_, fun i j a ds es n q1 q2 e => ?_, R.g⟩
    · have h : v ≠ i := fun z => by
        subst z
        have hi : v < env.length := by have := look_lt e (fun z => by cases z); rwa [put_length] at this
        rw [look_put_same hi] at e
        cases e
      rw [look_put_ne h] at e
      obtain ⟨u, e1, r⟩ := R.val i d e
      exact ⟨u, by rw [List.getElem?_set_ne h]; exact e1, r⟩
    · have h : v ≠ i := fun z => by
        subst z
        have hi : v < env.length := by have := look_lt e (fun z => by cases z); rwa [put_length] at this
        rw [look_put_same hi] at e
        cases e
      rw [look_put_ne h] at e
      obtain ⟨a, xs, e1, x⟩ := R.own i ds e
      exact ⟨a, xs, by rw [List.getElem?_set_ne h]; exact e1, x⟩
    · have h1 : v ≠ i := fun z => by
        subst z
        have hi : v < env.length := by have := look_lt q1 (fun z => by cases z); rwa [put_length] at this
        rw [look_put_same hi] at q1
        cases q1
      have h2 : v ≠ j := fun z => by
        subst z
        have hi : v < env.length := by have := look_lt q2 (fun z => by cases z); rwa [put_length] at this
        rw [look_put_same hi] at q2
        cases q2
      rw [look_put_ne h1] at q1
      rw [look_put_ne h2] at q2
      rw [List.getElem?_set_ne h1] at e
      rw [List.getElem?_set_ne h2]
      exact R.dis i j a ds es n q1 q2 e
def restoreS (σ0 σ : L2.St) : List Nat → L2.St
  | [] => σ
  | v :: vs => (restoreS σ0 σ vs).set v ((σ0[v]?).join)
theorem restoreS_length {σ0 : L2.St} (vs : List Nat) : (restoreS σ0 σ vs).length = σ.length := by
  induction vs with
  | nil => rfl
  | cons v vs ih => unfold restoreS; rw [List.length_set, ih]
theorem wipe_get {σ : L2.St} {j : Nat} : ∀ {vs : List Nat}, j ∉ vs → (wipe σ vs)[j]? = σ[j]?
  | [], _ => rfl
  | v :: vs, h => by
    unfold wipe
    rw [List.getElem?_set_ne (fun z => h (by rw [z]; exact List.mem_cons_self)), wipe_get fun z => h (List.mem_cons_of_mem _ z)]
theorem wipe_at {σ : L2.St} {u : Nat} (hl : u < σ.length) : ∀ {ws : List Nat}, u ∈ ws → (wipe σ ws)[u]? = some none
  | v :: ws, z => by
    show ((wipe σ ws).set v none)[u]? = some none
    by_cases e : v = u
    · subst e; rw [List.getElem?_set_self (by rw [wipe_length]; exact hl)]
    · rw [List.getElem?_set_ne e]; exact wipe_at hl ((List.mem_cons.mp z).resolve_left (Ne.symm e))
theorem wipe_wipe {σ : L2.St} {vs : List Nat} : ∀ us : List Nat, (∀ u ∈ us, u ∈ vs) → wipe (wipe σ vs) us = wipe σ vs
  | [], _ => rfl
  | u :: us, hu => by
    show (wipe (wipe σ vs) us).set u none = wipe σ vs
    rw [wipe_wipe us fun z hz => hu z (List.mem_cons_of_mem _ hz)]
    have hm := hu u List.mem_cons_self
    refine List.ext_getElem? fun j => ?_
    by_cases e : u = j
    · subst e
      by_cases hl : u < σ.length
      · rw [List.getElem?_set_self (by rw [wipe_length]; exact hl), wipe_at hl hm]
      · rw [List.getElem?_eq_none_iff.mpr (by rw [List.length_set, wipe_length]; omega), List.getElem?_eq_none_iff.mpr (by rw [wipe_length]; omega)]
    · rw [List.getElem?_set_ne e]
theorem restoreS_get {σ0 : L2.St} {j : Nat} (hj : j < σ.length) (hl : σ0.length = σ.length) : ∀ {vs : List Nat}, (j ∈ vs → (restoreS σ0 σ vs)[j]? = σ0[j]?) ∧ (j ∉ vs → (restoreS σ0 σ vs)[j]? = σ[j]?)
  | [] => ⟨fun z => absurd z (by simp), fun _ => rfl⟩
  | v :: vs => by
    obtain ⟨i1, i2⟩ := restoreS_get (σ0 := σ0) hj hl (vs := vs)
    unfold restoreS
    by_cases e : v = j
    · subst e
      have hj0 : v < σ0.length := by rw [hl]; exact hj
      refine ⟨fun _ => ?_, fun z => absurd List.mem_cons_self z⟩
      rw [List.getElem?_set_self (by rw [restoreS_length]; exact hj), List.getElem?_eq_getElem hj0]
      rfl
    · rw [List.getElem?_set_ne e]
      exact ⟨fun z => i1 ((List.mem_cons.mp z).resolve_left (Ne.symm e)), fun z => i2 fun y => z (List.mem_cons_of_mem _ y)⟩
theorem restoreS_wipe {σ : L2.St} (vs : List Nat) : restoreS σ (wipe σ vs) vs = σ := by
  have hl : σ.length = (wipe σ vs).length := (wipe_length σ vs).symm
  refine List.ext_getElem? fun j => ?_
  by_cases hj : j < σ.length
  · have q := restoreS_get (σ := wipe σ vs) (σ0 := σ) (j := j) (by rw [← hl]; exact hj) hl (vs := vs)
    by_cases hm : j ∈ vs
    · exact q.1 hm
    · rw [q.2 hm, wipe_get hm]
  · rw [List.getElem?_eq_none_iff.mpr (by rw [restoreS_length, wipe_length]; omega), List.getElem?_eq_none_iff.mpr (by omega)]
theorem Rel.restores {σ0 : L2.St} {env0 : Ev} {S0 H0 : Hp} {M0 : Mem} {F0 : Hp} (R0 : Rel K F0 S0 σ0 H0 env0 M0) (ss : Same S0 S) (R : Rel K F S σ H env M) (hl : σ0.length = σ.length) : ∀ vs : List Nat, vs.all (fun v => notOwn (look env0 v)) = true → Rel K F S (restoreS σ0 σ vs) H (unw env0 env vs) M
  | [], _ => R
  | v :: vs, h => by
    simp only [List.all_cons, Bool.and_eq_true] at h
    have ih := Rel.restores R0 ss R hl vs h.2
    unfold restoreS unw
    refine ih.restore1 (σ0 := σ0) v (by rw [restoreS_length]; exact hl) ?_ _ fun d e => ?_
    · cases q : look env0 v with
      | no => exact .inr rfl
      | val d =>
        obtain ⟨u, e1, r⟩ := R0.val v d q
        exact .inl ⟨d, u, rfl, e1, r.mono ss⟩
      | own ds => rw [q] at h; cases h.1
    · obtain ⟨u, e1, r⟩ := R0.val v d e
      rw [e1]
      rfl
/-- a list of the frame's changes -/
theorem Rel.frSet {a : Addr} {xs ys : List V} (R : Rel K (upd F a (.lst xs)) S σ H env M) (hgf : Gh.f a = none) : Rel K (upd F a (.lst ys)) S σ (upd H a (.lst ys)) env M := by
  obtain ⟨h1, h2, h3⟩ := R.c.fr a _ upd_same
  refine ⟨⟨fun b o e => ?_, fun b o e => ?_, fun b o e => ?_⟩, R.len, R.val, fun i ds e => ?_, R.dis, R.g.set hgf⟩
  · rw [upd_ne (fun z => by rw [z, h2] at e; cases e)]; exact R.c.same b o e
  · by_cases hb : b = a
    · subst hb; rw [upd_same] at e ⊢; cases e; exact ⟨rfl, h2, h3⟩
    · rw [upd_ne hb] at e ⊢; exact R.c.fr b o (by rw [upd_ne hb]; exact e)
  · have hb : b ≠ a := fun z => by rw [z, h3] at e; cases e
    exact ⟨(R.c.mem b o e).1, (R.c.mem b o e).2.mono (Same.refl _) (upd_ne hb)⟩
  · obtain ⟨b, zs, e1, e2, e3, e4, e5, r⟩ := R.own i ds e
    have hb : b ≠ a := fun z => by rw [z, upd_same] at e5; cases e5
    exact ⟨b, zs, e1, by rw [upd_ne hb]; exact e2, e3, e4, by rw [upd_ne hb] at e5 ⊢; exact e5, r⟩
theorem Rel.frAdd {a : Addr} {xs : List V} (R : Rel K F S σ H env M) (h : H a = none) : Rel K (upd F a (.lst xs)) S σ (upd H a (.lst xs)) env M := by
  have R1 : Rel K F S σ (upd H a (.lst xs)) env M := R.more fun b o e => by rw [upd_ne (ne_of_none e h)]; exact e
  refine ⟨⟨R1.c.same, fun b o e => ?_, R1.c.mem⟩, R.len, R.val, fun i ds e => ?_, R.dis, R.g.add (R.c.ffree h)⟩
  · by_cases hb : b = a
    · subst hb; rw [upd_same] at e ⊢; cases e; exact ⟨rfl, R.c.sfree h, R.c.mfree h⟩
    · rw [upd_ne hb] at e; exact R1.c.fr b o e
  · obtain ⟨b, zs, e1, e2, e3, e4, e5, r⟩ := R1.own i ds e
    have hb : b ≠ a := R.ownNe e1 ⟨ds, e⟩ h
    exact ⟨b, zs, e1, e2, e3, e4, by rw [upd_ne hb]; exact e5, r⟩
theorem Rel.frDrop {a : Addr} {xs : List V} (R : Rel K (upd F a (.lst xs)) S σ H env M) (h : F a = none) (hgf : Gh.f a = none) : Rel K F S σ H env M ∧ ∀ ds, Reps K S ds xs → NewAt K F S σ H env M a ds := by
  obtain ⟨h1, h2, h3⟩ := R.c.fr a _ upd_same
  refine ⟨⟨⟨R.c.same, fun b o e => ?_, R.c.mem⟩, R.len, R.val, fun i ds e => ?_, R.dis, R.g.drop hgf⟩, fun ds r => ⟨⟨xs, h1, r⟩, h2, h3, h, fun j es hj e => ?_⟩⟩
  · have hb : b ≠ a := fun z => by rw [z, h] at e; cases e
    exact R.c.fr b o (by rw [upd_ne hb]; exact e)
  · obtain ⟨b, zs, e1, e2, e3, e4, e5, r⟩ := R.own i ds e
    have hb : b ≠ a := fun z => by rw [z, upd_same] at e5; cases e5
    exact ⟨b, zs, e1, e2, e3, e4, by rw [upd_ne hb] at e5; exact e5, r⟩
  · obtain ⟨b, zs, e1, _, _, _, e5, _⟩ := R.own j es hj
    rw [e] at e1
    cases e1
    rw [upd_same] at e5
    cases e5
end
section
variable {X : Cx}
/-- what a comprehension's reading asks, from the lifted one -/
theorem lift_lc {wi : DTI} {g : DTG} {tt : DTT} {te : DT} {vs : List Nat} {σ : L2.St} {H : Hp} {Q : VK} (h : LN X.K (dLc wi g tt te vs) σ H Q) : tLc (LI X.K wi) (LGw X.K vs g) (LT X.K tt) (LE X.K te) vs σ H Q := by
  obtain ⟨F, S, env, M, Qd, R, t, p⟩ := h
  refine ⟨F, S, env, M, _, R, t, fun J H1 S1 env1 M1 items s1 R1 w q => ?_⟩
  obtain ⟨hown, q⟩ := q
  intro D hD
  have fD : F D = none := R1.c.ffree hD
  refine ⟨fun i m H' => m = items.length - i ∧ i ≤ items.length ∧ ∃ S' be M' av acc, Same S1 S' ∧ Rel X.K (upd F D (.lst av)) S' (wipe σ vs) H' be M' ∧ Reps X.K S' acc av ∧ lcW g tt te vs (items.drop i) acc be M' (fun ys be M2 => Qd ys (unw env1 be vs) M2),
    ⟨items.length, by simp, Nat.zero_le _, S1, wipeD env1 vs, M1, [], [], Same.refl _, (R1.frAdd (xs := []) hD).wipes vs, trivial, by rw [List.drop_zero]; exact q⟩, ?_⟩
  rintro i m H2 ⟨rfl, hi, S2, be, M2, av, acc, s2, R2, ra, q2⟩
  by_cases hlt : i < items.length
  · refine .inr ⟨w.go i H2 S2 hlt s2 R2.c.same, _, fun H' z => ⟨items.length - (i + 1), by omega, z⟩, fun x H3 y => ?_⟩
    have ed : items.drop i = items[i] :: items.drop (i + 1) := List.drop_eq_getElem_cons hlt
    rw [ed] at q2
    have hd : items[i]? = some items[i] := by simp [hlt]
    have fin : ∀ S3, Same S2 S3 → Rel X.K (upd F D (.lst av)) S3 (wipe σ vs) H3 be M2 → Rep X.K S3 items[i] x → LGw X.K vs g x (wipe σ vs) H3 fun σ2 H2 => wipe σ2 vs = wipe σ vs ∧ LT X.K tt σ2 H2 fun b H3 =>
        if b = true then LE X.K te σ2 H3 fun y H4 => ∃ acc, H4 D = some (.lst acc) ∧ acc.length < sizeLine ∧ (items.length - (i + 1) = items.length - (i + 1) ∧ i + 1 ≤ items.length ∧ ∃ S' be M' av acc', Same S1 S' ∧ Rel X.K (upd F D (.lst av)) S' (wipe σ vs) (upd H4 D (.lst (acc ++ [y]))) be M' ∧ Reps X.K S' acc' av ∧ lcW g tt te vs (items.drop (i + 1)) acc' be M' (fun ys be M2 => Qd ys (unw env1 be vs) M2))
        else (items.length - (i + 1) = items.length - (i + 1) ∧ i + 1 ≤ items.length ∧ ∃ S' be M' av acc', Same S1 S' ∧ Rel X.K (upd F D (.lst av)) S' (wipe σ vs) H3 be M' ∧ Reps X.K S' acc' av ∧ lcW g tt te vs (items.drop (i + 1)) acc' be M' (fun ys be M2 => Qd ys (unw env1 be vs) M2)) := fun S3 s3 R3 r3 => by
      have ww : wipe (wipe σ vs) vs = wipe σ vs := wipe_wipe vs fun _ z => z
      refine ⟨_, S3, be, M2, items[i], _, R3, r3, q2, fun σ4 H4 S4 env4 M4 s4 R4 w4 q4 => ⟨w4.trans ww, _, S4, env4, M4, _, R4, q4, fun b H5 S5 env5 M5 s5 R5 q5 => ?_⟩⟩
      have sx := s2.trans (s3.trans (s4.trans s5))
      cases b with
      | true =>
        refine ⟨_, S5, env5, M5, _, R5, q5, fun v H6 S6 env6 M6 d s6 R6 r6 q6 => ?_⟩
        have e6 := (R6.c.fr D _ upd_same).1
        have el : acc.length = av.length := ra.length
        have R7 : Rel X.K (upd F D (.lst (av ++ [v]))) S6 (wipe σ vs) (upd H6 D (.lst (av ++ [v]))) (wipeD env6 vs) M6 := by
          have z := (R6.frSet (ys := av ++ [v]) (R1.g.no fD)).wipes vs
          rw [w4, ww] at z
          exact z
        exact ⟨av, e6, by rw [← el]; exact q6.1, rfl, hlt, S6, wipeD env6 vs, M6, av ++ [v], acc ++ [d], sx.trans s6, R7, (ra.mono (s3.trans (s4.trans (s5.trans s6)))).append ⟨r6, trivial⟩, q6.2⟩
      | false =>
        have R7 : Rel X.K (upd F D (.lst av)) S5 (wipe σ vs) H5 (wipeD env5 vs) M5 := by
          have z := R5.wipes vs
          rw [w4, ww] at z
          exact z
        exact ⟨rfl, hlt, S5, wipeD env5 vs, M5, av, acc, sx, R7, ra.mono (s3.trans (s4.trans s5)), q5⟩
    rcases w.yld i items[i] x H2 H3 S2 hd s2 R2.c.same y with ⟨rfl, r⟩ | ⟨p1, o, hp1, rfl, r⟩
    · exact fin S2 (Same.refl _) R2 r
    · obtain ⟨R3, s3⟩ := R2.new (o := o) hp1
      exact fin _ s3 R3 r
  · obtain rfl : i = items.length := by omega
    rw [List.drop_length] at q2
    refine .inl ⟨w.stop H2 S2 s2 R2.c.same, ?_⟩
    obtain ⟨R3, nw⟩ := R2.frDrop fD (R1.g.no fD)
    have R4 : Rel X.K F S2 σ H2 (unw env1 be vs) M2 := by
      have z := Rel.restores R1 s2 R3 (wipe_length σ vs).symm vs hown
      rw [restoreS_wipe] at z
      exact z
    have n := nw acc ra
    refine p D H2 S2 _ M2 acc (s1.trans s2) R4 ⟨n.ex, n.s, n.m, n.f, fun j es hj e => ?_⟩ q2
    obtain ⟨b, zs, e1, e2, _, _, _, _⟩ := R4.own j es hj
    rw [e] at e1
    cases e1
    -- an own list of the def stands apart from the new one
    obtain ⟨h1, h2, h3⟩ := R2.c.fr D _ upd_same
    by_cases hm : j ∈ vs
    · have hj1 : look env1 j = .own es ∨ True := .inr trivial
      have key : ∀ us : List Nat, j ∈ us → us.all (fun v => notOwn (look env1 v)) = true → look (unw env1 be us) j ≠ .own es := fun us => by
        induction us with
        | nil => intro z; cases z
        | cons u us ih =>
          intro z ha
          simp only [List.all_cons, Bool.and_eq_true] at ha
          unfold unw
          by_cases e : u = j
          · subst e
            by_cases hl : u < (unw env1 be us).length
            · rw [look_put_same hl]
              intro y
              rw [y] at ha
              cases ha.1
            · intro y
              have := look_lt y (fun z => by cases z)
              rw [put_length] at this
              exact hl this
          · rw [look_put_ne e]
            exact ih ((List.mem_cons.mp z).resolve_left (Ne.symm e)) ha.2
      exact key vs hm hown hj
    · have key : ∀ us : List Nat, j ∉ us → look (unw env1 be us) j = look be j := fun us => by
        induction us with
        | nil => intro _; rfl
        | cons u us ih =>
          intro z
          unfold unw
          rw [look_put_ne (fun y => z (by rw [y]; exact List.mem_cons_self)), ih fun y => z (List.mem_cons_of_mem _ y)]
      rw [key vs hm] at hj
      obtain ⟨b, zs, f1, _, _, _, f5, _⟩ := R2.own j es hj
      rw [wipe_get hm, e] at f1
      cases f1
      rw [upd_same] at f5
      cases f5
@[reducible] def ownIx : List (Str × Nat) → List Nat
  | [] => []
  | q :: r => q.2 :: ownIx r
theorem ownIx_eq (own : List (Str × Nat)) : ownIx own = own.map (·.2) := by
  induction own with
  | nil => rfl
  | cons q r ih => rw [ownIx, ih, List.map_cons]
/-- tests of a comprehension -/
@[reducible] def dTrue : DTT := fun env M Q => Q true env M
theorem ts_nil : PTs X [] (LT X.K dTrue) := ⟨fun pins s σ H Q I ⟨F, S, env, M, Qd, R, t, p⟩ => (pts_nil (X := X)).run pins s σ H Q I (p true H S env M (Same.refl _) R t)⟩
variable {elt tg iter : Expr} {ifs : List Expr} {scope : Scope} {own : List (Str × Nat)} {pos spos : Pos} {wi : DTI} {g : DTG} {tt : DTT} {te : DT}
theorem s_setLc {i : Nat} {y : Str} {py : Pos} (hc : X.calm = true) (hN : X.N.Nodup) (hy : X.N[i]? = some y) (hyl : X.env.scope.names.lookup y = some .local)
    (hsw : swapsWith (.ListComp elt [⟨tg, iter, ifs, 0⟩] scope pos) (some (.Name y py)) spos.line X.env = pure true) (hi : DI X tg iter wi) (ok : BlkOk X.N X.env.scope scope own)
    (hg : ∀ (s : Shared) (H : Hp) (C : Addr) (cl : List (Str × Addr)) (fp : List Addr), DGw (X.blk s H scope (compEnvC scope cl C X.env) fp) (ownIx own) tg g) (ht : ∀ (s : Shared) (H : Hp) (C : Addr) (cl : List (Str × Addr)) (fp : List Addr), PTs (X.blk s H scope (compEnvC scope cl C X.env) fp) ifs (LT X.K tt))
    (he : ∀ (s : Shared) (H : Hp) (C : Addr) (cl : List (Str × Addr)) (fp : List Addr), DE (X.blk s H scope (compEnvC scope cl C X.env) fp) elt te) (hs : ∀ x, foldedSetIterable iter X.env x = pure x := by intro _; rfl) :
    DS X (.Assign [.Name y py] (.ListComp elt [⟨tg, iter, ifs, 0⟩] scope pos) spos) (sSetN (dLc wi g tt te (ownIx own)) i) := by
  rw [ownIx_eq own] at hg ⊢
  exact ps_imp (ps_setLc (own := own) (g := LGw X.K (own.map (fun q : Str × Nat => q.2)) g) (tt := LT X.K tt) (te := LE X.K te) hc hN hy hyl hsw hi ok hg ht he hs) fun D σ H ⟨F, S, env, M, Ed, R, t, p⟩ =>
    show tLc (LI X.K wi) (LGw X.K (own.map (fun q : Str × Nat => q.2)) g) (LT X.K tt) (LE X.K te) (own.map (fun q : Str × Nat => q.2)) σ H (fun x H1 => gName i x σ H1 D.nx) from lift_lc ⟨F, S, env, M, _, R, t, fun a H' S' env' M' ds s' R' n q => by
      obtain ⟨xs, e1, r⟩ := n.ex
      exact p.nx _ H' S' _ M' s' (R'.storeOwn e1 n.s n.m n.f r fun j es hj _ => n.o j es hj) q⟩
end
end DL
set_option Elab.async false
set_option linter.all false
set_option maxRecDepth 100000
set_option maxHeartbeats 1000000
/-! DL5: lists that grow, tuples of targets, dicts, isinstance, a def's promise by its body. -/
namespace DL
open PySem PySem.Spec PyProof.Rows L2
variable [Gh]

/-! ### xs.append(e), xs.extend(e): xs a list of one's own -/
section
variable {X : Cx} {e : Expr} {te : DT} {pos apos cpos npos : Pos}
theorem pv_own {K : PySem.W.Frag} {F S H : Hp} {σ : L2.St} {env : Ev} {M : Mem} {i : Nat} {ds : List D} (R : Rel K F S σ H env M) (h : look env i = .own ds) : ∃ a xs, σ[i]? = some (some (.ref a)) ∧ H a = some (.lst xs) ∧ Reps K S ds xs := by
  obtain ⟨a, xs, e1, e2, _, _, _, r⟩ := R.own i ds h
  exact ⟨a, xs, e1, e2, r⟩
/-- the list grows -/
theorem Rel.grow1 {K : PySem.W.Frag} {F S H : Hp} {σ : L2.St} {env : Ev} {M : Mem} {i : Nat} {ds es : List D} {a : Addr} {ys : List V} (R : Rel K F S σ H env M) (h : look env i = .own ds) (e : σ[i]? = some (some (.ref a))) (r : Reps K S es ys) : Rel K F S σ (upd H a (.lst ys)) (put env i (.own es)) M := by
  obtain ⟨b, xs, e1, e2, e3, e4, e5, _⟩ := R.own i ds h
  rw [e] at e1
  cases e1
  have hi : i < env.length := look_lt h (fun z => by cases z)
  have c : RelC K F S (upd H a (.lst ys)) M := by
    refine ⟨fun b o q => ?_, fun b o q => ?_, fun b o q => ?_⟩
    · rw [upd_ne (fun z => by rw [z, e3] at q; cases q)]; exact R.c.same b o q
    · have hb : b ≠ a := fun z => by rw [z, e5] at q; cases q
      rw [upd_ne hb]
      exact R.c.fr b o q
    · have hb : b ≠ a := fun z => by rw [z, e4] at q; cases q
      exact ⟨(R.c.mem b o q).1, (R.c.mem b o q).2.mono (Same.refl _) (upd_ne hb)⟩
  refine ⟨c, by rw [put_length]; exact R.len, fun j d q => ?_, fun j fs q => ?_, fun j k b fs gs n q1 q2 eb => ?_, R.g⟩
  · have hj : i ≠ j := fun z => by subst z; rw [look_put_same hi] at q; cases q
    rw [look_put_ne hj] at q
    exact R.val j d q
  · by_cases hj : i = j
    · subst hj
      rw [look_put_same hi] at q
      cases q
      exact ⟨a, ys, e, upd_same, e3, e4, e5, r⟩
    · rw [look_put_ne hj] at q
      obtain ⟨b, zs, f1, f2, f3⟩ := R.own j fs q
      have hb : b ≠ a := fun z => by rw [z] at f1; exact R.dis i j a ds fs hj h q e f1
      exact ⟨b, zs, f1, by rw [upd_ne hb]; exact f2, f3⟩
  · have look' : ∀ j fs, look (put env i (.own es)) j = .own fs → ∃ gs, look env j = .own gs := fun j fs q => by
      by_cases hj : i = j
      · subst hj; exact ⟨ds, h⟩
      · rw [look_put_ne hj] at q; exact ⟨fs, q⟩
    obtain ⟨fs', q1'⟩ := look' j fs q1
    obtain ⟨gs', q2'⟩ := look' k gs q2
    exact R.dis j k b fs' gs' n q1' q2' eb
@[reducible] def sApp (i : Nat) (te : DT) : DTS := fun E env M => match look env i with
  | .own _ => te env M fun d env1 M1 => (match look env1 i with
    | .own ds => ds.length < sizeLine ∧ E.nx (put env1 i (.own (ds ++ [d]))) M1
    | _ => False)
  | _ => False
theorem s_append (i : Nat) {x : Str} (he : DE X e te) (hN : X.N[i]? = some x := by rfl) (hv : Vis X.env.scope x := by first | exact Or.inl rfl | exact Or.inr (Or.inl rfl) | exact Or.inr (Or.inr rfl)) (hd : (x == ("__debug__" : Str)) = false := by decide) (hcd : (x == ("__classdict__" : Str)) = false := by decide)
    (hs : swapsWith (.Call (.Attribute (.Name x npos) "append" apos) [e] [] cpos) none pos.line X.env = pure false := by rfl)
    (hbase : attributeBase (.Name x npos) "append" X.env (eval (.Name x npos) X.env) = eval (.Name x npos) X.env := by rfl)
    (hfew : ((backTo cpos (starEach [e] X.env)).all (fun x => !x.1) && (backToKw cpos (keywordEach [] X.env)).all (fun x => x.1.isSome) && decide ([e].length + ([] : List Keyword).length + (if ([] : List Keyword).isEmpty then 0 else 1) < 30)) = true := by rfl)
    (hline : (apos.endLine == cpos.line) = true := by rfl) (hst : starEach [e] X.env = (false, eval e X.env) :: starEach [] X.env := by rfl) :
    DS X (.Expr (.Call (.Attribute (.Name x npos) "append" apos) [e] [] cpos) pos) (sApp i te) := by
  refine ps_imp (ps_expr (pe_bm PySem.F.plainAttrs_list PySem.F.slot_list_append PySem.F.type_list_append mt_append (pv i hN hv hd hcd) (pa_cons he pa_nil hst) hbase hfew hline hst rfl) hs) fun D σ H ⟨F, S, env, M, Ed, R, t, p⟩ => ?_
  unfold sApp at t
  cases hl : look env i with
  | own ds0 =>
    simp only [hl] at t
    obtain ⟨a, xs0, e1, e2, _⟩ := pv_own R hl
    refine ⟨_, e1, .inl ⟨rfl, _, SqL.of e2⟩, F, S, env, M, _, R, t, fun v H' S' env' M' d s' R' r q => ?_⟩
    cases hl' : look env' i with
    | own ds =>
      simp only [hl'] at q
      obtain ⟨b, xs, f1, f2, rs⟩ := pv_own R' hl'
      rw [e1] at f1
      cases f1
      exact ⟨a, xs, v, rfl, rfl, f2, by rw [← rs.length]; exact q.1, p.nx σ _ S' _ M' s' (R'.grow1 hl' e1 (rs.append (show Reps X.K S' [d] [v] from ⟨r, trivial⟩))) q.2⟩
    | val _ => simp only [hl'] at q
    | no => simp only [hl'] at q
  | val _ => simp only [hl] at t
  | no => simp only [hl] at t
end

/-! ### a, b = x, y: each a value or a new list -/
inductive RSl (K : PySem.W.Frag) (F S : Hp) (σ : L2.St) (H : Hp) (env : Ev) (M : Mem) : Sl → V → Prop where
  | val {d : D} {v : V} (r : Rep K S d v) : RSl K F S σ H env M (.val d) v
  | own {ds : List D} {a : Addr} (n : NewAt K F S σ H env M a ds) : RSl K F S σ H env M (.own ds) (.ref a)
section
variable {K : PySem.W.Frag} {F S H : Hp} {M : Mem} {σ : L2.St} {env : Ev}
theorem Rel.storeSl (R : Rel K F S σ H env M) {i : Nat} {s : Sl} {v : V} (r : RSl K F S σ H env M s v) : Rel K F S (σ.set i (some v)) H (put env i s) M := by
  cases r with
  | val r => exact R.store r
  | own n =>
    obtain ⟨xs, e1, r⟩ := n.ex
    exact R.storeOwn e1 n.s n.m n.f r fun j es hj _ => n.o j es hj
end
/-- two expressions, each a value (false) or a new list (true) -/
inductive EK where
  | v (t : DT) | n (t : DTN)
def ekK (K : PySem.W.Frag) : EK → TE
  | .v t => LE K t
  | .n t => LN K t
@[reducible] def ekRun : EK → Ev → Mem → (Sl → Ev → Mem → Prop) → Prop
  | .v t, env, M, Q => t env M fun d env1 M1 => Q (.val d) env1 M1
  | .n t, env, M, Q => t env M fun ds env1 M1 => Q (.own ds) env1 M1
theorem ek_lift {K : PySem.W.Frag} {F S H : Hp} {M : Mem} {σ : L2.St} {env : Ev} {k : EK} {Qd : Sl → Ev → Mem → Prop} {Q : VK} (R : Rel K F S σ H env M) (t : ekRun k env M Qd)
    (p : ∀ v H' S' env' M' s, Same S S' → Rel K F S' σ H' env' M' → RSl K F S' σ H' env' M' s v → Qd s env' M' → Q v H') : ekK K k σ H Q := by
  cases k with
  | v t1 => exact ⟨F, S, env, M, _, R, t, fun v H' S' env' M' d s' R' r q => p v H' S' env' M' (.val d) s' R' (.val r) q⟩
  | n t1 => exact ⟨F, S, env, M, _, R, t, fun a H' S' env' M' ds s' R' n q => p (.ref a) H' S' env' M' (.own ds) s' R' (.own n) q⟩
/-- while a first one waits -/
theorem ek_lift2 {K : PySem.W.Frag} {F S H : Hp} {M : Mem} {σ : L2.St} {env : Ev} {k : EK} {s1 : Sl} {v1 : V} {Qd : Sl → Ev → Mem → Prop} {Q : VK} (R : Rel K F S σ H env M) (r1 : RSl K F S σ H env M s1 v1) (t : ekRun k env M Qd)
    (p : ∀ v H' S' env' M' s, Same S S' → Rel K F S' σ H' env' M' → RSl K F S' σ H' env' M' s1 v1 → RSl K F S' σ H' env' M' s v → (∀ a, s1 = .own a → ∀ b, s = .own b → v ≠ v1) → Qd s env' M' → Q v H') : ekK K k σ H Q := by
  cases r1 with
  | val r => exact ek_lift R t fun v H' S' env' M' s s' R' r' q => p v H' S' env' M' s s' R' (.val (r.mono s')) r' (fun a z => by cases z) q
  | @own ds a n =>
    obtain ⟨xs, e1, rs⟩ := n.ex
    refine ek_lift (F := upd F a (.lst xs)) (NewAt.keep R n e1) t fun v H' S' env' M' s s' R' r' q => ?_
    obtain ⟨R2, nw⟩ := R'.frDrop n.f (R.g.no n.f)
    have n2 := nw ds (rs.mono s')
    have r2 : RSl K F S' σ H' env' M' s v := by
      cases r' with
      | val r => exact .val r
      | @own es b m =>
        have hb : b ≠ a := fun z => by have := m.f; rw [z, upd_same] at this; cases this
        exact .own ⟨m.ex, m.s, m.m, by have := m.f; rw [upd_ne hb] at this; exact this, m.o⟩
    refine p v H' S' env' M' s s' R2 (.own n2) r2 (fun _ _ b hb hv => ?_) q
    cases r' with
    | val _ => cases hb
    | @own es b' m =>
      cases hv
      have := m.f
      rw [upd_same] at this
      cases this
section
variable {X : Cx} {a b c : Expr} {pos px py pz pt : Pos} {kt k2 : Nat} {pt2 : Pos}
theorem Rel.storeSl2 {K : PySem.W.Frag} {F S H : Hp} {M : Mem} {σ : L2.St} {env : Ev} (R : Rel K F S σ H env M) {i j : Nat} {s t : Sl} {v u : V} (r : RSl K F S σ H env M s v) (q : RSl K F S σ H env M t u) (hv : ∀ a, s = .own a → ∀ b, t = .own b → u ≠ v) : Rel K F S ((σ.set i (some v)).set j (some u)) H (put (put env i s) j t) M := by
  have R1 := R.storeSl (i := i) r
  refine R1.storeSl ?_
  cases q with
  | val q => exact .val q
  | @own ds b n =>
    refine .own ⟨n.ex, n.s, n.m, n.f, fun k es hk e => ?_⟩
    by_cases z : i = k
    · subst z
      have hi : i < env.length := by have := look_lt hk (fun z => by cases z); rwa [put_length] at this
      rw [look_put_same hi] at hk
      subst hk
      rw [List.getElem?_set_self (by rw [← R.len]; exact hi)] at e
      exact hv es rfl ds rfl (Option.some.inj (Option.some.inj e)).symm
    · rw [look_put_ne z] at hk
      rw [List.getElem?_set_ne z] at e
      exact n.o k es hk e
/-- a, b = x, y; plain local names -/
@[reducible] def sPar (i j : Nat) (ka kb : EK) : DTS := fun E env M => ekRun ka env M fun s env1 M1 => ekRun kb env1 M1 fun t env2 M2 => E.nx (put (put env2 i s) j t) M2
theorem s_par {i j : Nat} {x y : Str} {ka kb : EK} (hc : X.calm = true) (hN : X.N.Nodup) (ha : PE X a (ekK X.K ka)) (hb : PE X b (ekK X.K kb)) (hi : X.N[i]? = some x := by rfl) (hj : X.N[j]? = some y := by rfl) (hij : i ≠ j := by decide)
    (hx : X.env.scope.names.lookup x = some .local := by rfl) (hy : X.env.scope.names.lookup y = some .local := by rfl)
    (hw : swappedStores [.Tuple [.Name x px, .Name y py] kt pt] (.Tuple [a, b] k2 pt2) X.env = pure (some [x, y]) := by rfl)
    (hs : swapsWithSole [.Tuple [.Name x px, .Name y py] kt pt] (.Tuple [a, b] k2 pt2) pos.line X.env = pure false := by rfl)
    (ht : starEach [a, b] X.env = (false, eval a X.env) :: starEach [b] X.env := by rfl) (ht2 : starEach [b] X.env = (false, eval b X.env) :: starEach [] X.env := by rfl) :
    DS X (.Assign [.Tuple [.Name x px, .Name y py] kt pt] (.Tuple [a, b] k2 pt2) pos) (sPar i j ka kb) :=
  ps_imp (ps_par hc hN hi hj hij hx hy (pa_cons ha (pa_cons hb pa_nil ht2) ht) hw hs) fun D σ H ⟨F, S, env, M, Ed, R, t, p⟩ =>
    ek_lift R t fun v H1 S1 env1 M1 s s1 R1 r1 q1 => ek_lift2 R1 r1 q1 fun u H2 S2 env2 M2 t2 s2 R2 r1' r2 hv q2 => ⟨v, u, rfl, p.nx _ H2 S2 _ M2 (s1.trans s2) (R2.storeSl2 r1' r2 hv) q2⟩
/-- a, b, c = x, y, z: the first two values -/
@[reducible] def sPar3 (i j l : Nat) (ta tb : DT) (kc : EK) : DTS := fun E env M => ta env M fun d env1 M1 => tb env1 M1 fun e env2 M2 => ekRun kc env2 M2 fun s env3 M3 => E.nx (put (put (put env3 i (.val d)) j (.val e)) l s) M3
theorem s_par3 {i j l : Nat} {x y z : Str} {ta tb : DT} {kc : EK} (hc : X.calm = true) (hN : X.N.Nodup) (ha : DE X a ta) (hb : DE X b tb) (hcc : PE X c (ekK X.K kc)) (hi : X.N[i]? = some x := by rfl) (hj : X.N[j]? = some y := by rfl) (hl : X.N[l]? = some z := by rfl) (hij : i ≠ j := by decide) (hil : i ≠ l := by decide) (hjl : j ≠ l := by decide)
    (hx : X.env.scope.names.lookup x = some .local := by rfl) (hy : X.env.scope.names.lookup y = some .local := by rfl) (hz : X.env.scope.names.lookup z = some .local := by rfl)
    (hw : swappedStores [.Tuple [.Name x px, .Name y py, .Name z pz] kt pt] (.Tuple [a, b, c] k2 pt2) X.env = pure (some [x, y, z]) := by rfl)
    (hs : swapsWithSole [.Tuple [.Name x px, .Name y py, .Name z pz] kt pt] (.Tuple [a, b, c] k2 pt2) pos.line X.env = pure false := by rfl)
    (ht : starEach [a, b, c] X.env = (false, eval a X.env) :: starEach [b, c] X.env := by rfl) (ht2 : starEach [b, c] X.env = (false, eval b X.env) :: starEach [c] X.env := by rfl) (ht3 : starEach [c] X.env = (false, eval c X.env) :: starEach [] X.env := by rfl) :
    DS X (.Assign [.Tuple [.Name x px, .Name y py, .Name z pz] kt pt] (.Tuple [a, b, c] k2 pt2) pos) (sPar3 i j l ta tb kc) :=
  ps_imp (ps_par3 hc hN hi hj hl hij hil hjl hx hy hz (pa_cons ha (pa_cons hb (pa_cons hcc pa_nil ht3) ht2) ht) hw hs) fun D σ H ⟨F, S, env, M, Ed, R, t, p⟩ =>
    ⟨F, S, env, M, _, R, t, fun v H1 S1 env1 M1 d s1 R1 r1 q1 => ⟨F, S1, env1, M1, _, R1, q1, fun u H2 S2 env2 M2 e s2 R2 r2 q2 => ek_lift R2 q2 fun w H3 S3 env3 M3 s s3 R3 r3 q3 => ⟨v, u, w, rfl, by
      have Q1 := R3.store (i := i) (r1.mono (s2.trans s3))
      have Q2 := Q1.store (i := j) (r2.mono s3)
      refine p.nx _ H3 S3 _ M3 ((s1.trans s2).trans s3) (Q2.storeSl ?_) q3
      cases r3 with
      | val r => exact .val r
      | @own ds b n =>
        refine .own ⟨n.ex, n.s, n.m, n.f, fun k es hk e => ?_⟩
        have k1 : j ≠ k := fun z => by
          subst z
          have hi : j < (put env3 i (.val d)).length := by have := look_lt hk (fun z => by cases z); rwa [put_length] at this
          rw [look_put_same hi] at hk
          cases hk
        rw [look_put_ne k1] at hk
        rw [List.getElem?_set_ne k1] at e
        have k0 : i ≠ k := fun z => by
          subst z
          have hi : i < env3.length := by have := look_lt hk (fun z => by cases z); rwa [put_length] at this
          rw [look_put_same hi] at hk
          cases hk
        rw [look_put_ne k0] at hk
        rw [List.getElem?_set_ne k0] at e
        exact n.o k es hk e⟩⟩⟩
end

/-! ### a list of one's own, read -/
section
variable {X : Cx} {e : Expr} {te : DT} {pos npos : Pos} {x : Str}
@[reducible] def dNeO (i : Nat) (te : DT) : DT := fun env M Q => match look env i with
  | .own _ => te env M fun d env1 M1 => (match look env1 i with
    | .own ds => okEq (.lst ds) ∧ okEq d ∧ Q (.bl (nb (deq (.lst ds) d))) env1 M1
    | _ => False)
  | _ => False
theorem d_neO {k : Nat} (hr : Room k X.A) (i : Nat) (he : DE X e te) (hN : X.N[i]? = some x := by rfl) (hv : Vis X.env.scope x := by first | exact Or.inl rfl | exact Or.inr (Or.inl rfl) | exact Or.inr (Or.inr rfl)) (hd : (x == ("__debug__" : Str)) = false := by decide) (hcd : (x == ("__classdict__" : Str)) = false := by decide) :
    DE X (.Compare (.Name x npos) [.NotEq] [e] pos) (dNeO i te) := by
  refine pe_imp (pe_cmpR (op_neD hr.units) (pv i hN hv hd hcd) he (nomark _)) fun σ H Q ⟨F, S, env, M, Qd, R, t, p⟩ => ?_
  unfold dNeO at t
  cases hl : look env i with
  | own ds0 =>
    simp only [hl] at t
    obtain ⟨a, xs0, e1, e2, _⟩ := pv_own R hl
    refine ⟨_, e1, F, S, env, M, _, R, t, fun v H' S' env' M' d s' R' r q => ?_⟩
    cases hl' : look env' i with
    | own ds =>
      simp only [hl'] at q
      obtain ⟨b, xs, f1, f2, rs⟩ := pv_own R' hl'
      rw [e1] at f1
      cases f1
      obtain ⟨h1, h2, q⟩ := q
      refine ⟨pd (.lst ds), pd d, ?_, Dp.mono R'.c.same (r.dp h2.1), h1.shaped, h2.shaped, p _ H' S' env' M' (.bl (nb (deq (.lst ds) d))) s' R' (congrArg V.bl (nb_eq _).symm) q⟩
      exact .lst (.of f2) (DpAll.mono R'.c.same (rs.dp (by simpa [isData] using h1.1)))
    | val _ => simp only [hl'] at q
    | no => simp only [hl'] at q
  | val _ => simp only [hl] at t
  | no => simp only [hl] at t
/-- len(xs) -/
@[reducible] def dLenO (i : Nat) : DT := fun env M Q => match look env i with
  | .own ds => Q (.int ds.length) env M
  | _ => False
theorem d_lenO {p : Pos} (i : Nat) (hg : Gl X "len") (hm : X.mg "len" = none) (hN : X.N[i]? = some x := by rfl) (hv : Vis X.env.scope x := by first | exact Or.inl rfl | exact Or.inr (Or.inl rfl) | exact Or.inr (Or.inr rfl)) (hd : (x == ("__debug__" : Str)) = false := by decide) (hcd : (x == ("__classdict__" : Str)) = false := by decide)
    (hst : starEach [Expr.Name x npos] X.env = (false, eval (.Name x npos) X.env) :: starEach [] X.env := by rfl) (hpl : (backTo pos (starEach [] X.env)).any (·.1) = false := by rfl) :
    DE X (.Call (.Name "len" p) [.Name x npos] [] pos) (dLenO i) := by
  refine pe_imp (pe_callB call_len_seq hg hm PySem.boot_len (pa_cons (pv i hN hv hd hcd) pa_nil hst) (by decide) (by decide) hst hpl) fun σ H Q ⟨F, S, env, M, Qd, R, t, p⟩ => ?_
  unfold dLenO at t
  cases hl : look env i with
  | own ds =>
    simp only [hl] at t
    obtain ⟨a, xs, e1, e2, rs⟩ := pv_own R hl
    refine ⟨_, e1, a, xs, rfl, .inl (SqL.of e2), ?_⟩
    rw [← rs.length]
    exact p _ H S env M (.int _) (Same.refl _) R rfl t
  | val _ => simp only [hl] at t
  | no => simp only [hl] at t
/-- xs[e] -/
@[reducible] def dIxO (i : Nat) (te : DT) : DT := fun env M Q => match look env i with
  | .own _ => te env M fun d env1 M1 => (match look env1 i, d with
    | .own ds, .int j => (match atI ds j with
      | some r => Q r env1 M1
      | none => False)
    | _, _ => False)
  | _ => False
theorem d_ixO (i : Nat) (he : DE X e te) (hN : X.N[i]? = some x := by rfl) (hv : Vis X.env.scope x := by first | exact Or.inl rfl | exact Or.inr (Or.inl rfl) | exact Or.inr (Or.inr rfl)) (hd : (x == ("__debug__" : Str)) = false := by decide) (hcd : (x == ("__classdict__" : Str)) = false := by decide)
    (hs : PlainIx e := by exact fun _ _ => rfl) : DE X (.Subscript (.Name x npos) e pos) (dIxO i te) := by
  refine pe_imp (pe_ix ix_list (pv i hN hv hd hcd) he hs) fun σ H Q ⟨F, S, env, M, Qd, R, t, p⟩ => ?_
  unfold dIxO at t
  cases hl : look env i with
  | own ds0 =>
    simp only [hl] at t
    obtain ⟨a, xs0, e1, e2, _⟩ := pv_own R hl
    refine ⟨_, e1, F, S, env, M, _, R, t, fun v H' S' env' M' d s' R' r q => ?_⟩
    cases hl' : look env' i with
    | own ds =>
      cases d with
      | int j =>
        cases r
        simp only [hl'] at q
        obtain ⟨b, xs, f1, f2, rs⟩ := pv_own R' hl'
        rw [e1] at f1
        cases f1
        cases hj : atI ds j with
        | none => simp only [hj] at q
        | some y =>
          simp only [hj] at q
          obtain ⟨u, g1, g2⟩ := reps_atI rs hj
          exact ⟨a, xs, j, u, rfl, rfl, SqL.of f2, g1, p u H' S' env' M' y s' R' g2 q⟩
      | _ => simp only [hl'] at q
    | val _ => simp only [hl'] at q
    | no => simp only [hl'] at q
  | val _ => simp only [hl] at t
  | no => simp only [hl] at t
end

/-! ### dicts with written keys -/
@[reducible] def keyD : D → Option Key
  | .int i => some (.inl i)
  | .str s => some (.inr s)
  | _ => none
section
variable {K : PySem.W.Frag} {S : Hp}
theorem keyD_kV {d : D} {v : V} {k : Key} (r : Rep K S d v) (h : keyD d = some k) : v = kV k := by
  cases d with
  | int i => cases h; exact r
  | str s => cases h; exact r
  | _ => cases h
theorem kget_valV {k : Key} {d : D} : ∀ {ks : List Key} {ds : List D} {xs : List V}, Reps K S ds xs → kget k ks ds = some d → ∃ v, valV (ks.zip xs) k = some v ∧ Rep K S d v
  | [], _, _, _, e => by cases e
  | _ :: _, [], [], _, e => by cases e
  | k' :: ks, d' :: ds, x :: xs, h, e => by
    unfold kget at e
    by_cases hk : k' = k
    · rw [if_pos hk] at e
      cases e
      exact ⟨x, by rw [List.zip_cons_cons, valV_pos (p := (k', x)) hk], h.1⟩
    · rw [if_neg hk] at e
      obtain ⟨v, e1, r⟩ := kget_valV h.2 e
      exact ⟨v, by rw [List.zip_cons_cons, valV_neg (p := (k', x)) hk, e1], r⟩
  | _ :: _, [], _ :: _, h, _ => h.elim
  | _ :: _, _ :: _, [], h, _ => h.elim
theorem zip_any {k : Key} : ∀ {ks : List Key} {xs : List V}, xs.length = ks.length → ((ks.zip xs).any fun kv => decide (kv.1 = k)) = ks.any fun k' => decide (k' = k)
  | [], [], _ => rfl
  | k' :: ks, x :: xs, h => by
    rw [List.zip_cons_cons, List.any_cons, List.any_cons, zip_any (Nat.succ.inj h)]
  | [], _ :: _, h => by cases h
  | _ :: _, [], h => by cases h
theorem putK_zip {k : Key} {v : V} {ks : List Key} {xs : List V} (h : xs.length = ks.length) : putK (ks.zip xs) k v = (kputN k ks).zip (kputD k v ks xs) ∧ (kputD k v ks xs).length = (kputN k ks).length := by
  unfold putK kputN kputD
  rw [zip_any h]
  by_cases e : (ks.any fun k' => decide (k' = k)) = true
  · rw [if_pos e, if_pos e, if_pos e]
    refine ⟨?_, by rw [List.length_zipWith, h, Nat.min_self]⟩
    clear e
    induction ks generalizing xs with
    | nil => rfl
    | cons k' ks ih =>
      cases xs with
      | nil => cases h
      | cons x xs =>
        rw [List.zip_cons_cons, List.map_cons, List.zipWith_cons_cons, List.zip_cons_cons, ih (Nat.succ.inj h)]
        by_cases q : k' = k
        · rw [if_pos q, if_pos q]
        · rw [if_neg q, if_neg q]
  · rw [if_neg e, if_neg e, if_neg e]
    refine ⟨?_, by rw [List.length_append, List.length_append, h]; rfl⟩
    rw [List.zip_append h.symm]
    rfl
theorem reps_kput {k : Key} {d : D} {v : V} (r : Rep K S d v) {ks : List Key} {ds : List D} {xs : List V} (h : Reps K S ds xs) : Reps K S (kputD k d ks ds) (kputD k v ks xs) := by
  unfold kputD
  by_cases e : (ks.any fun k' => decide (k' = k)) = true
  · rw [if_pos e, if_pos e]
    clear e
    induction ks generalizing ds xs with
    | nil => trivial
    | cons k' ks ih =>
      cases ds with
      | nil => cases xs with
        | nil => trivial
        | cons _ _ => exact h.elim
      | cons d' ds => cases xs with
        | nil => exact h.elim
        | cons x xs =>
          rw [List.zipWith_cons_cons, List.zipWith_cons_cons]
          refine ⟨?_, ih h.2⟩
          by_cases q : k' = k
          · rw [if_pos q, if_pos q]; exact r
          · rw [if_neg q, if_neg q]; exact h.1
  · rw [if_neg e, if_neg e]
    exact h.append (show Reps K S [d] [v] from ⟨r, trivial⟩)
end
section
variable {X : Cx} {o i value : Expr} {td ty tv : DT} {pos pos' : Pos}
/-- d[k] -/
@[reducible] def dDGet (td ty : DT) : DT := fun env M Q => td env M fun d env1 M1 => ty env1 M1 fun y env2 M2 => match d, keyD y with
  | .ref a, some k => (match M2 a with
    | some (.dK ks ds) => (match kget k ks ds with
      | some r => Q r env2 M2
      | none => False)
    | _ => False)
  | _, _ => False
theorem d_dget (hu : X.A.units + 1 < cLine) (ho : DE X o td) (hi : DE X i ty) (hs : NoSl i := by exact fun _ _ => rfl) : DE X (.Subscript o i pos) (dDGet td ty) := by
  refine pe_imp (pe_dget hu ho hi hs) fun σ H Q ⟨F, S, env, M, Qd, R, t, p⟩ => ⟨F, S, env, M, _, R, t, fun v H1 S1 env1 M1 d s1 R1 r1 q1 => ⟨F, S1, env1, M1, _, R1, q1, fun u H2 S2 env2 M2 y s2 R2 r2 q2 => ?_⟩⟩
  cases d with
  | ref a =>
    cases r1
    cases hk : keyD y with
    | none => simp only [hk] at q2
    | some k =>
      simp only [hk] at q2
      cases e : M2 a with
      | none => simp only [e] at q2
      | some m =>
        cases m with
        | dK ks ds =>
          simp only [e] at q2
          obtain ⟨xs, e1, l, rx⟩ := (R2.c.mem a _ e).2
          cases hg : kget k ks ds with
          | none => simp only [hg] at q2
          | some z =>
            simp only [hg] at q2
            obtain ⟨w, g1, g2⟩ := kget_valV rx hg
            refine ⟨a, w, rfl, ?_, p w H2 S2 env2 M2 z (s1.trans s2) R2 g2 q2⟩
            rw [← g1, keyD_kV r2 hk]
            exact DGet.k e1
        | _ => simp only [e] at q2
  | _ => exact q2.elim
/-- d[k] = v -/
@[reducible] def sDPutD (td ty tv : DT) : DTS := fun E env M => tv env M fun v env1 M1 => td env1 M1 fun d env2 M2 => ty env2 M2 fun y env3 M3 => match d, keyD y with
  | .ref a, some k => (match M3 a with
    | some (.dK ks ds) => ks.length < sizeLine ∧ E.nx env3 (mset M3 a (.dK (kputN k ks) (kputD k v ks ds)))
    | _ => False)
  | _, _ => False
theorem s_dput (hu : X.A.units + 1 < cLine) (ho : DE X o td) (hi : DE X i ty) (hv : DE X value tv) (hs : swapsWith value (some (.Subscript o i pos')) pos.line X.env = pure false := by rfl) : DS X (.Assign [.Subscript o i pos'] value pos) (sDPutD td ty tv) := by
  refine ps_imp (ps_dput hu ho hi hv hs) fun D σ H ⟨F, S, env, M, Ed, R, t, p⟩ => ⟨F, S, env, M, _, R, t, fun v H1 S1 env1 M1 dv s1 R1 r1 q1 => ⟨F, S1, env1, M1, _, R1, q1, fun u H2 S2 env2 M2 d s2 R2 r2 q2 => ⟨F, S2, env2, M2, _, R2, q2, fun w H3 S3 env3 M3 y s3 R3 r3 q3 => ?_⟩⟩⟩
  cases d with
  | ref a =>
    cases r2
    cases hk : keyD y with
    | none => simp only [hk] at q3
    | some k =>
      simp only [hk] at q3
      cases e : M3 a with
      | none => simp only [e] at q3
      | some m =>
        cases m with
        | dK ks ds =>
          simp only [e] at q3
          obtain ⟨xs, e1, l, rx⟩ := (R3.c.mem a _ e).2
          have z := putK_zip (k := k) (v := v) l
          refine ⟨a, _, rfl, by rw [keyD_kV r3 hk]; exact DPut.k e1 (by rw [List.length_zip, l, Nat.min_self]; exact q3.1), ?_⟩
          rw [z.1]
          exact p.nx σ _ S3 env3 _ (s1.trans (s2.trans s3)) (R3.setM (m' := .dK (kputN k ks) (kputD k dv ks ds)) e ⟨_, upd_same, z.2, reps_kput (r1.mono (s2.trans s3)) rx⟩) q3.2
        | _ => simp only [e] at q3
  | _ => exact q3.elim
end

/-! ### isinstance -/
structure ClsIs (K : PySem.W.Frag) (C : Addr) : Prop where
  cl : Cls K C
  ha : PySem.W.findIn K (.ref C) "__class__" = some (some (.builtin "object.__class__"))
  hn : PySem.W.specialIn K (.builtin "object.__class__") "__get__" = some (some (.builtin "getset_descriptor.__get__"))
  htk : PySem.W.takesIn K (.builtin "object.__class__") = some true
  hm : PySem.W.mroIn K C (.type "object") = some true
def TyD (K : PySem.W.Frag) : D → Value → Prop
  | .non, t => t = .type "NoneType"
  | .bl _, t => t = .type "bool"
  | .int _, t => t = .type "int"
  | .str _, t => t = .type "str"
  | .tup _, t => t = .type "tuple"
  | .lst _, t => t = .type "list"
  | .obj C _ _, t => t = .ref C ∧ ClsIs K C
  | _, _ => False
theorem tyX_of {K : PySem.W.Frag} {S H : Hp} {d : D} {v : V} {t : Value} (ss : Same S H) (r : Rep K S d v) (h : TyD K d t) : TyX K H v t := by
  cases d with
  | non => cases r; rw [show t = _ from h]; exact .base .non
  | bl b => cases r; rw [show t = _ from h]; exact .base (.bl b)
  | int i => cases r; rw [show t = _ from h]; exact .base (.int i)
  | str s => cases r; rw [show t = _ from h]; exact .base (.str s)
  | tup ds =>
    obtain ⟨a, xs, rfl, q, _⟩ := r
    rw [show t = _ from h]
    rcases DL.Same.tup ss q with (q | ⟨o, q⟩) | ⟨o, its, n, q, c, _⟩
    · exact .base (.tup q)
    · exact .fTuple q
    · exact .kTuple q c
  | lst ds =>
    obtain ⟨a, xs, rfl, q, _⟩ := r
    rw [show t = _ from h]
    exact .base (.lst (ss _ _ q))
  | obj C ns ds =>
    obtain ⟨a, dx, xs, rfl, q, _⟩ := r
    obtain ⟨rfl, c⟩ := h
    exact .base (.ins (ss _ _ q) c.cl c.ha c.hn c.htk c.hm)
  | _ => exact h.elim
def clsU : D → Option Value
  | .ty n => some (.type n)
  | .ref C => some (.ref C)
  | _ => none
def IsI (K : PySem.W.Frag) (d c : D) (b : Bool) : Prop := ∃ t u, TyD K d t ∧ clsU c = some u ∧ PySem.W.kitOne K t u = some b
@[reducible] def rdIsi (K : PySem.W.Frag) : RDA := fun ds env M Q => match ds with
  | [d, c] => ∃ b, IsI K d c b ∧ Q (.bl b) env M
  | _ => False
theorem cd_isi {X : Cx} : CallD X (.builtin "isinstance") (rdIsi X.K) := by
  refine ⟨⟨_, call_isi, fun F S σ H env M xs ds Qd Q R r q p => ?_⟩⟩
  unfold rdIsi at q
  split at q
  · rename_i d c
    obtain ⟨v, u, rfl, r1, r2⟩ := r.two
    obtain ⟨b, ⟨t, w, h1, h2, h3⟩, q⟩ := q
    refine ⟨v, u, t, w, b, rfl, ?_, tyX_of R.c.same r1 h1, h3, p _ H S env M (.bl b) (Same.refl _) R rfl q⟩
    cases c with
    | ty n => cases h2; cases r2; exact .ty n
    | ref C => cases h2; cases r2; exact .own C
    | _ => cases h2
  · exact q.elim

/-! ### sum -/
/-! ### a def's promise by its body -/
@[reducible] def startD (N : List Str) (ds : List D) : Ev := ds.map Sl.val ++ List.replicate (N.length - ds.length) .no
theorem look_map : ∀ {ds : List D} {r : Ev} {i : Nat} {d : D}, look (ds.map Sl.val ++ List.replicate n .no) i = .val d → ds[i]? = some d
  | [], r, i, d, h => by
    have key : ∀ (n i : Nat), look (List.replicate n Sl.no) i = .no := fun n => by
      induction n with
      | zero => intro i; rfl
      | succ n ih => intro i; cases i with
        | zero => rfl
        | succ i => exact ih i
    rw [List.map_nil, List.nil_append, key] at h
    cases h
  | d' :: ds, r, 0, d, h => by
    have e : Sl.val d' = .val d := h
    cases e
    rfl
  | d' :: ds, r, i + 1, d, h => by
    have h' : look (ds.map Sl.val ++ List.replicate n .no) i = .val d := h
    simpa using look_map (r := r) h'
theorem look_start_own : ∀ {ds : List D} {n i : Nat} {es : List D}, look (ds.map Sl.val ++ List.replicate n .no) i ≠ .own es
  | [], n, i, es => by
    have key : ∀ (n i : Nat), look (List.replicate n Sl.no) i = .no := fun n => by
      induction n with
      | zero => intro i; rfl
      | succ n ih => intro i; cases i with
        | zero => rfl
        | succ i => exact ih i
    rw [List.map_nil, List.nil_append, key]
    intro z
    cases z
  | _ :: _, n, 0, es => fun z => by cases z
  | _ :: ds, n, i + 1, es => fun z => look_start_own (ds := ds) (n := n) (i := i) (es := es) z
theorem rel_start {K : PySem.W.Frag} {F S H : Hp} {M : Mem} {N : List Str} {ds : List D} {vs : List V} (c : RelC K F S H M) (r : Reps K S ds vs) (g : GhOk F S) : Rel K F S (L2.start N vs) H (startD N ds) M := by
  have l := r.length
  refine ⟨c, ?_, fun i d e => ?_, fun i es e => absurd e look_start_own, fun i j a es fs n q1 => absurd q1 look_start_own, g⟩
  · unfold startD L2.start
    rw [List.length_append, List.length_append, List.length_map, List.length_map, List.length_replicate, List.length_replicate, l]
  · have e1 := look_map (r := []) e
    obtain ⟨v, e2, rv⟩ := r.get e1
    refine ⟨v, ?_, rv⟩
    have hi : i < vs.length := (List.getElem?_eq_some_iff.mp e2).1
    unfold L2.start
    rw [List.getElem?_append_left (by rw [List.length_map]; exact hi), List.getElem?_map, e2]
    rfl
end DL
namespace DL
open PySem PySem.Spec PyProof.Rows L2
section
variable {P : Program} {w : World} {K : PySem.W.Frag} {mg : Str → Option Value} {base : Heap} {x qual : Str} {params : Arguments} {body : List Stmt} {scope : Scope} {dvs : List V} {kws : List (Str × V)} {f : Addr} {fd : FuncData}
/-- THE RULE: a def that lets no exception out -/
theorem okD {N ps : List Str} {k : Nat} {sp : DSp} (G : FunD K x qual params body scope dvs kws f fd) (S : FnScope N ps scope) (len : ∀ ds M Q E, sp ds M Q E → ds.length = ps.length)
    (hbody : ∀ (cdv : Value) (A : Around) (outer : List Env) (s : Shared) (H : Hp) (E : XK), Room k (A.deeper (envOfC qual scope s.heap.objs.size f cdv)) →
      ∃ t, DSs (cxOf CX0 P w K mg base N qual scope f cdv A outer s H E).nox body t ∧ ∀ ds M Q Ed, sp ds M Q Ed → t { nx := fun _ M' => Q .non M', rt := Q } (startD N ds) M) : FnOk P w K mg base CX0 (k + 1) f fd ps (LSp K sp) := by
  refine G.ok S (fun vs H Q E ⟨F, S, ds, M, Qd, Ed, c, r, q, p, px⟩ => by rw [← r.length]; exact len _ _ _ _ q) fun cdv A outer s H vs Q E hr h => ?_
  obtain ⟨t, ht, hq⟩ := hbody cdv A outer s H E hr
  refine ⟨_, PSs.nox ht, ?_⟩
  obtain ⟨F, S, ds, M, Qd, Ed, c, r, q, p, px⟩ := h
  exact ⟨F, S, startD N ds, M, _, rel_start c r ghOk0, hq ds M Qd Ed q, ⟨fun σ H' S' env' M' s' R' q' => p .non H' S' M' .non s' R'.c rfl q', fun v H' S' M' d s' c' r' q' => p v H' S' M' d s' c' r' q', fun _ _ _ _ _ _ _ z => z.elim, fun _ _ _ _ _ _ _ z => z.elim⟩⟩
end
end DL
set_option Elab.async false
set_option linter.all false
set_option maxRecDepth 100000
set_option maxHeartbeats 1000000
/-! DL6: a def as its callers see it; a class that is made; the script's pen. -/
namespace DL
open PySem PySem.Spec PyProof.Rows L2
variable [Gh]

section
variable {X : Cx} {k : Nat} {ps : List Str} {sp : DSp} {x : Str} {p pos : Pos} {e : Expr} {es : List Expr} {t : DTA}
theorem d_callF (h : Fn X.prog X.w X.K X.mg X.base k x ps sp) (hr : Room k X.A) (ha : DA X (e :: es) t) (hg : Gl X x := by rfl) (hdb : (x == ("__debug__" : Str)) = false := by decide) (he : starEach (e :: es) X.env = (false, eval e X.env) :: starEach es X.env := by rfl) (hpl : (backTo pos (starEach es X.env)).any (·.1) = false := by rfl) :
    DE X (.Call (.Name x p) (e :: es) [] pos) (dCall sp [] t) := by
  obtain ⟨f, fd, G, hm, hk, hb⟩ := h.ex
  exact d_call G hr hg hm hk hb .nil (fun _ => trivial) pass0 ha hdb he hpl
end
/-- a class of things that never change: C(..) -/
structure Cl (P : Program) (w : World) (K : PySem.W.Frag) (mg : Str → Option Value) (base : Heap) (k : Nat) (x : Str) (C : Addr) (ps : List Str) (g : List D → Option (List Str × List D)) : Prop where
  ex : ∃ f fd, FnOk P w K mg base CX0 k f fd ps (LSp K (spInit C g)) ∧ Mk K C f ∧ mg x = some (.ref C) ∧ Binds K fd ps []
section
variable {X : Cx} {k : Nat} {ps : List Str} {C : Addr} {g : List D → Option (List Str × List D)} {x : Str} {p pos : Pos} {e : Expr} {es : List Expr} {t : DTA}
theorem d_makeC (h : Cl X.prog X.w X.K X.mg X.base k x C ps g) (hr : Room (k + 1) X.A) (ha : DA X (e :: es) t) (hg : Gl X x := by rfl) (hdb : (x == ("__debug__" : Str)) = false := by decide) (he : starEach (e :: es) X.env = (false, eval e X.env) :: starEach es X.env := by rfl) (hpl : (backTo pos (starEach es X.env)).any (·.1) = false := by rfl) :
    DE X (.Call (.Name x p) (e :: es) [] pos) (dMake C g [] t) := by
  obtain ⟨f, fd, G, mk, hm, hb⟩ := h.ex
  exact d_make mk G hr hg hm hb .nil (fun _ => trivial) pass0 ha hdb he hpl
theorem d_makeC0 (h : Cl X.prog X.w X.K X.mg X.base k x C ps g) (hr : Room (k + 1) X.A) (hg : Gl X x := by rfl) (hdb : (x == ("__debug__" : Str)) = false := by decide) : DE X (.Call (.Name x p) [] [] pos) (dMake C g [] dNil) := by
  obtain ⟨f, fd, G, mk, hm, hb⟩ := h.ex
  exact d_make0 mk G hr hg hm hb .nil (fun _ => trivial) pass0 hdb
end
section
variable {X : Cx} {e : Expr} {te : DT} {pos npos : Pos} {x : Str}
end

/-! ### the pen: a dict of the law's own that draws numbers from the script -/
/-- a draw: a number below m; at most n draws were done -/
def spDraw : DSp := fun ds M Q _ => ∃ p m n o, ds = [.ref p, .int m] ∧ 0 < m ∧ m < 2 ^ 30 ∧ n < 2 ^ 40 ∧ M p = some o ∧ PenO o n ∧ ∀ k o', 0 ≤ k → k < m → PenO o' (n + 1) → Q (.int k) (mset M p o')
end DL
namespace DL
open PySem PySem.Spec PyProof.Rows L2
variable [Gh]
theorem deq_nil (ds : List D) : deq (.lst ds) (.lst []) = ds.isEmpty := by
  cases ds with
  | nil => rfl
  | cons _ _ => rfl
theorem areData_ints (c : List Int) : areData (c.map D.int) = true := by
  induction c with
  | nil => rfl
  | cons _ _ ih => simp only [List.map_cons, areData, isData, ih, Bool.and_self]
theorem depDs_ints (c : List Int) : depDs (c.map D.int) = 0 := by
  induction c with
  | nil => rfl
  | cons _ _ ih => simp only [List.map_cons, depDs, depD, ih, Nat.max_self]
theorem okEq_ints (c : List Int) : okEq (.lst (c.map D.int)) := ⟨by simp only [isData, areData_ints], by simp only [depD, depDs_ints]; decide⟩
theorem okEq_nil : okEq (.lst []) := ⟨rfl, by decide⟩
theorem atI_of {α : Type} {ds : List α} {i : Int} (h0 : 0 ≤ i) (h1 : i < ds.length) : atI ds i = ds[i.toNat]? ∧ ∃ r, ds[i.toNat]? = some r := by
  have hn : i.toNat < ds.length := by omega
  refine ⟨?_, ds[i.toNat], by simp [hn]⟩
  unfold atI ixN
  rw [if_pos h0, if_pos h1]
  rfl
theorem atI_ints {c : List Int} {i : Int} (h0 : 0 ≤ i) (h1 : i < c.length) : ∃ x, atI (c.map D.int) i = some (.int x) := by
  obtain ⟨e, r, hr⟩ := atI_of (ds := c.map D.int) h0 (by rw [List.length_map]; exact h1)
  rw [List.getElem?_map] at hr e
  cases q : c[i.toNat]? with
  | none => rw [q] at hr; cases hr
  | some x => rw [q] at e; exact ⟨x, e⟩
end DL
namespace DL
open PySem PySem.Spec PyProof.Rows L2
variable [Gh]
/-- a def of the text as it stands behind the top -/
structure DefAt (K : PySem.W.Frag) (mg : Str → Option Value) (x : Str) (ps : List Str) (st : Stmt) : Prop where
  ex : ∃ f fd, FunD K x x (defArgs st) (defBody st) (defScope st) [] [] f fd ∧ mg x = some (.ref f) ∧ PySem.W.keepIn K (.ref f) = true ∧ Binds K fd ps []
end DL
namespace DL
open PySem PySem.Spec PyProof.Rows L2
theorem okF {P : Program} {w : World} {K : PySem.W.Frag} {mg : Str → Option Value} {base : Heap} {x : Str} {st : Stmt} {N ps : List Str} {k : Nat} {sp : DSp} (G : DefAt K mg x ps st) (S : FnScope N ps (defScope st)) (len : ∀ ds M Q E, sp ds M Q E → ds.length = ps.length)
    (hbody : ∀ (f : Addr) (cdv : Value) (A : Around) (outer : List Env) (s : Shared) (H : Hp) (E : XK), Room k (A.deeper (envOfC x (defScope st) s.heap.objs.size f cdv)) →
      ∃ t, DSs (cxOf CX0 P w K mg base N x (defScope st) f cdv A outer s H E).nox (defBody st) t ∧ ∀ ds M Q Ed, sp ds M Q Ed → t { nx := fun _ M' => Q .non M', rt := Q } (startD N ds) M) : Fn P w K mg base (k + 1) x ps sp := by
  obtain ⟨f, fd, F, hm, hk, hb⟩ := G.ex
  exact ⟨⟨f, fd, okD F S len (hbody f), hm, hk, hb⟩⟩
end DL
namespace DL
/-- the built-in names are still built-in ones -/
structure TxtP (mg : PySem.Str → Option PySem.Value) : Prop where
  z_len : mg "len" = none
  z_int : mg "int" = none
  z_list : mg "list" = none
  z_range : mg "range" = none
  z_min : mg "min" = none
  z_max : mg "max" = none
  z_sum : mg "sum" = none
  z_isinstance : mg "isinstance" = none
  z_tuple : mg "tuple" = none
  z_set : mg "set" = none
  z_sorted : mg "sorted" = none
  z_str : mg "str" = none
  z_enumerate : mg "enumerate" = none
  z_reversed : mg "reversed" = none
  z_all : mg "all" = none
  z_any : mg "any" = none
  z_divmod : mg "divmod" = none
  z_dict : mg "dict" = none
  z_super : mg "super" = none
  z_iter : mg "iter" = none
  z_zip : mg "zip" = none
  z_bool : mg "bool" = none
  z_abs : mg "abs" = none
  z_type : mg "type" = none
end DL
set_option Elab.async false
set_option linter.all false
set_option maxRecDepth 100000
set_option maxHeartbeats 1000000
/-! DL7: loops by induction; the pen made; ways as data. -/
namespace DL
open PySem PySem.Spec PyProof.Rows L2
variable [Gh]

/-! ### loops -/
theorem forW_ind {g : DTG} {tb : DTS} {E : DEnds} (Inv : List D → Ev → Mem → Prop) (h0 : ∀ env M, Inv [] env M → E.nx env M)
    (hs : ∀ d r, (∀ env M, Inv r env M → forW g tb E r env M) → ∀ env M, Inv (d :: r) env M → g d env M fun e1 M1 => tb { E with nx := forW g tb E r, ct := forW g tb E r, bk := E.nx } e1 M1) :
    ∀ items env M, Inv items env M → forW g tb E items env M
  | [], env, M, h => h0 env M h
  | d :: r, env, M, h => hs d r (fun env M h => forW_ind Inv h0 hs r env M h) env M h
theorem rngD_succ (lo : Int) (n : Nat) : rngD lo (n + 1) = .int lo :: rngD (lo + 1) n := by
  unfold rngD
  rw [List.range_succ_eq_map, List.map_cons, List.map_map]
  congr 1
  · show D.int (lo + ((0 : Nat) : Int)) = D.int lo
    rw [Int.natCast_zero, Int.add_zero]
  · refine List.map_congr_left fun k _ => ?_
    show D.int (lo + ((k + 1 : Nat) : Int)) = D.int (lo + 1 + (k : Int))
    congr 1
    omega
theorem rngD_zero (lo : Int) : rngD lo 0 = [] := rfl
/-- for i in range(lo, lo + n): Inv i ahead of turn i -/
theorem forW_rng {g : DTG} {tb : DTS} {E : DEnds} (Inv : Int → Ev → Mem → Prop) : ∀ (n : Nat) (lo : Int) (h0 : ∀ env M, Inv (lo + n) env M → E.nx env M)
    (hs : ∀ (i : Int) (R : Ev → Mem → Prop), lo ≤ i → i < lo + n → (∀ env M, Inv (i + 1) env M → R env M) → ∀ env M, Inv i env M → g (.int i) env M fun e1 M1 => tb { E with nx := R, ct := R, bk := E.nx } e1 M1) (env : Ev) (M : Mem), Inv lo env M → forW g tb E (rngD lo n) env M
  | 0, lo, h0, hs, env, M, h => by
    rw [rngD_zero]
    exact h0 env M (by rw [Int.natCast_zero, Int.add_zero]; exact h)
  | n + 1, lo, h0, hs, env, M, h => by
    rw [rngD_succ]
    refine hs lo _ (Int.le_refl _) (by omega) (fun env M h => ?_) env M h
    refine forW_rng Inv n (lo + 1) (fun env M h => h0 env M ?_) (fun i R h1 h2 => hs i R (by omega) (by omega)) env M h
    have e : lo + 1 + (n : Int) = lo + ((n + 1 : Nat) : Int) := by omega
    rw [← e]
    exact h
theorem while_ind {c : DTT} {tb : DTS} {E : DEnds} (Inv : Nat → Ev → Mem → Prop)
    (hs : ∀ (m : Nat) (R : Ev → Mem → Prop), (∀ m' env M, m' < m → Inv m' env M → R env M) → ∀ env M, Inv m env M → c env M fun b e1 M1 => match b with
      | true => tb { E with nx := R, ct := R, bk := E.nx } e1 M1
      | false => E.nx e1 M1) {m : Nat} {env : Ev} {M : Mem} (h : Inv m env M) : ∃ n, whW c tb E n env M := by
  have key : ∀ (n m : Nat) env M, m < n → Inv m env M → whW c tb E n env M := fun n => by
    induction n with
    | zero => intro m env M hm; exact absurd hm (Nat.not_lt_zero _)
    | succ n ih => intro m env M hm h; exact hs m (whW c tb E n) (fun m' env M hm' h' => ih m' env M (by omega) h') env M h
  exact ⟨m + 1, key (m + 1) m env M (Nat.lt_succ_self m) h⟩
/-! ### a def that is never called -/
theorem Fn.vac {P : Program} {w : World} {K : PySem.W.Frag} {mg : Str → Option Value} {base : Heap} {k : Nat} {x : Str} {ps : List Str} {st : Stmt} {sp : DSp} (G : DefAt K mg x ps st) (h : ∀ ds M Q E, ¬ sp ds M Q E) : Fn P w K mg base k x ps sp := by
  obtain ⟨f, fd, F, hm, hk, hb⟩ := G.ex
  exact ⟨⟨f, fd, ⟨fun vs H Q E ⟨_, _, ds, M, _, _, _, _, q, _⟩ => (h _ _ _ _ q).elim, fun A outer s H args us vs Q E _ _ _ _ ⟨_, _, ds, M, _, _, _, _, q, _⟩ => (h _ _ _ _ q).elim⟩, hm, hk, hb⟩⟩

/-! ### the pen is made -/
theorem merge3 {a b c : Key} (h1 : ¬ a = b) (h2 : ¬ a = c) (h3 : ¬ b = c) (x y z : V) : mergeK [] [(a, x), (b, y), (c, z)] = [(a, x), (b, y), (c, z)] := by
  simp [mergeK, putK, h1, h2, h3]
section
variable {X : Cx} {e1 e2 e3 : Expr} {t1 t2 t3 : DT} {p1 p2 p3 pos : Pos} {j1 j2 j3 : Nat}
def dPen (t1 t2 t3 : DT) : DT := fun env M Q => t1 env M fun d1 env1 M1 => t2 env1 M1 fun d2 env2 M2 => t3 env2 M2 fun d3 env3 M3 => ∀ p, M3 p = none → Q (.ref p) env3 (mset M3 p (.dK penK [d1, d2, d3]))
theorem Rel.frAny {K : PySem.W.Frag} {F S H : Hp} {M : Mem} {σ : L2.St} {env : Ev} {a : Addr} {o : HO} (R : Rel K F S σ H env M) (h : H a = none) : Rel K (upd F a o) S σ (upd H a o) env M := by
  have R1 : Rel K F S σ (upd H a o) env M := R.more fun b u e => by rw [upd_ne (ne_of_none e h)]; exact e
  refine ⟨⟨R1.c.same, fun b u e => ?_, R1.c.mem⟩, R.len, R.val, fun i ds e => ?_, R.dis, R.g.add (R.c.ffree h)⟩
  · by_cases hb : b = a
    · subst hb; rw [upd_same] at e ⊢; cases e; exact ⟨rfl, R.c.sfree h, R.c.mfree h⟩
    · rw [upd_ne hb] at e; exact R1.c.fr b u e
  · obtain ⟨b, zs, e1, e2, e3, e4, e5, r⟩ := R1.own i ds e
    have hb : b ≠ a := R.ownNe e1 ⟨ds, e⟩ h
    exact ⟨b, zs, e1, e2, e3, e4, by rw [upd_ne hb]; exact e5, r⟩
/-- a thing of the frame becomes a mutable one -/
theorem Rel.frTake {K : PySem.W.Frag} {F S H : Hp} {M : Mem} {σ : L2.St} {env : Ev} {a : Addr} {o u : HO} {m : MO} (R : Rel K (upd F a o) S σ H env M) (h : F a = none) (hgf : Gh.f a = none) (hm : MOk K S (upd H a u) a m) : Rel K F S σ (upd H a u) env (mset M a m) := by
  obtain ⟨h1, h2, h3⟩ := R.c.fr a _ upd_same
  refine ⟨⟨fun b v e => ?_, fun b v e => ?_, fun b v e => ?_⟩, R.len, R.val, fun i ds e => ?_, R.dis, R.g.drop hgf⟩
  · rw [upd_ne (fun z => by rw [z, h2] at e; cases e)]; exact R.c.same b v e
  · have hb : b ≠ a := fun z => by rw [z, h] at e; cases e
    obtain ⟨g1, g2, g3⟩ := R.c.fr b v (by rw [upd_ne hb]; exact e)
    exact ⟨by rw [upd_ne hb]; exact g1, g2, by rw [mset_ne hb]; exact g3⟩
  · by_cases hb : b = a
    · subst hb; rw [mset_same] at e; cases e; exact ⟨h2, hm⟩
    · rw [mset_ne hb] at e
      exact ⟨(R.c.mem b v e).1, (R.c.mem b v e).2.mono (Same.refl _) (upd_ne hb)⟩
  · obtain ⟨b, zs, e1, e2, e3, e4, e5, r⟩ := R.own i ds e
    have hb : b ≠ a := fun z => by rw [z, upd_same] at e5; cases e5
    exact ⟨b, zs, e1, by rw [upd_ne hb]; exact e2, e3, by rw [mset_ne hb]; exact e4, by rw [upd_ne hb] at e5; exact e5, r⟩
theorem d_pen (h1 : DE X e1 t1) (h2 : DE X e2 t2) (h3 : DE X e3 t3) :
    DE X (.Dict [some (.Constant (.str "cells") j1 p1), some (.Constant (.str "at") j2 p2), some (.Constant (.str "left") j3 p3)] [e1, e2, e3] pos) (dPen t1 t2 t3) := by
  refine pe_imp (pe_disp (pps_cons pe_str h1 (pps_cons pe_str h2 (pps_cons pe_str h3 pps_nil))) rfl rfl (fun z => by cases z) (by show 3 ≤ 15; decide)) fun σ H Q ⟨F, S, env, M, Qd, R, t, p⟩ a ha => ?_
  have fa := R.c.ffree ha
  have R0 := R.frAny (o := .dK []) ha
  refine ⟨_, S, env, M, _, R0, t, fun v1 H1 S1 env1 M1 d1 s1 R1 r1 q1 => ⟨_, S1, env1, M1, _, R1, q1, fun v2 H2 S2 env2 M2 d2 s2 R2 r2 q2 => ⟨_, S2, env2, M2, _, R2, q2, fun v3 H3 S3 env3 M3 d3 s3 R3 r3 q3 => ?_⟩⟩⟩
  obtain ⟨g1, g2, g3⟩ := R3.c.fr a _ upd_same
  refine ⟨g1, [(.inr "cells", v1), (.inr "at", v2), (.inr "left", v3)], rfl, by show 3 ≤ 15; decide, ?_⟩
  rw [merge3 sk_ca sk_cl sk_al]
  exact p _ _ S3 env3 _ (.ref a) (s1.trans (s2.trans s3)) (R3.frTake (m := .dK penK [d1, d2, d3]) fa (R.g.no fa) ⟨[v1, v2, v3], upd_same, rfl, ⟨r1.mono (s2.trans s3), r2.mono s3, r3, trivial⟩⟩) rfl (q3 a g3)
/-- list(xs) -/
@[reducible] def rdList : RDA := fun ds env M Q => match ds with
  | [d] => (match seqD d with
    | some es => Q (.lst es) env M
    | none => False)
  | _ => False
theorem cd_list : CallD X (.type "list") rdList := by
  refine ⟨⟨_, call_list_of (X := X), fun F S σ H env M xs ds Qd Q R r q p => ?_⟩⟩
  cases ds with
  | nil => exact q.elim
  | cons d rs =>
    cases rs with
    | cons _ _ => exact q.elim
    | nil =>
      obtain ⟨v, rfl, r1⟩ := r.one
      have q' : (match seqD d with
        | some es => Qd (.lst es) env M
        | none => False) := q
      cases he : seqD d with
      | none => rw [he] at q'; exact q'.elim
      | some es =>
        rw [he] at q'
        have q := q'
        obtain ⟨a, ys, rfl, h, t⟩ := rep_seq R.c.same he r1
        refine ⟨a, ys, rfl, h, fun l hl => ?_⟩
        obtain ⟨R', ss⟩ := R.new (o := .lst ys) hl
        exact p _ _ _ env M (.lst es) ss R' (rep_lst t (R.c.sfree hl)) q
/-- tuple(xs) -/
@[reducible] def rdTuple : RDA := fun ds env M Q => match ds with
  | [d] => (match seqD d with
    | some es => Q (.tup es) env M
    | none => False)
  | _ => False
theorem cd_tuple : CallD X (.type "tuple") rdTuple := by
  refine ⟨⟨_, call_tuple_of (X := X), fun F S σ H env M xs ds Qd Q R r q p => ?_⟩⟩
  cases ds with
  | nil => exact q.elim
  | cons d rs =>
    cases rs with
    | cons _ _ => exact q.elim
    | nil =>
      obtain ⟨v, rfl, r1⟩ := r.one
      cases d with
      | lst es =>
        obtain ⟨a, ys, rfl, h, t⟩ := r1
        refine ⟨a, ys, rfl, .inl ⟨.of (R.c.same _ _ h), fun l hl => ?_⟩⟩
        obtain ⟨R', ss⟩ := R.new (o := .tup ys) hl
        exact p _ _ _ env M (.tup es) ss R' (rep_tup t (R.c.sfree hl)) q
      | lstK es =>
        obtain ⟨a, ys, rfl, h, t⟩ := r1
        refine ⟨a, ys, rfl, .inl ⟨L2.Same.seq R.c.same h, fun l hl => ?_⟩⟩
        obtain ⟨R', ss⟩ := R.new (o := .tup ys) hl
        exact p _ _ _ env M (.tup es) ss R' (rep_tup t (R.c.sfree hl)) q
      | tup es =>
        obtain ⟨a, ys, rfl, h, t⟩ := r1
        exact ⟨a, ys, rfl, .inr ⟨DL.Same.tup R.c.same h, p _ H S env M (.tup es) (Same.refl _) R ⟨a, ys, rfl, h, t⟩ q⟩⟩
      | _ => exact q.elim
end
/-- the pen of a script -/
def spPen : DSp := fun ds M Q _ => ∃ ns : List Int, ds = [.lstK (ns.map D.int)] ∧ ns.length ≤ 63 ∧ ∀ p o, M p = none → PenO o 0 → Q (.ref p) (mset M p o)
/-- one of some things -/
def spPick : DSp := fun ds M Q _ => ∃ p it es n o, ds = [.ref p, it] ∧ itemsD it = some es ∧ 0 < es.length ∧ es.length < 1000000 ∧ n < 2 ^ 40 ∧ M p = some o ∧ PenO o n ∧ ∀ r o', r ∈ es → PenO o' (n + 1) → Q r (mset M p o')
end DL
set_option Elab.async false
set_option linter.all false
set_option maxRecDepth 100000
set_option maxHeartbeats 1000000
/-! DL8: texts as lists of signs; ways as data. -/
namespace DL
open PySem PySem.Spec PyProof.Rows L2
variable [Gh]

theorem mset_self {M : Mem} {a : Addr} {o : MO} (h : M a = some o) : mset M a o = M := by
  funext b
  unfold mset
  split
  · rename_i e; rw [e, h]
  · rfl
/-! ### texts -/
theorem tx_len (l : List Nat) : (tx l).length = l.length := rfl
theorem tx_cps (l : List Nat) : (tx l).cps.toList = l := rfl
theorem tx_add (a b : List Nat) : tx a ++ tx b = tx (a ++ b) := by
  show (⟨a.toArray ++ b.toArray⟩ : Str) = ⟨(a ++ b).toArray⟩
  congr 1
  simp
theorem tx_eta (z : Str) : tx z.cps.toList = z := by
  cases z
  rfl
theorem tx_inj {a b : List Nat} (h : tx a = tx b) : a = b := by
  have := congrArg (fun z : Str => z.cps.toList) h
  exact this
theorem tx_beq (a b : List Nat) : (tx a == tx b) = decide (a = b) := by
  by_cases h : a = b
  · rw [h, decide_eq_true rfl]; exact beq_self_eq_true _
  · rw [decide_eq_false h]
    exact beq_eq_false_iff_ne.mpr fun z => h (tx_inj z)
theorem cut_tx (l : List Nat) (lo hi : Option Int) : cutS (tx l) lo hi = tx ((l.drop (HT.sIx l.length 0 lo)).take (HT.sIx l.length l.length hi - HT.sIx l.length 0 lo)) := rfl
theorem cut_lo (l : List Nat) (k : Nat) : cutS (tx l) none (some (k : Int)) = tx (l.take k) := by
  rw [cut_tx, HT.sIx_none, HT.sIx_nat, List.drop_zero, Nat.sub_zero]
  congr 1
  rcases Nat.le_total k l.length with g | g
  · rw [Nat.min_eq_left g]
  · rw [Nat.min_eq_right g, List.take_of_length_le (Nat.le_refl _), List.take_of_length_le g]
theorem cut_hi (l : List Nat) (k : Nat) : cutS (tx l) (some (k : Int)) none = tx (l.drop k) := by
  rw [cut_tx, HT.sIx_none, HT.sIx_nat]
  congr 1
  rcases Nat.le_total k l.length with g | g
  · rw [Nat.min_eq_left g, List.take_of_length_le (by rw [List.length_drop]; omega)]
  · rw [Nat.min_eq_right g, Nat.sub_self, List.take_zero, List.drop_of_length_le g]
theorem cut_mid (l : List Nat) (j k : Nat) : cutS (tx l) (some (j : Int)) (some (k : Int)) = tx ((l.drop j).take (k - j)) := by
  rw [cut_tx, HT.sIx_nat, HT.sIx_nat]
  congr 1
  rcases Nat.le_total j l.length with g | g
  · rw [Nat.min_eq_left g]
    rcases Nat.le_total k l.length with g2 | g2
    · rw [Nat.min_eq_left g2]
    · rw [Nat.min_eq_right g2, List.take_of_length_le (by rw [List.length_drop]; omega), List.take_of_length_le (by rw [List.length_drop]; omega)]
  · rw [Nat.min_eq_right g, List.drop_of_length_le g, List.drop_of_length_le (Nat.le_refl _), List.take_nil, List.take_nil]
/-- t[k:k+1] -/
theorem cut_one (l : List Nat) (k : Nat) : cutS (tx l) (some (k : Int)) (some ((k : Int) + 1)) = tx (match l[k]? with
    | some c => [c]
    | none => []) := by
  have := cut_mid l k (k + 1)
  rw [show (((k + 1 : Nat) : Int)) = (k : Int) + 1 from by omega] at this
  rw [this, show k + 1 - k = 1 from by omega]
  congr 1
  cases h : l[k]? with
  | none =>
    rw [List.getElem?_eq_none_iff] at h
    rw [List.drop_of_length_le h, List.take_nil]
  | some c =>
    obtain ⟨h1, h2⟩ := List.getElem?_eq_some_iff.mp h
    rw [List.drop_eq_getElem_cons h1, h2]
    rfl
theorem strD_tx (l : List Nat) : strD (tx l) = l.map fun c => D.str (tx [c]) := rfl
theorem tx_letters : (("abcdefghijklmnopqrstuvwxyz" : String) : Str) = tx lettersN := by decide +kernel
theorem tx_empty : (("" : String) : Str) = tx [] := by decide +kernel
theorem letters_nodup : lettersN.Nodup := by decide +kernel
/-- different letters -/
def SignsOk (l : List Nat) : Prop := l.Nodup ∧ ∀ c ∈ l, c ∈ lettersN
/-- m different letters -/
def spSigns : DSp := fun ds M Q _ => ∃ p m n o, ds = [.ref p, .int (m : Nat)] ∧ m ≤ 26 ∧ n < 2 ^ 39 ∧ M p = some o ∧ PenO o n ∧ ∀ l o', l.length = m → SignsOk l → PenO o' (n + m) → Q (.str (tx l)) (mset M p o')
/-- of what is left, one is taken -/
theorem signs_step {a b : List Nat} {k c : Nat} (h : (a ++ b).Perm lettersN) (e : b[k]? = some c) : ((a ++ [c]) ++ (b.take k ++ b.drop (k + 1))).Perm lettersN := by
  obtain ⟨h1, h2⟩ := List.getElem?_eq_some_iff.mp e
  have e2 : b = b.take k ++ c :: b.drop (k + 1) := by
    rw [← h2, ← List.drop_eq_getElem_cons h1, List.take_append_drop]
  refine List.Perm.trans ?_ h
  rw [List.append_assoc]
  refine List.Perm.append_left a ?_
  conv => rhs; rw [e2]
  show (c :: (b.take k ++ b.drop (k + 1))).Perm _
  exact List.perm_middle.symm
theorem signs_ok {a b : List Nat} (h : (a ++ b).Perm lettersN) : SignsOk a :=
  ⟨(List.nodup_append.mp (h.nodup_iff.mpr letters_nodup)).1, fun c hc => h.mem_iff.mp (List.mem_append_left _ hc)⟩

/-! ### == of own lists -/
section
variable {X : Cx} {e : Expr} {te : DT} {pos npos : Pos} {x : Str}
@[reducible] def dEqO (i : Nat) (te : DT) : DT := fun env M Q => match look env i with
  | .own _ => te env M fun d env1 M1 => (match look env1 i with
    | .own ds => okEq (.lst ds) ∧ okEq d ∧ Q (.bl (deq (.lst ds) d)) env1 M1
    | _ => False)
  | _ => False
theorem d_teqO {k : Nat} (hr : Room k X.A) (i : Nat) (he : DE X e te) (hN : X.N[i]? = some x := by rfl) (hv : Vis X.env.scope x := by first | exact Or.inl rfl | exact Or.inr (Or.inl rfl) | exact Or.inr (Or.inr rfl)) (hd : (x == ("__debug__" : Str)) = false := by decide) (hcd : (x == ("__classdict__" : Str)) = false := by decide) :
    DTst X (.Compare (.Name x npos) [.Eq] [e] pos) (dTst (dEqO i te)) := by
  refine pt_imp (pt_cmpR (op_eqD hr.units) (pv i hN hv hd hcd) he (nomark _)) fun σ H Q ⟨F, S, env, M, Qd, R, t, p⟩ => ?_
  unfold dTst dEqO at t
  cases hl : look env i with
  | own ds0 =>
    simp only [hl] at t
    obtain ⟨a, xs0, e1, e2, _⟩ := pv_own R hl
    refine ⟨_, e1, F, S, env, M, _, R, t, fun v H' S' env' M' d s' R' r q => ?_⟩
    cases hl' : look env' i with
    | own ds =>
      simp only [hl'] at q
      obtain ⟨b, xs, f1, f2, rs⟩ := pv_own R' hl'
      rw [e1] at f1
      cases f1
      obtain ⟨h1, h2, q⟩ := q
      refine ⟨pd (.lst ds), pd d, ?_, Dp.mono R'.c.same (r.dp h2.1), h1.shaped, h2.shaped, _, rfl, p _ H' S' env' M' s' R' q⟩
      exact .lst (.of f2) (DpAll.mono R'.c.same (rs.dp (by simpa [isData] using h1.1)))
    | val _ => simp only [hl'] at q
    | no => simp only [hl'] at q
  | val _ => simp only [hl] at t
  | no => simp only [hl] at t
end

/-! ### == and in, of plain things -/
theorem eqF_str (a b : Str) : eqF (.str a) (.str b) = (a == b) := rfl

/-! ### ways as data -/
theorem WT.dOf_map (ws : List WT) : WT.dOf ws = ws.map WT.d := by
  induction ws with
  | nil => rfl
  | cons w ws ih => rw [WT.dOf, ih, List.map_cons]
theorem WT.dOf_append (a b : List WT) : WT.dOf (a ++ b) = WT.dOf a ++ WT.dOf b := by
  rw [WT.dOf_map, WT.dOf_map, WT.dOf_map, List.map_append]
theorem WT.size_pos (w : WT) : 1 ≤ w.size := by
  cases w <;> unfold WT.size <;> omega
theorem WT.sizes_append (a b : List WT) : WT.sizes (a ++ b) = WT.sizes a + WT.sizes b := by
  induction a with
  | nil => rw [List.nil_append, WT.sizes, Nat.zero_add]
  | cons w ws ih => rw [List.cons_append, WT.sizes, WT.sizes, ih, Nat.add_assoc]
theorem WT.sizes_snoc (a : List WT) (w : WT) : WT.sizes (a ++ [w]) = WT.sizes a + w.size := by
  rw [WT.sizes_append, WT.sizes, WT.sizes, Nat.add_zero]
theorem WT.oks_append {P : Str → Prop} {a b : List WT} (h1 : WT.oks P a) (h2 : WT.oks P b) : WT.oks P (a ++ b) := by
  induction a with
  | nil => exact h2
  | cons w ws ih => exact ⟨h1.1, ih h1.2⟩
theorem WT.sizes_mem {ws : List WT} {w : WT} (hw : w ∈ ws) : w.size ≤ WT.sizes ws := by
  induction ws with
  | nil => cases hw
  | cons v ws ih =>
    rw [WT.sizes]
    rcases List.mem_cons.mp hw with rfl | hw
    · omega
    · have := ih hw
      omega
theorem WT.sizes_length (ws : List WT) : ws.length ≤ WT.sizes ws := by
  induction ws with
  | nil => exact Nat.le_refl _
  | cons v ws ih =>
    rw [WT.sizes, List.length_cons]
    have := v.size_pos
    omega
/-- the sign of a leaf: one of the signs of a text -/
def Sgn (l : List Nat) (s : Str) : Prop := ∃ c ∈ l, s = tx [c]
theorem isData_of {l : List Nat} (hl : ∀ c ∈ l, c ∈ lettersN) {s : Str} (h : Sgn l s) : PyData.strOk s = true := by
  obtain ⟨c, hc, rfl⟩ := h
  have := (letters_iff c).mp (hl c hc)
  show ([c].toArray.all fun x => decide (x < 0x110000)) = true
  simp
  omega
mutual
theorem WT.dep : ∀ w : WT, depD w.d ≤ 2 * w.size
  | .nothing => by decide +kernel
  | .one => by decide +kernel
  | .letter s => by unfold WT.d WT.size; simp only [depD, depDs]; omega
  | .call s => by unfold WT.d WT.size; simp only [depD, depDs]; omega
  | .un k w => by
    have := WT.dep w
    unfold WT.d WT.size; simp only [depD, depDs]; omega
  | .many c ws => by
    have := WT.deps ws
    unfold WT.d WT.size; simp only [depD, depDs]; omega
theorem WT.deps : ∀ ws : List WT, depDs (WT.dOf ws) ≤ 2 * WT.sizes ws
  | [] => by decide
  | w :: ws => by
    have h1 := WT.dep w
    have h2 := WT.deps ws
    unfold WT.dOf WT.sizes; simp only [depDs]; omega
end
theorem WT.okEqs {P : Str → Prop} (hP : ∀ s, P s → PyData.strOk s = true) (ws : List WT) (h : WT.oks P ws) (hs : WT.sizes ws ≤ 30) : okEq (.lst (WT.dOf ws)) := by
  refine ⟨WT.datas hP ws h, ?_⟩
  have := WT.deps ws
  simp only [depD]
  omega
def spLeaf : DSp := fun ds M Q _ => ∃ p l n o, ds = [.ref p, .str (tx l)] ∧ 0 < l.length ∧ l.length < 1000 ∧ n < 2 ^ 39 ∧ M p = some o ∧ PenO o n ∧ ∀ (w : WT) (o' : MO), w.size = 1 → w.ok (Sgn l) → PenO o' (n + 2) → Q w.d (mset M p o')
def spWayOf (S : Nat) : DSp := fun ds M Q _ => ∃ (p : Addr) (l : List Nat) (m : Nat) (n : Int) (o : MO), ds = [.ref p, .str (tx l), .int (m : Nat)] ∧ 0 < m ∧ m ≤ S ∧ m ≤ 30 ∧ (∀ c ∈ l, c ∈ lettersN) ∧ 0 < l.length ∧ l.length < 1000 ∧ n + 4 * m < 2 ^ 38 ∧ M p = some o ∧ PenO o n ∧ ∀ (w : WT) (o' : MO), w.size = m → w.ok (Sgn l) → PenO o' (n + 4 * m - 2) → Q w.d (mset M p o')
def spWay (S : Nat) : DSp := fun ds M Q _ => ∃ (p : Addr) (l : List Nat) (m : Nat) (n : Int) (o : MO), ds = [.ref p, .str (tx l), .int (m : Nat)] ∧ 0 < m ∧ m ≤ S ∧ m ≤ 30 ∧ (∀ c ∈ l, c ∈ lettersN) ∧ 0 < l.length ∧ l.length < 1000 ∧ n < 2 ^ 37 ∧ M p = some o ∧ PenO o n ∧ ∀ (w : WT) (o' : MO), w.size ≤ m → w.ok (Sgn l) → PenO o' (n + 1 + 4 * m) → Q w.d (mset M p o')
def spInner : DSp := fun ds M Q _ => ∃ w : WT, ds = [w.d] ∧ Q (.lst (w.inner.map WT.d)) M
end DL
set_option Elab.async false
set_option linter.all false
set_option maxRecDepth 100000
set_option maxHeartbeats 1000000
/-! DL9: super().__init__(..) as a body's first line. -/
namespace DL
open PySem PySem.Spec PyProof.Rows L2
variable [Gh]

/-- what super().__init__ asks of the text's kept part -/
structure SupK (P : Program) (K : PySem.W.Frag) (cc cda D C f2 : Addr) (nm : Str) : Prop where
  code : ∃ ccl cdd vs ccs file tf, K.lookup cda = some ⟨ccl, cdd, .fields vs, ccs⟩ ∧ vs[2]? = some (.str file tf) ∧ ((P.main.file : Str) == file) = true
  cell : ∃ cl cld csl, K.lookup cc = some ⟨cl, cld, .cell (some (.ref D)), csl⟩
  cls : ∃ cdD, PySem.W.clsIn K D = some cdD
  sub : PySem.W.mroIn K C (.ref D) = some true
  find : PySem.W.ks_superIn K C D nm = some (some (.ref f2))
  ty : PySem.W.typeIn K (.ref f2) = some (.type "function")
  fi : PySem.W.fnIn K f2 = true
  st : PySem.W.nsIn K cStatics "thirdparty.any" = some none
  top : (P.main.scope.names.lookup ("super" : Str)).isSome = false
section
variable {X : Cx} {pins : List (Addr × Obj)} {σ : L2.St} {H : Hp} {s : Shared} {A : Around} {E : Value → Shared → Prop} {cc cda D C f f2 x dx : Addr} {nm : Str} {fs : List (Str × V)}
theorem sup_base {body : List Stmt} {p0 p1 : Pos} {attr : Str} {whole : Sem Value} {fo : Obj} {fd : FuncData} {ar : Arg} {Q : Value → Shared → Prop}
    (I : Inv X pins σ H s) (S : SupK X.prog X.K cc cda D C f2 nm) (hef : X.env.func = some f) (hlf : X.K.lookup f = some fo) (hfo : fo.data = .func fd) (hp : (fd.params.posonlyargs ++ fd.params.args).head? = some ar)
    (hcode : X.env.code = .ref cda) (hcells : X.env.cells.lookup ("__class__" : Str) = some cc) (hks : X.env.scope.names.lookup ("super" : Str) = some .globalImplicit) (hkc : X.env.scope.names.lookup ("__class__" : Str) = some .free)
    (hka : X.env.scope.names.lookup ar.arg = some .local) (h0 : X.N[0]? = some ar.arg) (σ0 : σ[0]? = some (some (.ref x))) (hx : H x = some (.ins C dx fs)) (hmg : X.mg "super" = none) (hat : (attr == ("__class__" : Str)) = false)
    (h : ∀ s', s'.heap.get? s.heap.objs.size = some (PySem.W.ks_superObj D x C) → Inv X pins σ H s' → Q (.ref s.heap.objs.size) s') :
    _root_.PySem.wpAt (model X.prog X.w) A (.func body X.env) (attributeBase (.Call (.Name "super" p0) [] [] p1) attr X.env whole) Q E s := by
  obtain ⟨ccl, cdd, vs, ccs, file, tf, hc1, hvs, hfile⟩ := S.code
  obtain ⟨cl, cld, csl, hcell⟩ := S.cell
  obtain ⟨cdD, hD⟩ := S.cls
  have XK := I.kIn
  obtain ⟨mA, O, _, _, _, _⟩ := ins_get I.hok hx
  obtain ⟨od, J, _⟩ := O.look
  obtain ⟨oD, hD1, hD2⟩ : ∃ oD, s.heap.get? D = some oD ∧ oD.data = .cls cdD := by
    unfold PySem.W.clsIn at hD
    split at hD
    · rename_i c d cd' sl ho
      cases hD
      exact ⟨_, XK _ _ ho, rfl⟩
    · cases hD
  refine PySem.ks_wpAt_super_base hks hkc hat hef (XK _ _ hlf) hfo hp hcode (XK _ _ hc1) rfl hvs hfile S.top ?_
  obtain ⟨mb, h1, h2⟩ := I.mod.blt
  refine PySem.W.ks_loadName_global I.ok.kind hks (Calls.loadGlobal_builtin (by rw [I.ok.glob]; exact I.mod.glob.keeps I.bk) hmg (by rw [I.ok.blt]; exact h1.keeps I.bk) (v := .type "super") ((h2 _ (by decide)).trans (by decide +kernel)) ⟨rfl, ?_⟩)
  refine wpAny_loadName_free I.ok.kind hkc hcells ⟨_, XK _ _ hcell, rfl⟩ ?_
  obtain ⟨m, hm, hl⟩ := I.loc
  obtain ⟨u, ru, lk⟩ := hl 0 ar.arg (.ref x) h0 σ0 (.inl hka)
  obtain rfl : u = Value.ref x := ru
  have hmx : m ar.arg = some (.ref x) := by
    rcases lk with ⟨_, e⟩ | ⟨e | e, _⟩
    · exact e
    · have e' : X.env.scope.names.lookup ar.arg = some .cell := e
      rw [hka] at e'; cases e'
    · have e' : X.env.scope.names.lookup ar.arg = some .free := e
      rw [hka] at e'; cases e'
  refine wpAny_loadName_local I.ok.kind hka hm hmx ?_
  obtain ⟨hh, g, d, t, os⟩ := s
  refine PySem.ks_wpAny_isType_cls hD1 hD2 ⟨rfl, ?_⟩
  refine PySem.ks_wpAny_call_super hD1 hD2 J.at_ J.cls (fun c e => ?_) (PySem.W.looks_mroIn XK S.sub) (fun h' e k => ?_)
  · have := J.no
    unfold PySem.W.notCls at this
    rw [e] at this
    exact Bool.noConfusion this
  · exact h _ e (I.kept k)
theorem sup_meth {pl : Sem Bool} {Q : Value × List Value → Shared → Prop} {so : Addr} (I : Inv X pins σ H s) (S : SupK X.prog X.K cc cda D C f2 nm) (hso : s.heap.get? so = some (PySem.W.ks_superObj D x C)) (hx : H x = some (.ins C dx fs)) (hn : (nm == ("__class__" : Str)) = false)
    (h : ∀ s', Inv X ((s.heap.objs.size, PySem.W.methodObj (.ref f2) (.ref x)) :: pins) σ H s' → Q (.ref s.heap.objs.size, []) s') : wpAny (model X.prog X.w) A (getMethod (.ref so) nm pl) Q E s := by
  have XK := I.kIn
  obtain ⟨mA, O, _, _, _, _⟩ := ins_get I.hok hx
  obtain ⟨od, J, _⟩ := O.look
  have hm := S.find
  obtain ⟨hh, g, d, t, os⟩ := s
  cases hc : PySem.W.clsIn X.K C with
  | none => unfold PySem.W.ks_superIn at hm; rw [hc] at hm; cases hm
  | some cd =>
    unfold PySem.W.ks_superIn at hm
    rw [hc] at hm
    obtain ⟨of, hof, hofc⟩ : ∃ of, hh.get? f2 = some of ∧ of.cls = .type "function" := by
      have ht' : (X.K.lookup f2).map (·.cls) = some (.type "function") := S.ty
      cases z : X.K.lookup f2 with
      | none => rw [z] at ht'; cases ht'
      | some of => rw [z] at ht'; exact ⟨of, XK _ _ z, Option.some.inj ht'⟩
    refine PySem.ks_wpAny_getMethod_super hso (PySem.W.looks_opaque XK S.st) (l₀ := cd.mro) ?_ rfl XK hm hof hofc (PySem.W.ks_ne XK J hc) hn ?_
    · exact fun A Q E s k q => wpAny_bind ((PySem.W.looks_clsIn XK hc) A _ E s k (wpAny_pure q))
    · exact h _ (ClX.met_new I)
end

abbrev nfS (x qual : Str) (params : Arguments) (body : List Stmt) (scope : Scope) (cc cda : Addr) : NdefX.NF := ⟨x, qual, params, body, scope, [(("__class__" : Str), cc)], cda⟩
abbrev cxS (P : Program) (w : World) (K : PySem.W.Frag) (mg : Str → Option Value) (base : Heap) (N : List Str) (F : NdefX.NF) (f : Addr) (A : Around) (outer : List Env) (s : Shared) (H : Hp) (E : XK) : Cx := NdefX.ncx CX0 P w K mg base N F f A outer s H E
@[reducible] def dSup (C : Addr) (sp : DSp) (t : DTA) (tr : DTS) : DTS := fun E env M => match look env 0 with
  | .val (.ref x) => (match M x with
    | some (.ins C' _ _) => C' = C ∧ t env M fun ds env1 M1 => sp (.ref x :: ds) M1 (fun _ M2 => tr E env1 M2) KX0
    | _ => False)
  | _ => False
theorem startF_eq {N : List Str} {vs : List V} (h : vs.length + 1 ≤ N.length) : NdefX.startF N vs [none] = L2.start N vs := by
  unfold NdefX.startF L2.start
  congr 1
  rw [List.length_singleton, show N.length - vs.length = (N.length - vs.length - 1) + 1 from by omega]
  rfl
end DL
namespace DL
open PySem PySem.Spec PyProof.Rows L2
section
variable {P : Program} {w : World} {K : PySem.W.Frag} {mg : Str → Option Value} {base : Heap} {x qual : Str} {params : Arguments} {body rest : List Stmt} {scope : Scope} {cc cda f D C f2 : Addr} {fd : FuncData} {N ps : List Str} {k : Nat} {sp sp2 : DSp}
  {nm : Str} {e : Expr} {es : List Expr} {p0 p1 apos pos ep : Pos} {ar : Arg} {pl : Env → Sem Bool}
theorem okSup (G : SupD K x qual params body scope cc cda f fd) (hbd : body = .Expr (.Call (.Attribute (.Call (.Name "super" p0) [] [] p1) nm apos) (e :: es) [] pos) ep :: rest) (S : NdefX.NScope N ps ["__class__"] scope)
    (hks : scope.names.lookup ("super" : Str) = some .globalImplicit) (hkc : scope.names.lookup ("__class__" : Str) = some .free) (hka : scope.names.lookup ar.arg = some .local) (hp : (params.posonlyargs ++ params.args).head? = some ar) (h0 : N[0]? = some ar.arg)
    (hmg : mg "super" = none) (hnm : (nm == ("__class__" : Str)) = false) (Sk : SupK P K cc cda D C f2 nm) (F2 : FnR P w K mg base CX0 k f2 (LSp K sp2)) (len : ∀ ds M Q E, sp ds M Q E → ds.length = ps.length)
    (hbody : ∀ (A : Around) (outer : List Env) (s : Shared) (H : Hp) (E : XK), Room k (A.deeper (NdefX.envF (nfS x qual params body scope cc cda) f s.heap.objs.size)) →
      ∃ t tr, DA (cxS P w K mg base N (nfS x qual params body scope cc cda) f A outer s H E) (e :: es) t ∧ DSs (cxS P w K mg base N (nfS x qual params body scope cc cda) f A outer s H E) rest tr ∧ ∀ ds M Q Ed, sp ds M Q Ed → dSup C sp2 t tr { nx := fun _ M' => Q .non M', rt := Q } (startD N ds) M)
    (hst : ∀ env, starEach (e :: es) env = (false, eval e env) :: starEach es env := by exact fun _ => rfl) (hpl : ∀ env, (backTo pos (starEach es env)).any (·.1) = false := by exact fun _ => rfl)
    (hev : ∀ env, eval (.Call (.Attribute (.Call (.Name "super" p0) [] [] p1) nm apos) (e :: es) [] pos) env = (do
      let ov ← attributeBase (.Call (.Name "super" p0) [] [] p1) nm env (eval (.Call (.Name "super" p0) [] [] p1) env)
      standAt apos.atName
      let (f, first) ← holding [ov] (getMethod ov nm (pl env))
      callWith pos f first (backTo pos (starEach (e :: es) env)) []) := by exact fun _ => rfl)
    (hsw : ∀ env, swapsWith (.Call (.Attribute (.Call (.Name "super" p0) [] [] p1) nm apos) (e :: es) [] pos) none ep.line env = pure false := by exact fun _ => rfl) :
    FnOk P w K mg base CX0 (k + 1) f fd ps (LSp K sp) := by
  have len' : ∀ vs H Q E, LSp K sp vs H Q E → vs.length = ps.length := fun vs H Q E ⟨F, S, ds, M, Qd, Ed, c, r, q, p, px⟩ => by rw [← r.length]; exact len _ _ _ _ q
  refine ⟨len', fun A outer s H args us vs Q E hr e0 hb r hsp => ?_⟩
  have hl := len' _ _ _ _ hsp
  obtain ⟨oc, od, dV, kV, doc, pm, an, ct, osl, rfl, lk⟩ := G.ex
  have KX : K.In s.heap := e0.mod.kin.keeps fun b o e => (e0.bs b o e).1
  have lim : s.heap.NoLimit := e0.mod.nolimit.keeps fun b o e => (e0.bs b o e).1
  have hpl1 : ps.length + 1 ≤ N.length := by
    have q := congrArg List.length S.pre
    rw [List.length_take, List.length_append, List.length_singleton] at q
    omega
  obtain ⟨cl, cld, csl, hcell⟩ := Sk.cell
  refine PySem.ks_codeAny_call_defAt (body := body) (binds := ps.zip us) hr.depth (KX _ _ lk) rfl lim (PySem.W.codeRec_of KX G.cd) rfl hb (fun y hy z => S.nocell y hy z) (fun ⟨n, _⟩ hy => S.par n (List.of_mem_zip hy).1) (fun h₁ hns kp => ?_) S.co S.gen S.kind
  have hcc : H cc = none := (e0.bs cc _ (e0.mod.kin _ _ hcell)).2
  have C0 : NdefX.CellsAt [(("__class__" : Str), cc)] ["__class__"] [none] s.heap H := by
    have one : ∀ y c, List.lookup y [(("__class__" : Str), cc)] = some c → y = "__class__" ∧ c = cc := fun y c h => by
      by_cases hy : y = ("__class__" : Str)
      · subst hy
        rw [List.lookup_cons_self] at h
        exact ⟨rfl, (Option.some.inj h).symm⟩
      · have : (y == ("__class__" : Str)) = false := beq_eq_false_iff_ne.mpr hy
        simp only [List.lookup, this] at h
        cases h
    refine ⟨rfl, fun y c h => ?_, fun x y c h1 h2 => ((one x c h1).1).trans ((one y c h2).1).symm, fun i y h => ?_⟩
    · obtain ⟨_, rfl⟩ := one y c h
      exact ⟨hcc, _, ⟨_, KX _ _ hcell, rfl⟩⟩
    · cases i with
      | zero =>
        cases h
        exact ⟨cc, List.lookup_cons_self, fun v hv => by cases hv⟩
      | succ i => simp at h
  have I0 : Inv (cxS P w K mg base N (nfS x qual params body scope cc cda) f A outer s H E) [] (NdefX.startF N vs [none]) H { s with heap := h₁, toks := s.toks + (ps.zip us).length } := NdefX.inv_startN S hr.hd e0 hl r C0 hns kp
  rw [startF_eq (by rw [hl]; exact hpl1)] at I0
  obtain ⟨F, S0, ds, M, Qd, Ed, c0, r0, q, p, px⟩ := hsp
  obtain ⟨t, tr, hta, htr, hq⟩ := hbody A outer s H E (hr.deeper _)
  have q := hq ds M Qd Ed q
  have R0 : Rel K F S0 (L2.start N vs) H (startD N ds) M := rel_start c0 r0 ghOk0
  cases hx0 : look (startD N ds) 0 with
  | no => unfold dSup at q; simp only [hx0] at q
  | own _ => unfold dSup at q; simp only [hx0] at q
  | val d0 =>
  cases d0 with
  | ref xa =>
    cases hm : M xa with
    | none => unfold dSup at q; simp only [hx0, hm] at q
    | some mo =>
    cases mo with
    | ins C' ns' es' =>
      unfold dSup at q
      simp only [hx0, hm] at q
      obtain ⟨rfl, q⟩ := q
      obtain ⟨_, dx, xs, hHx, _, _⟩ := c0.mem xa _ hm
      obtain ⟨u, σ0, ru⟩ := R0.val 0 _ hx0
      cases ru
      refine PySem.ks_wpAt_mono (Q := SP (cxS P w K mg base N (nfS x qual params body scope cc cda) f A outer s H E) [] { nx := fun _ H' => Q .non H', rt := Q }) ?_ (fun fl s' hs => ?_) fun _ _ y => y
      · subst hbd
        refine PySem.ks_wpAt_execs_cons (PySem.ks_wpAt_Expr_any (PySem.ks_wpAt_MethodCall ?_ (he := hev _)) (hs := hsw _) (hi := by have hki : scope.kind = .function := S.kind; show (scope.kind == ScopeKind.module && _) = false; rw [hki]; rfl))
        refine sup_base I0 Sk rfl lk rfl hp rfl List.lookup_cons_self hks hkc hka h0 σ0 hHx hmg hnm fun s1 hso I1 => ?_
        refine sup_meth I1 Sk hso hHx hnm fun s2 I2 => ?_
        have q3 : ∀ vs' H' S' env' M' ds', Same S0 S' → Rel K F S' (L2.start N vs) H' env' M' → Reps K S' ds' vs' → sp2 (.ref xa :: ds') M' (fun _ M2 => tr { nx := fun _ M' => Qd .non M', rt := Qd } env' M2) KX0 →
            LSp K sp2 (.ref xa :: vs') H' (fun _ H2 => LS K tr { nx := fun _ H' => Q .non H', rt := Q } (L2.start N vs) H2) E0 := fun vs' H' S' env' M' ds' s' R' r' q' =>
          sp_of (ds := .ref xa :: ds') (vs := .ref xa :: vs') (Qd := fun _ env M2 => tr { nx := fun _ M' => Qd .non M', rt := Qd } env M2) R' ⟨rfl, r'⟩ q' fun v H2 S2 env2 M2 d s2 R2 _ q2 => ⟨F, S2, env2, M2, _, R2, q2, ⟨fun σ H' S' env' M' s3 R' q' => p .non H' S' M' .non ((s'.trans s2).trans s3) R'.c rfl q', fun v H' S' M' d s3 c' r' q' => p v H' S' M' d ((s'.trans s2).trans s3) c' r' q', fun _ _ _ _ _ _ _ z => z.elim, fun _ _ _ _ _ _ _ z => z.elim⟩⟩
        refine ClX.callwith_cm I2 (ClX.base_none I1 (Nat.le_refl _)) Sk.fi (thn (hta.run pos _ s2 (L2.start N vs) H (fun vs' H' => LSp K sp2 (.ref xa :: vs') H' (fun _ H2 => LS K tr { nx := fun _ H' => Q .non H', rt := Q } (L2.start N vs) H2) E0) I2 ⟨F, S0, startD N ds, M, _, R0, q, fun vs' H' S' env' M' ds' s' R' r' q' => q3 vs' H' S' env' M' ds' s' R' r' q'⟩) fun us s3 ⟨vs', H2, I3, rv, q2⟩ => ⟨⟨ClX.pin_at I3, I3.kIn⟩, thn (ClX.run_cm F2 (hr.deeper _) pass0 I3 rv q2) fun u s4 ⟨v, H4, I4, r4, q4⟩ => wpAt_of_wpAny (htr.run [] s4 (L2.start N vs) H4 _ I4 q4)⟩) (hst _) (hpl _)
      · have fin : ∀ {σ' : L2.St} {H' : Hp} {v : V} {u : Value}, Inv (cxS P w K mg base N (nfS x qual params body scope cc cda) f A outer s H E) [] σ' H' s' → L2.RelV v u → Q v H' → CE outer P w H s Q u s' :=
          fun {σ' H' v u} J rv q => ⟨v, H', J.os, J.bare, J.base, J.hok, rv, q⟩
        cases fl with
        | ret u =>
          obtain ⟨v, σ', H', J, rv, q⟩ := hs
          exact fin J rv q
        | next =>
          obtain ⟨σ', H', J, q⟩ := hs
          exact fin (v := V.non) (u := Value.none) J rfl q
        | brk =>
          obtain ⟨_, _, _, q⟩ := hs
          exact False.elim q
        | cont =>
          obtain ⟨_, _, _, q⟩ := hs
          exact False.elim q
    | lst _ => unfold dSup at q; simp only [hx0, hm] at q
    | dK _ _ => unfold dSup at q; simp only [hx0, hm] at q
  | _ => unfold dSup at q; simp only [hx0] at q
end
end DL
set_option Elab.async false
set_option linter.all false
set_option maxRecDepth 100000
set_option maxHeartbeats 1000000
/-! DL10: the package's ways as things. -/
namespace DL
open PySem PySem.Spec PyProof.Rows L2
variable [Gh]

/-- a method of the text as it stands behind the top -/
structure MethAt (K : PySem.W.Frag) (nm qual : Str) (ps : List Str) (st : Stmt) (f : Addr) : Prop where
  ex : ∃ fd, FunD K nm qual (defArgs st) (defBody st) (defScope st) [] [] f fd ∧ Binds K fd ps []
/-- .. that says super() -/
structure SupAt (P : Program) (K : PySem.W.Frag) (C : Addr) (nm qual : Str) (ps : List Str) (st : Stmt) (f f2 : Addr) : Prop where
  ex : ∃ cc cda fd, SupD K nm qual (defArgs st) (defBody st) (defScope st) cc cda f fd ∧ SupK P K cc cda C C f2 "__init__" ∧ Binds K fd ps []
theorem fputN_new {f : Str} : ∀ {ns : List Str}, f ∉ ns → fputN f ns = ns ++ [f]
  | [], _ => rfl
  | g :: r, h => by
    unfold fputN
    rw [if_neg (fun z => h (by rw [z]; exact List.mem_cons_self)), fputN_new fun z => h (List.mem_cons_of_mem _ z)]
    rfl
theorem fputD_new {α : Type} {f : Str} {d : α} : ∀ {ns : List Str} {xs : List α}, f ∉ ns → xs.length = ns.length → fputD f d ns xs = xs ++ [d]
  | [], [], _, _ => rfl
  | [], _ :: _, _, h => by cases h
  | _ :: _, [], _, h => by cases h
  | g :: r, x :: xs, h, hl => by
    unfold fputD
    rw [if_neg (fun z => h (by rw [z]; exact List.mem_cons_self)), fputD_new (fun z => h (List.mem_cons_of_mem _ z)) (Nat.succ.inj hl)]
    rfl
def fldN : List Str := ["word", "sign", "inner", "letter", "name", "part", "ways"]
/-- Way.__init__ -/
def spWayInit (C : Addr) : DSp := fun ds M Q _ => ∃ x a b it es, ds = [.ref x, a, b, it] ∧ M x = some (.ins C [] []) ∧ seqD it = some es ∧ Q .non (mset M x (.ins C wayN [a, b, .tup es]))
/-- a leaf with a sign -/
@[reducible] def gLeaf (w n : Str) : List D → Option (List Str × List D)
  | [d] => some (wayN ++ [n], [.str w, d, .tup [], d])
  | _ => none
@[reducible] def gBare (w : Str) : List D → Option (List Str × List D)
  | [] => some (wayN, [.str w, .str "", .tup []])
  | _ => none
@[reducible] def gUn (w : Str) : List D → Option (List Str × List D)
  | [d] => some (wayN ++ [("part" : Str)], [.str w, .str "", .tup [d], d])
  | _ => none
@[reducible] def gMany (w : Str) : List D → Option (List Str × List D)
  | [it] => (match seqD it with
    | some es => some (wayN ++ [("ways" : Str)], [.str w, .str "", .tup es, .tup es])
    | none => none)
  | _ => none
theorem fget_w {a b c : D} {ns : List Str} {ds : List D} : fget "word" (wayN ++ ns) (a :: b :: c :: ds) = some a := by
  show List.lookup _ (((("word" : Str)), a) :: _) = _
  rw [List.lookup_cons_self]
theorem fget_s {a b c : D} {ns : List Str} {ds : List D} : fget "sign" (wayN ++ ns) (a :: b :: c :: ds) = some b := by
  show List.lookup _ (((("word" : Str)), a) :: ((("sign" : Str)), b) :: _) = _
  rw [List.lookup_cons, show (("sign" : Str) == ("word" : Str)) = false from by decide +kernel]
  show List.lookup _ (((("sign" : Str)), b) :: _) = _
  rw [List.lookup_cons_self]
theorem fget_i {a b c : D} {ns : List Str} {ds : List D} : fget "inner" (wayN ++ ns) (a :: b :: c :: ds) = some c := by
  show List.lookup _ (((("word" : Str)), a) :: ((("sign" : Str)), b) :: ((("inner" : Str)), c) :: _) = _
  rw [List.lookup_cons, show (("inner" : Str) == ("word" : Str)) = false from by decide +kernel]
  show List.lookup _ (((("sign" : Str)), b) :: ((("inner" : Str)), c) :: _) = _
  rw [List.lookup_cons, show (("inner" : Str) == ("sign" : Str)) = false from by decide +kernel]
  show List.lookup _ (((("inner" : Str)), c) :: _) = _
  rw [List.lookup_cons_self]
/-- the fields of ways are plain ones -/
def WOk (K : PySem.W.Frag) (W : WA) : Prop := ∀ C, W.has C → ∀ n ∈ fldN, FldOk K C n
end DL
namespace DL
open PySem PySem.Spec PyProof.Rows L2
variable [Gh]
theorem FnR_of {P : Program} {w : World} {K : PySem.W.Frag} {mg : Str → Option Value} {base : Heap} {k : Nat} {f : Addr} {fd : FuncData} {ps : List Str} {sp : Sp} (F : FnOk P w K mg base CX0 k f fd ps sp) (hb : Binds K fd ps []) : FnR P w K mg base CX0 k f sp :=
  (F.raw hb .nil).imp fun vs H Q E h => by rw [List.append_nil]; exact h
end DL
namespace DL
open PySem PySem.Spec PyProof.Rows L2
variable [Gh]
theorem fputD_w {a b c d : D} {n : Str} (h : n ∉ wayN) : fputD n d wayN [a, b, c] = [a, b, c, d] := fputD_new h rfl
theorem fget_i0 {a b c : D} : fget "inner" wayN [a, b, c] = some c := fget_i (ns := []) (ds := [])
end DL
namespace DL
open PySem PySem.Spec PyProof.Rows L2
variable [Gh]
/-- [g(a) for a in xs] -/
theorem lcW_mapL {α : Type} {tg : DTG} {te : DT} {vs : List Nat} {Q : KN} {f g : α → D} {be : Ev} {M : Mem} (P : α → Prop)
    (hs : ∀ a (R : D → Ev → Mem → Prop), P a → (∀ e4, wipeD e4 vs = be → R (g a) e4 M) → tg (f a) be M fun e2 M2 => te e2 M2 R) : ∀ (xs : List α) acc, (∀ a ∈ xs, P a) → acc.length + xs.length ≤ sizeLine → Q (acc ++ xs.map g) be M → lcW tg dTrue te vs (xs.map f) acc be M Q
  | [], acc, _, _, q => by rw [List.map_nil, List.append_nil] at q; exact q
  | d :: r, acc, hp, hz, q => by
    show tg (f d) be M fun e2 M2 => te e2 M2 fun y e4 M4 => acc.length < sizeLine ∧ lcW tg dTrue te vs (r.map f) (acc ++ [y]) (wipeD e4 vs) M4 Q
    refine hs d _ (hp d List.mem_cons_self) fun e4 h4 => ⟨?_, ?_⟩
    · rw [List.length_cons] at hz
      omega
    · rw [h4]
      refine lcW_mapL P hs r (acc ++ [g d]) (fun x hx => hp x (List.mem_cons_of_mem _ hx)) ?_ ?_
      · rw [List.length_append, List.length_singleton]
        rw [List.length_cons] at hz
        omega
      · rw [List.append_assoc]
        exact q
/-- the makers of ways -/
structure WCl (P : Program) (w : World) (K : PySem.W.Frag) (mg : Str → Option Value) (base : Heap) (W : WA) : Prop where
  c_nothing : Cl P w K mg base 2 "Nothing" W.nothing ["self"] (gBare "nothing")
  c_one : Cl P w K mg base 2 "One" W.one ["self"] (gBare "one")
  c_letter : Cl P w K mg base 2 "Letter" W.letter ["self", "letter"] (gLeaf "letter" "letter")
  c_call : Cl P w K mg base 2 "Call" W.call ["self", "name"] (gLeaf "call" "name")
  c_again : Cl P w K mg base 2 "Again" (W.un .again) ["self", "part"] (gUn "again")
  c_maybe : Cl P w K mg base 2 "Maybe" (W.un .maybe) ["self", "part"] (gUn "maybe")
  c_ahead : Cl P w K mg base 2 "Ahead" (W.un .ahead) ["self", "part"] (gUn "ahead")
  c_unless : Cl P w K mg base 2 "Unless" (W.un .unless) ["self", "part"] (gUn "unless")
  c_row : Cl P w K mg base 2 "Row" (W.many false) ["self", "ways"] (gMany "row")
  c_choice : Cl P w K mg base 2 "Choice" (W.many true) ["self", "ways"] (gMany "choice")
/-- the law's way as the package's -/
def spMade (W : WA) (S : Nat) : DSp := fun ds M Q _ => ∃ v : WT, ds = [v.d] ∧ v.size ≤ S ∧ v.size ≤ 1000 ∧ Q (v.o W) M
end DL
set_option Elab.async false
set_option linter.all false
set_option maxRecDepth 100000
set_option maxHeartbeats 2000000
/-! DL11: enumerate over a tuple; range downwards; lists that change within a list. -/
namespace DL
open PySem PySem.Spec PyProof.Rows L2
variable [Gh]

/-! ### enumerate over a tuple -/
section
variable {prog : Program} {w : World} {A : Around} {E : Value → Shared → Prop} {s : Shared}
end
section
variable {prog : Program} {w : World} {A : Around} {E : Value → Shared → Prop} {s : Shared}
end
end DL
set_option Elab.async false
set_option linter.all false
set_option maxRecDepth 100000
set_option maxHeartbeats 1000000
/-! DL12: lists that change, held by other things; star; defaults; what is never reached. -/
namespace DL
open PySem PySem.Spec PyProof.Rows L2
variable [Gh]

/-! ### lists that change -/
section
variable {X : Cx} {e a b o i value : Expr} {te : DTN} {ta tb to ti tv : DT} {pos pos' p : Pos}
/-- xs[i], xs may be one that changes -/
@[reducible] def rdIxM : RD2 := fun d e env M Q => match d with
  | .ref a => (match M a with
    | some (.lst ds) => (match e with
      | .int i => (match atI ds i with
        | some r => Q r env M
        | none => False)
      | _ => False)
    | _ => False)
  | _ => rdIx d e env M Q
theorem d_ixM (ha : DE X a ta) (hb : DE X b tb) (hs : PlainIx b := by exact fun _ _ => rfl) : DE X (.Subscript a b pos) (dBin rdIxM ta tb) := by
  refine pe_imp (pe_ix ix_seq ha hb hs) fun σ H Q q => lift2 (r := rIx X.K) (fun F S σ H env M x y d e Qd Q R r1 r2 q p => ?_) q
  have old : rdIx d e env M Qd → rIx X.K x y H Q := fun q => by
    unfold rdIx at q
    cases e with
    | int i =>
      cases r2
      have seq : ∀ ds, seqD d = some ds → (match atI ds i with | some r => Qd r env M | none => False) → rIx X.K x (.int i) H Q := fun ds hd q => by
        obtain ⟨p1, xs, rfl, h, t⟩ := rep_seq R.c.same hd r1
        cases he : atI ds i with
        | none => rw [he] at q; exact q.elim
        | some r =>
          rw [he] at q
          obtain ⟨v, e1, r'⟩ := reps_atI t he
          have fin := p v H S env M r (Same.refl _) R r' q
          rcases h with h | h
          · exact .inl ⟨p1, xs, i, v, rfl, rfl, h, e1, fin⟩
          · exact .inr (.inl ⟨p1, xs, i, v, rfl, rfl, h, e1, fin⟩)
      cases d with
      | str z =>
        cases r1
        obtain ⟨hz, q⟩ := q
        cases he : atI z.cps.toList i with
        | none => rw [he] at q; exact q.elim
        | some c =>
          rw [he] at q
          exact .inr (.inr ⟨z, i, c, rfl, rfl, hz, he, p _ H S env M (.str ⟨#[c]⟩) (Same.refl _) R rfl q⟩)
      | tup ds => exact seq ds rfl q
      | lst ds => exact seq ds rfl q
      | lstK ds => exact seq ds rfl q
      | _ => exact q.elim
    | _ => exact q.elim
  cases d with
  | ref a1 =>
    unfold rdIxM at q
    cases hm : M a1 with
    | none => simp only [hm] at q
    | some mo =>
      cases mo with
      | lst ds =>
        simp only [hm] at q
        cases e with
        | int i =>
          cases r2
          cases r1
          obtain ⟨_, xs, hx, t⟩ := R.c.mem a1 _ hm
          cases he : atI ds i with
          | none => simp only [he] at q
          | some r =>
            simp only [he] at q
            obtain ⟨v, e1, r'⟩ := reps_atI (t.mono R.c.same) he
            obtain ⟨v2, e2, r2'⟩ := reps_atI t he
            rw [e1] at e2
            cases e2
            exact .inl ⟨a1, xs, i, v, rfl, rfl, .of hx, e1, p v H S env M r (Same.refl _) R r2' q⟩
        | _ => simp only at q
      | _ => simp only [hm] at q
  | _ => exact old q
end

/-! ### what is never reached -/
/-! ### (*xs, y) -/
/-! ### -x -/
/-! ### range downwards -/
/-! ### things forgotten -/
theorem RelC.less {K : PySem.W.Frag} {F S H : Hp} {M M0 : Mem} (R : RelC K F S H M) (h : ∀ a o, M0 a = some o → M a = some o) : RelC K F S H M0 :=
  ⟨R.same, fun a o e => ⟨(R.fr a o e).1, (R.fr a o e).2.1, by
    cases z : M0 a with
    | none => rfl
    | some m => have := h a m z; rw [(R.fr a o e).2.2] at this; cases this⟩, fun a o e => R.mem a o (h a o e)⟩
/-- what it made and keeps to itself may be left behind -/
theorem Fn.forget {P : Program} {w : World} {K : PySem.W.Frag} {mg : Str → Option Value} {base : Heap} {k : Nat} {x : Str} {ps : List Str} {sp : DSp} (h : Fn P w K mg base k x ps sp) :
    Fn P w K mg base k x ps (fun ds M Q E => sp ds M (fun d M' => ∃ M0 : Mem, (∀ a o, M0 a = some o → M' a = some o) ∧ Q d M0) E) := by
  obtain ⟨f, fd, G, r⟩ := h.ex
  refine ⟨⟨f, fd, G.imp fun vs H Q E ⟨F, S, ds, M, Qd, Ed, c, rr, q, p, px⟩ => ⟨F, S, ds, M, _, Ed, c, rr, q, fun v H' S' M' d s' c' r' ⟨M0, hm, q'⟩ => p v H' S' M0 d s' (c'.less hm) r' q', px⟩, r⟩⟩

/-! ### defs with defaults -/
theorem Fn1.forget {P : Program} {w : World} {K : PySem.W.Frag} {mg : Str → Option Value} {base : Heap} {k : Nat} {x : Str} {ps : List Str} {dds : List D} {sp : DSp} (h : Fn1 P w K mg base k x ps dds sp) :
    Fn1 P w K mg base k x ps dds (fun ds M Q E => sp ds M (fun d M' => ∃ M0 : Mem, (∀ a o, M0 a = some o → M' a = some o) ∧ Q d M0) E) := by
  obtain ⟨f, fd, dvs, dl, G, r⟩ := h.ex
  exact ⟨⟨f, fd, dvs, dl, G.imp fun vs H Q E ⟨F, S, ds, M, Qd, Ed, c, rr, q, p, px⟩ => ⟨F, S, ds, M, _, Ed, c, rr, q, fun v H' S' M' d s' c' r' ⟨M0, hm, q'⟩ => p v H' S' M0 d s' (c'.less hm) r' q', px⟩, r⟩⟩
/-- a def with defaults as it stands behind the top -/
structure DefAt1 (K : PySem.W.Frag) (mg : Str → Option Value) (x : Str) (ps : List Str) (dds : List D) (st : Stmt) : Prop where
  ex : ∃ f fd dvs dl, FunD K x x (defArgs st) (defBody st) (defScope st) dvs [] f fd ∧ mg x = some (.ref f) ∧ PySem.W.keepIn K (.ref f) = true ∧ Binds K fd ps [] ∧ Binds K fd ps dl ∧ Vals dvs dl ∧ ∀ S, Reps K S dds dvs
theorem Fn1.vac {P : Program} {w : World} {K : PySem.W.Frag} {mg : Str → Option Value} {base : Heap} {k : Nat} {x : Str} {ps : List Str} {dds : List D} {st : Stmt} {sp : DSp} (G : DefAt1 K mg x ps dds st) (h : ∀ ds M Q E, ¬ sp ds M Q E) : Fn1 P w K mg base k x ps dds sp := by
  obtain ⟨f, fd, dvs, dl, F, r⟩ := G.ex
  exact ⟨⟨f, fd, dvs, dl, ⟨fun vs H Q E ⟨_, _, ds, M, _, _, _, _, q, _⟩ => (h _ _ _ _ q).elim, fun A outer s H args us vs Q E _ _ _ _ ⟨_, _, ds, M, _, _, _, _, q, _⟩ => (h _ _ _ _ q).elim⟩, r⟩⟩
end DL
namespace DL
open PySem PySem.Spec PyProof.Rows L2
variable [Gh]
section
variable {X : Cx} {k : Nat} {ps : List Str} {dds : List D} {sp : DSp} {x : Str} {p pos : Pos} {e : Expr} {es : List Expr} {t : DTA}
end
end DL
set_option Elab.async false
set_option linter.all false
set_option maxRecDepth 100000
set_option maxHeartbeats 1000000
/-! DL13: parts of ways, nodes, tables: plain. -/
namespace DL
open PySem PySem.Spec PyProof.Rows L2
variable [Gh]

/-! ### parts with paths -/
mutual
theorem WT.parts_length (p : List Nat) : ∀ w : WT, (w.parts p).length = w.size
  | .un k v => by simp only [WT.parts, WT.size, List.length_cons, WT.parts_length (p ++ [0]) v]
  | .many c ws => by simp only [WT.parts, WT.size, List.length_cons, WT.partsL_length p 0 ws]
  | .nothing => rfl
  | .one => rfl
  | .letter _ => rfl
  | .call _ => rfl
theorem WT.partsL_length (p : List Nat) (i : Nat) : ∀ ws : List WT, (WT.partsL p i ws).length = WT.sizes ws
  | [] => rfl
  | w :: ws => by simp only [WT.partsL, WT.sizes, List.length_append, WT.parts_length (p ++ [i]) w, WT.partsL_length p (i + 1) ws]
end
theorem WT.sizes_inner (w : WT) : w.size = WT.sizes w.inner + 1 := by
  cases w <;> simp only [WT.size, WT.inner, WT.sizes] <;> rfl
end DL
namespace DL
open PySem PySem.Spec PyProof.Rows L2
variable [Gh]
theorem okEq_tx {l : List Nat} (h : ∀ c ∈ l, c < 1114112) : okEq (.str (tx l)) := by
  refine okEq_flat ?_
  show (l.toArray.all fun x => decide (x < 0x110000)) = true
  simp
  exact h
theorem word_beq (v : WT) : (v.word == ("call" : Str)) = (match v with | .call _ => true | _ => false) := by
  cases v with
  | nothing => exact (by decide +kernel : ((("nothing" : Str)) == ("call" : Str)) = false)
  | one => exact (by decide +kernel : ((("one" : Str)) == ("call" : Str)) = false)
  | letter s => exact (by decide +kernel : ((("letter" : Str)) == ("call" : Str)) = false)
  | call s => exact (by decide +kernel : ((("call" : Str)) == ("call" : Str)) = true)
  | un k w =>
    cases k
    · exact (by decide +kernel : ((("again" : Str)) == ("call" : Str)) = false)
    · exact (by decide +kernel : ((("maybe" : Str)) == ("call" : Str)) = false)
    · exact (by decide +kernel : ((("ahead" : Str)) == ("call" : Str)) = false)
    · exact (by decide +kernel : ((("unless" : Str)) == ("call" : Str)) = false)
  | many c ws =>
    cases c
    · exact (by decide +kernel : ((("row" : Str)) == ("call" : Str)) = false)
    · exact (by decide +kernel : ((("choice" : Str)) == ("call" : Str)) = false)
theorem okEq_word (v : WT) : okEq (.str v.word) := by
  refine okEq_flat ?_
  cases v with
  | nothing => exact (by decide +kernel : flatOk (.str ("nothing" : Str)) = true)
  | one => exact (by decide +kernel : flatOk (.str ("one" : Str)) = true)
  | letter s => exact (by decide +kernel : flatOk (.str ("letter" : Str)) = true)
  | call s => exact (by decide +kernel : flatOk (.str ("call" : Str)) = true)
  | un k w =>
    cases k
    · exact (by decide +kernel : flatOk (.str ("again" : Str)) = true)
    · exact (by decide +kernel : flatOk (.str ("maybe" : Str)) = true)
    · exact (by decide +kernel : flatOk (.str ("ahead" : Str)) = true)
    · exact (by decide +kernel : flatOk (.str ("unless" : Str)) = true)
  | many c ws =>
    cases c
    · exact (by decide +kernel : flatOk (.str ("row" : Str)) = true)
    · exact (by decide +kernel : flatOk (.str ("choice" : Str)) = true)
end DL
namespace DL
open PySem PySem.Spec PyProof.Rows L2
variable [Gh]
theorem d_fldK {X : Cx} {e : Expr} {f : Str} {pos : Pos} {te : DT} {K : PySem.W.Frag} (he : DE X e te) (hK : X.K = K := by rfl) (hb : attributeBase e f X.env (eval e X.env) = eval e X.env := by rfl) : DE X (.Attribute e f pos) (dFld K te f) := by
  subst hK
  exact d_fld he hb
end DL
set_option Elab.async false
set_option linter.all false
set_option maxRecDepth 100000
set_option maxHeartbeats 1000000
/-! DL14: what a way takes of a text: plain. -/
namespace DL
open PySem PySem.Spec PyProof.Rows L2
variable [Gh]

theorem tkAgain_le {f : Nat → Option Nat} {L : Nat} (hf : ∀ p t, p ≤ L → f p = some t → p + t ≤ L) : ∀ n p, p ≤ L → p + tkAgain f n p ≤ L
  | 0, p, h => h
  | n + 1, p, h => by
    unfold tkAgain
    cases e : f p with
    | none => exact h
    | some t =>
      cases t with
      | zero => exact h
      | succ t =>
        have h1 := hf p (t + 1) h e
        have h2 := tkAgain_le hf n (p + (t + 1)) h1
        show p + ((t + 1) + tkAgain f n (p + (t + 1))) ≤ L
        omega
mutual
theorem tk_le (l : List Nat) : ∀ (w : WT) (p t : Nat), p ≤ l.length → tk l w p = some t → p + t ≤ l.length
  | .nothing, p, t, h, e => by
    rw [tk] at e; cases e; exact h
  | .one, p, t, h, e => by
    rw [tk] at e
    split at e
    · cases e; omega
    · cases e
  | .letter s, p, t, h, e => by
    rw [tk] at e
    cases hp : l[p]? with
    | none => rw [hp] at e; cases e
    | some c =>
      have := (List.getElem?_eq_some_iff.mp hp).1
      rw [hp] at e
      simp only at e
      split at e
      · cases e; omega
      · cases e
  | .call s, p, t, h, e => by
    rw [tk] at e; cases e
  | .un .again w, p, t, h, e => by
    rw [tk] at e
    cases e
    exact tkAgain_le (tk_le l w) _ p h
  | .un .maybe w, p, t, h, e => by
    rw [tk] at e
    cases hp : tk l w p with
    | none => rw [hp] at e; cases e; exact h
    | some u => rw [hp] at e; cases e; exact tk_le l w p _ h hp
  | .un .ahead w, p, t, h, e => by
    rw [tk] at e
    cases hp : tk l w p with
    | none => rw [hp] at e; cases e
    | some u => rw [hp] at e; cases e; exact h
  | .un .unless w, p, t, h, e => by
    rw [tk] at e
    cases hp : tk l w p with
    | none => rw [hp] at e; cases e; exact h
    | some u => rw [hp] at e; cases e
  | .many true ws, p, t, h, e => by
    rw [tk] at e
    exact tkChoice_le l ws p t h e
  | .many false ws, p, t, h, e => by
    rw [tk] at e
    exact tkRow_le l ws p t h e
theorem tkRow_le (l : List Nat) : ∀ (ws : List WT) (p t : Nat), p ≤ l.length → tkRow l ws p = some t → p + t ≤ l.length
  | [], p, t, h, e => by
    rw [tkRow] at e; cases e; exact h
  | w :: ws, p, t, h, e => by
    rw [tkRow] at e
    cases hp : tk l w p with
    | none => rw [hp] at e; cases e
    | some u =>
      rw [hp] at e
      have h1 := tk_le l w p u h hp
      cases hr : tkRow l ws (p + u) with
      | none => simp only [hr, Option.map_none] at e; cases e
      | some r =>
        simp only [hr, Option.map_some] at e
        cases e
        have := tkRow_le l ws (p + u) r h1 hr
        omega
theorem tkChoice_le (l : List Nat) : ∀ (ws : List WT) (p t : Nat), p ≤ l.length → tkChoice l ws p = some t → p + t ≤ l.length
  | [], p, t, h, e => by
    rw [tkChoice] at e; cases e
  | w :: ws, p, t, h, e => by
    rw [tkChoice] at e
    cases hp : tk l w p with
    | none => rw [hp] at e; exact tkChoice_le l ws p t h e
    | some u => rw [hp] at e; cases e; exact tk_le l w p _ h hp
end
/-- fuel enough is enough -/
theorem tkAgain_fuel {f : Nat → Option Nat} {L : Nat} (hf : ∀ p t, p ≤ L → f p = some t → p + t ≤ L) : ∀ n m p, p ≤ L → L < n + p → L < m + p → tkAgain f n p = tkAgain f m p
  | 0, m, p, h, h1, _ => by omega
  | n + 1, 0, p, h, _, h2 => by omega
  | n + 1, m + 1, p, h, h1, h2 => by
    unfold tkAgain
    cases e : f p with
    | none => rfl
    | some t =>
      cases t with
      | zero => rfl
      | succ t =>
        have h3 := hf p (t + 1) h e
        show (t + 1) + _ = (t + 1) + _
        rw [tkAgain_fuel hf n m (p + (t + 1)) h3 (by omega) (by omega)]
/-! ### the law's own walk -/
end DL
namespace DL
open PySem PySem.Spec PyProof.Rows L2
variable [Gh]
end DL
namespace DL
open PySem PySem.Spec PyProof.Rows L2
variable [Gh]
/-! ### all texts of some signs -/
end DL
set_option Elab.async false
set_option linter.all false
set_option maxRecDepth 100000
set_option maxHeartbeats 1000000
/-! DL15: nodes of ways, tables. -/
namespace DL
open PySem PySem.Spec PyProof.Rows L2
variable [Gh]

mutual
/-- the parts, in the order of the nodes -/
def WT.post : WT → List WT
  | .un k v => v.post ++ [.un k v]
  | .many c ws => WT.posts ws ++ [.many c ws]
  | .nothing => [.nothing]
  | .one => [.one]
  | .letter s => [.letter s]
  | .call s => [.call s]
def WT.posts : List WT → List WT
  | [] => []
  | w :: ws => w.post ++ WT.posts ws
end
theorem WT.post_eq (v : WT) : v.post = WT.posts v.inner ++ [v] := by
  cases v <;> simp only [WT.post, WT.inner, WT.posts, List.append_nil, List.nil_append]
mutual
theorem WT.post_length : ∀ v : WT, v.post.length = v.size
  | .un k v => by simp only [WT.post, WT.size, List.length_append, List.length_singleton, WT.post_length v]
  | .many c ws => by simp only [WT.post, WT.size, List.length_append, List.length_singleton, WT.posts_length ws]
  | .nothing => rfl
  | .one => rfl
  | .letter _ => rfl
  | .call _ => rfl
theorem WT.posts_length : ∀ ws : List WT, (WT.posts ws).length = WT.sizes ws
  | [] => rfl
  | w :: ws => by simp only [WT.posts, WT.sizes, List.length_append, WT.post_length w, WT.posts_length ws]
end
theorem All2.append {α β : Type} {R : α → β → Prop} : ∀ {as bs cs ds}, All2 R as bs → All2 R cs ds → All2 R (as ++ cs) (bs ++ ds)
  | _, _, _, _, .nil, h => h
  | _, _, _, _, .cons r t, h => .cons r (t.append h)
theorem GoodN.snoc {ns : List Nd} {ps : List WT} (g : GoodN ns ps) {v : WT} {tops : List Nat} (h : All2 (fun j u => ps[j]? = some u) tops v.inner) : GoodN (ns ++ [⟨v.word, v.sign, tops⟩]) (ps ++ [v]) := by
  have pos : ∀ j u, ps[j]? = some u → j < ns.length ∧ (ps ++ [v])[j]? = some u := fun j u e => by
    have := (List.getElem?_eq_some_iff.mp e).1
    exact ⟨by rw [g.len]; exact this, by rw [List.getElem?_append_left this]; exact e⟩
  refine ⟨by rw [List.length_append, List.length_append, g.len]; rfl, fun i n w e1 e2 => ?_⟩
  by_cases hi : i < ns.length
  · rw [List.getElem?_append_left hi] at e1
    rw [List.getElem?_append_left (by rw [← g.len]; exact hi)] at e2
    obtain ⟨h1, h2, h3⟩ := g.at_ i n w e1 e2
    exact ⟨h1, h2, h3.imp fun j u ⟨hj, hu⟩ => ⟨hj, (pos j u hu).2⟩⟩
  · have h1 : i = ns.length := by
      have := (List.getElem?_eq_some_iff.mp e1).1
      rw [List.length_append, List.length_singleton] at this
      omega
    subst h1
    rw [List.getElem?_append_right (Nat.le_refl _), Nat.sub_self] at e1
    rw [List.getElem?_append_right (by rw [g.len]; exact Nat.le_refl _), g.len, Nat.sub_self] at e2
    cases e1
    cases e2
    exact ⟨rfl, rfl, h.imp fun j u e => pos j u e⟩
mutual
theorem WT.nodes_good : ∀ v : WT, GoodN v.nodes v.post
  | .nothing => (GoodN.snoc (ns := []) (ps := []) (v := .nothing) (tops := []) ⟨rfl, fun i n v e => by simp at e⟩ .nil)
  | .one => (GoodN.snoc (ns := []) (ps := []) (v := .one) (tops := []) ⟨rfl, fun i n v e => by simp at e⟩ .nil)
  | .letter s => (GoodN.snoc (ns := []) (ps := []) (v := .letter s) (tops := []) ⟨rfl, fun i n v e => by simp at e⟩ .nil)
  | .call s => (GoodN.snoc (ns := []) (ps := []) (v := .call s) (tops := []) ⟨rfl, fun i n v e => by simp at e⟩ .nil)
  | .un k v => by
    have g := WT.nodes_good v
    have h := GoodN.snoc g (v := .un k v) (tops := [v.nodes.length - 1]) (.cons (by
      rw [g.len, WT.post_eq, List.length_append, List.length_singleton, Nat.add_sub_cancel, List.getElem?_append_right (Nat.le_refl _), Nat.sub_self]
      rfl) .nil)
    exact h
  | .many c ws => by
    have ⟨g, h⟩ := WT.nodesL_good ws [] [] [] [] ⟨rfl, fun i n v e => by simp at e⟩ .nil
    exact GoodN.snoc (v := .many c ws) g h
theorem WT.nodesL_good : ∀ (ws : List WT) (ns : List Nd) (tops : List Nat) (ps us : List WT), GoodN ns ps → All2 (fun j u => ps[j]? = some u) tops us →
    GoodN (WT.nodesL ws ns tops).1 (ps ++ WT.posts ws) ∧ All2 (fun j u => (ps ++ WT.posts ws)[j]? = some u) (WT.nodesL ws ns tops).2 (us ++ ws)
  | [], ns, tops, ps, us, g, h => by
    rw [WT.posts, List.append_nil, List.append_nil]
    exact ⟨g, h⟩
  | w :: ws, ns, tops, ps, us, g, h => by
    have g1 := (WT.nodes_good w).up g
    have hl : (ps ++ w.post).length - 1 < (ps ++ w.post).length := by
      have := WT.post_length w
      have := w.size_pos
      rw [List.length_append]
      omega
    have h1 : All2 (fun j u => (ps ++ w.post)[j]? = some u) (tops ++ [(ns ++ w.nodes.map (Nd.up ns.length)).length - 1]) (us ++ [w]) := by
      refine (h.imp fun j u e => ?_).append (.cons ?_ .nil)
      · rw [List.getElem?_append_left (List.getElem?_eq_some_iff.mp e).1]
        exact e
      · rw [g1.len, WT.post_eq, ← List.append_assoc, List.length_append, List.length_singleton, Nat.add_sub_cancel, List.getElem?_append_right (Nat.le_refl _), Nat.sub_self]
        rfl
    have ⟨g2, h2⟩ := WT.nodesL_good ws _ _ _ _ g1 h1
    rw [WT.posts, ← List.append_assoc, show us ++ w :: ws = (us ++ [w]) ++ ws from by rw [List.append_assoc]; rfl]
    exact ⟨g2, h2⟩
end
end DL
namespace DL
open PySem PySem.Spec PyProof.Rows L2
variable [Gh]
theorem WT.nodesL_tops : ∀ (ws : List WT) (ns : List Nd) (tops : List Nat), (WT.nodesL ws ns tops).2.length = tops.length + ws.length
  | [], _, _ => rfl
  | w :: ws, ns, tops => by rw [WT.nodesL, WT.nodesL_tops ws, List.length_append, List.length_singleton, List.length_cons]; omega
mutual
theorem WT.nodes_below (B : Nat) : ∀ v : WT, v.size ≤ B → ∀ n ∈ v.nodes, n.below.length ≤ B
  | .nothing, _, n, hn => by rw [List.mem_singleton.mp hn]; exact Nat.zero_le _
  | .one, _, n, hn => by rw [List.mem_singleton.mp hn]; exact Nat.zero_le _
  | .letter s, _, n, hn => by rw [List.mem_singleton.mp hn]; exact Nat.zero_le _
  | .call s, _, n, hn => by rw [List.mem_singleton.mp hn]; exact Nat.zero_le _
  | .un k v, h, n, hn => by
    have h' : v.size + 1 ≤ B := h
    rcases List.mem_append.mp hn with hn | hn
    · exact WT.nodes_below B v (by omega) n hn
    · rw [List.mem_singleton.mp hn]
      show 1 ≤ B
      omega
  | .many c ws, h, n, hn => by
    have h' : WT.sizes ws + 1 ≤ B := h
    rcases List.mem_append.mp hn with hn | hn
    · exact WT.nodesL_below B ws (by omega) [] [] (fun n hn => by cases hn) n hn
    · rw [List.mem_singleton.mp hn]
      have := WT.nodesL_tops ws [] []
      have h2 := WT.sizes_length ws
      show (WT.nodesL ws [] []).2.length ≤ B
      rw [this, List.length_nil]
      omega
theorem WT.nodesL_below (B : Nat) : ∀ (ws : List WT), WT.sizes ws ≤ B → ∀ (ns : List Nd) (tops : List Nat), (∀ n ∈ ns, n.below.length ≤ B) → ∀ n ∈ (WT.nodesL ws ns tops).1, n.below.length ≤ B
  | [], _, ns, tops, h, n, hn => h n hn
  | w :: ws, hs, ns, tops, h, n, hn => by
    have hs' : w.size + WT.sizes ws ≤ B := hs
    rw [WT.nodesL] at hn
    refine WT.nodesL_below B ws (by omega) _ _ (fun m hm => ?_) n hn
    rcases List.mem_append.mp hm with hm | hm
    · exact h m hm
    · obtain ⟨m', hm', rfl⟩ := List.mem_map.mp hm
      have := WT.nodes_below B w (by omega) m' hm'
      show (m'.below.map (· + ns.length)).length ≤ B
      rw [List.length_map]
      exact this
end
end DL
set_option Elab.async false
set_option linter.all false
set_option maxRecDepth 100000
set_option maxHeartbeats 1000000
/-! DL16: the table of takes. -/
namespace DL
open PySem PySem.Spec PyProof.Rows L2
variable [Gh]

theorem All2.pairs {α β : Type} {R : α → β → Prop} : ∀ {as bs}, All2 R as bs → ∃ l : List (α × β), as = l.map (·.1) ∧ bs = l.map (·.2) ∧ ∀ q ∈ l, R q.1 q.2
  | _, _, .nil => ⟨[], rfl, rfl, fun _ h => by cases h⟩
  | _, _, .cons (a := a) (b := b) r t => by
    obtain ⟨l, h1, h2, h3⟩ := t.pairs
    refine ⟨(a, b) :: l, by rw [h1]; rfl, by rw [h2]; rfl, fun q hq => ?_⟩
    rcases List.mem_cons.mp hq with rfl | hq
    · exact r
    · exact h3 q hq
/-- a cell is written -/
theorem TabAt.put {l : List Nat} {ps : List WT} {as : List Addr} {M : Mem} {fil : Nat → Nat → Prop} (t : TabAt l ps as M fil) (nd : as.Nodup) {i p : Nat} {v : WT} (h : ps[i]? = some v) (hp : p ≤ l.length) :
    ∃ a ds, as[i]? = some a ∧ M a = some (.lst ds) ∧ ixN ds.length (p : Int) = some p ∧ TabAt l ps as (mset M a (.lst (ds.set p (optD (tk l v p))))) (fun j q => fil j q ∨ (j = i ∧ q = p)) := by
  have hi : i < as.length := by rw [t.len]; exact (List.getElem?_eq_some_iff.mp h).1
  have ei : as[i]? = some as[i] := by simp [hi]
  obtain ⟨ds, h1, h2, h3⟩ := t.row i as[i] v ei h
  refine ⟨as[i], ds, ei, h1, ?_, t.len, fun j b u e1 e2 => ?_⟩
  · unfold ixN
    rw [if_pos (by omega), if_pos (by omega)]
    rfl
  · by_cases hj : j = i
    · subst hj
      rw [ei] at e1
      cases e1
      rw [h] at e2
      cases e2
      refine ⟨_, mset_same, by rw [List.length_set]; exact h2, fun q hf hq => ?_⟩
      by_cases hqp : q = p
      · subst hqp
        rw [List.getElem?_set_self (by omega)]
      · rw [List.getElem?_set_ne (Ne.symm hqp)]
        refine h3 q ?_ hq
        rcases hf with hf | ⟨_, hf⟩
        · exact hf
        · exact absurd hf hqp
    · have hne : b ≠ as[i] := fun z => by
        have hjl := (List.getElem?_eq_some_iff.mp e1).1
        have e3 : as[j] = as[i] := by
          rw [← z]
          exact (List.getElem?_eq_some_iff.mp e1).2
        exact hj ((List.getElem_inj nd).mp e3)
      obtain ⟨es, g1, g2, g3⟩ := t.row j b u e1 e2
      refine ⟨es, by rw [mset_ne hne]; exact g1, g2, fun q hf hq => g3 q ?_ hq⟩
      rcases hf with hf | ⟨hf, _⟩
      · exact hf
      · exact absurd hf hj
/-- a node tells a part, its parts stand at the places below -/
structure NdOf (ps : List WT) (n : Nd) (v : WT) (fil : Nat → Prop) (bw : List (Nat × WT)) : Prop where
  word : n.word = v.word
  sign : n.sign = v.sign
  below : n.below = bw.map (·.1)
  inner : v.inner = bw.map (·.2)
  at_ : ∀ q ∈ bw, fil q.1 ∧ ps[q.1]? = some q.2
end DL
namespace DL
open PySem PySem.Spec PyProof.Rows L2
variable [Gh]
/-! ### x += e -/
end DL
namespace DL
open PySem PySem.Spec PyProof.Rows L2
variable [Gh]
end DL
namespace DL
open PySem PySem.Spec PyProof.Rows L2
variable [Gh]
end DL
set_option Elab.async false
set_option linter.all false
set_option maxRecDepth 100000
set_option maxHeartbeats 1000000
/-! DL17: the table made. -/
namespace DL
open PySem PySem.Spec PyProof.Rows L2
variable [Gh]

mutual
theorem WT.post_pln : ∀ v : WT, v.pln → ∀ u ∈ v.post, u.pln
  | .un k v, h, u, hu => by
    rcases List.mem_append.mp hu with hu | hu
    · exact WT.post_pln v h u hu
    · rw [List.mem_singleton.mp hu]; exact h
  | .many c ws, h, u, hu => by
    rcases List.mem_append.mp hu with hu | hu
    · exact WT.posts_pln ws h u hu
    · rw [List.mem_singleton.mp hu]; exact h
  | .nothing, h, u, hu => by rw [List.mem_singleton.mp hu]; exact h
  | .one, h, u, hu => by rw [List.mem_singleton.mp hu]; exact h
  | .letter s, h, u, hu => by rw [List.mem_singleton.mp hu]; exact h
  | .call s, h, u, hu => by rw [List.mem_singleton.mp hu]; exact h
theorem WT.posts_pln : ∀ ws : List WT, WT.plns ws → ∀ u ∈ WT.posts ws, u.pln
  | [], h, u, hu => by cases hu
  | w :: ws, h, u, hu => by
    rcases List.mem_append.mp hu with hu | hu
    · exact WT.post_pln w h.1 u hu
    · exact WT.posts_pln ws h.2 u hu
end
end DL
namespace DL
open PySem PySem.Spec PyProof.Rows L2
variable [Gh]
end DL
namespace DL
open PySem PySem.Spec PyProof.Rows L2
variable [Gh]
end DL
namespace DL
open PySem PySem.Spec PyProof.Rows L2
variable [Gh]
/-- x = [.. for ..], a list that changes no more -/
@[reducible] def sSetV (te : DTN) (i : Nat) : DTS := fun E env M => te env M fun ds env1 M1 => E.nx (put env1 i (.val (.lst ds))) M1
theorem s_setLcV {X : Cx} {elt tg iter : Expr} {ifs : List Expr} {scope : Scope} {own : List (Str × Nat)} {pos spos : Pos} {wi : DTI} {g : DTG} {tt : DTT} {te : DT} {i : Nat} {y : Str} {py : Pos} (hc : X.calm = true) (hN : X.N.Nodup) (hy : X.N[i]? = some y) (hyl : X.env.scope.names.lookup y = some .local)
    (hsw : swapsWith (.ListComp elt [⟨tg, iter, ifs, 0⟩] scope pos) (some (.Name y py)) spos.line X.env = pure true) (hi : DI X tg iter wi) (ok : BlkOk X.N X.env.scope scope own)
    (hg : ∀ (s : Shared) (H : Hp) (C : Addr) (cl : List (Str × Addr)) (fp : List Addr), DGw (X.blk s H scope (compEnvC scope cl C X.env) fp) (ownIx own) tg g) (ht : ∀ (s : Shared) (H : Hp) (C : Addr) (cl : List (Str × Addr)) (fp : List Addr), PTs (X.blk s H scope (compEnvC scope cl C X.env) fp) ifs (LT X.K tt))
    (he : ∀ (s : Shared) (H : Hp) (C : Addr) (cl : List (Str × Addr)) (fp : List Addr), DE (X.blk s H scope (compEnvC scope cl C X.env) fp) elt te) (hs : ∀ x, foldedSetIterable iter X.env x = pure x := by intro _; rfl) :
    DS X (.Assign [.Name y py] (.ListComp elt [⟨tg, iter, ifs, 0⟩] scope pos) spos) (sSetV (dLc wi g tt te (ownIx own)) i) := by
  rw [ownIx_eq own] at hg ⊢
  exact ps_imp (ps_setLc (own := own) (g := LGw X.K (own.map (fun q : Str × Nat => q.2)) g) (tt := LT X.K tt) (te := LE X.K te) hc hN hy hyl hsw hi ok hg ht he hs) fun D σ H ⟨F, S, env, M, Ed, R, t, p⟩ =>
    show tLc (LI X.K wi) (LGw X.K (own.map (fun q : Str × Nat => q.2)) g) (LT X.K tt) (LE X.K te) (own.map (fun q : Str × Nat => q.2)) σ H (fun x H1 => gName i x σ H1 D.nx) from lift_lc ⟨F, S, env, M, _, R, t, fun a H' S' env' M' ds s' R' n q => by
      obtain ⟨S2, s2, R2, r⟩ := R'.seal n
      exact p.nx _ H' S2 _ M' (s'.trans s2) (R2.store r) q⟩
end DL
namespace DL
open PySem PySem.Spec PyProof.Rows L2
variable [Gh]
mutual
theorem WT.parts_pln (p : List Nat) : ∀ v : WT, v.pln → ∀ q ∈ v.parts p, q.2.pln
  | .un k v, h, q, hq => by
    rcases List.mem_cons.mp hq with rfl | hq
    · exact h
    · exact WT.parts_pln _ v h q hq
  | .many c ws, h, q, hq => by
    rcases List.mem_cons.mp hq with rfl | hq
    · exact h
    · exact WT.partsL_pln _ 0 ws h q hq
  | .nothing, h, q, hq => by rw [List.mem_singleton.mp hq]; exact h
  | .one, h, q, hq => by rw [List.mem_singleton.mp hq]; exact h
  | .letter s, h, q, hq => by rw [List.mem_singleton.mp hq]; exact h
  | .call s, h, q, hq => by rw [List.mem_singleton.mp hq]; exact h
theorem WT.partsL_pln (p : List Nat) (i : Nat) : ∀ ws : List WT, WT.plns ws → ∀ q ∈ WT.partsL p i ws, q.2.pln
  | [], h, q, hq => by cases hq
  | w :: ws, h, q, hq => by
    rcases List.mem_append.mp hq with hq | hq
    · exact WT.parts_pln _ w h.1 q hq
    · exact WT.partsL_pln p (i + 1) ws h.2 q hq
end
end DL
namespace DL
open PySem PySem.Spec PyProof.Rows L2
variable [Gh]
end DL
namespace DL
open PySem PySem.Spec PyProof.Rows L2
variable [Gh]
mutual
theorem WT.ok_pln {P : Str → Prop} (hP : ∀ s, P s → PyData.strOk s = true) : ∀ v : WT, v.ok P → v.pln
  | .letter s, h => hP s h
  | .call s, h => h.elim
  | .un k v, h => WT.ok_pln hP v h
  | .many c ws, h => WT.oks_plns hP ws h.2
  | .nothing, _ => trivial
  | .one, _ => trivial
theorem WT.oks_plns {P : Str → Prop} (hP : ∀ s, P s → PyData.strOk s = true) : ∀ ws : List WT, WT.oks P ws → WT.plns ws
  | [], _ => trivial
  | w :: ws, h => ⟨WT.ok_pln hP w h.1, WT.oks_plns hP ws h.2⟩
end
/-- the law: whatever the script, True -/
def spTrue : DSp := fun ds _ Q _ => ∃ ns : List Int, ds = [.lstK (ns.map D.int)] ∧ ns.length ≤ 63 ∧ ∀ M', Q (.bl true) M'
end DL
set_option Elab.async false
set_option linter.all false
set_option maxRecDepth 100000
set_option maxHeartbeats 1000000
/-! DL18: a Hook that tells of defs with super() too. -/
namespace DL
open PySem PySem.Spec PyProof.Rows L2 He

section
variable {fa : List Fa} {fn sn : List DefD} {ex : PySem.W.Frag → Bool} {K : PySem.W.Frag}
theorem SaysY.sup (c : SaysY fa fn sn ex K) (i : Nat) {d : DefD} (h : sn[i]? = some d := by rfl) : fnY K d.at_ = valY d := by
  have e : sn.map (fun d => fnY K d.at_) = sn.map valY := congrArg (fun z : AlY => z.2.2) c
  have e2 : (sn.map fun d => fnY K d.at_)[i]? = (sn.map valY)[i]? := by rw [e]
  rw [List.getElem?_map, List.getElem?_map, h] at e2
  exact Option.some.inj e2
end
/-- a def with super(), as the layer wants it -/
theorem supAt_of {P : Program} {K : PySem.W.Frag} {d : DefD} {f2 : Addr} {ps : List Str} {st : Stmt} (e : fnY K d.at_ = valY d) (c : supB P.main.file K d = true) (b : baseB K (ga K d.at_.1) f2 = true) (top : (P.main.scope.names.lookup ("super" : Str)).isSome = false)
    (h1 : d.params = defArgs st) (h2 : d.body = defBody st) (h3 : d.scope = defScope st)
    (hb : ∀ (kV doc pm : Value) (an : Option Addr) (cdv ct : Value) (cl : List (Str × Addr)) (us : List Value), us.length = ps.length → bindArgs (PySem.W.fnX d.name d.qual d.params d.body d.scope cl .none kV doc pm an cdv ct) ⟨us, []⟩ = pure (ps.zip us)) :
    SupAt P K (ga K d.at_.1) d.name d.qual ps st (fAd K d.at_) f2 := by
  unfold fnY at e
  unfold supB at c
  cases q : K.lookup (fAd K d.at_) with
  | none => rw [q] at c; cases c
  | some o =>
    obtain ⟨oc, od, dt, osl⟩ := o
    rw [q] at c e
    cases dt with
    | func fd =>
      obtain ⟨n1, n2, n3, n4, n5, n6, n7, n8, n9, n10, n11, n12, n13, n14, n15⟩ := fd
      have e2 : (some (n1, n2, n3, n4, n5, n6, n7.map (·.1), n15) : FnY) = (some (d.name, d.qual, d.params, FuncBody.stmts d.body, d.scope, mainGlobals, [("__class__" : Str)], builtinsNs) : FnY) := e
      simp only [Option.some.injEq, Prod.mk.injEq] at e2
      obtain ⟨g1, g2, g3, g4, g5, g6, g7, g8⟩ := e2
      obtain ⟨cc, rfl⟩ : ∃ cc, n7 = [(("__class__" : Str), cc)] := by
        match n7, g7 with
        | [(x, cc)], g7 =>
          simp only [List.map_cons, List.map_nil, List.cons.injEq, and_true] at g7
          subst g7
          exact ⟨cc, rfl⟩
      subst g4 g6 g8
      cases n13 with
      | ref cda =>
       cases n8 with
       | none =>
        have c2 : (PySem.W.codeIn K (.ref cda) d.qual && ((match K.lookup cda with
          | some ⟨_, _, .fields vs, _⟩ => (match (vs[2]? : Option Value) with
            | some (Value.str fl _) => (P.main.file : Str) == fl
            | _ => false)
          | _ => false) && (match K.lookup cc with
          | some ⟨_, _, .cell (some (.ref D)), _⟩ => decide (D = ga K d.at_.1)
          | _ => false))) = true := c
        obtain ⟨c3, c4⟩ := ba c2
        obtain ⟨c5, c6⟩ := ba c4
        obtain ⟨b1, b2⟩ := ba b
        obtain ⟨b3, b4⟩ := ba b2
        obtain ⟨b5, b6⟩ := ba b4
        obtain ⟨b7, b8⟩ := ba b6
        obtain ⟨b9, b10⟩ := ba b8
        refine ⟨cc, cda, _, ⟨⟨oc, od, .none, n9, n10, n11, n12, n14, osl, ?_, q⟩, c3⟩, ⟨?_, ?_, ?_, of_decide_eq_true b3, eqO_ok b5, of_decide_eq_true b7, b9, eqO_ok b10, top⟩, ?_⟩
        · rw [← h1, ← h2, ← h3, ← g1, ← g2, ← g3, ← g5]
        · cases z : K.lookup cda with
          | none => rw [z] at c5; cases c5
          | some o2 =>
            obtain ⟨a1, a2, a3, a4⟩ := o2
            rw [z] at c5
            cases a3 with
            | fields vs =>
              have c7 : (match (vs[2]? : Option Value) with
                | some (Value.str fl _) => (P.main.file : Str) == fl
                | _ => false) = true := c5
              cases y : (vs[2]? : Option Value) with
              | none => rw [y] at c7; cases c7
              | some u =>
                rw [y] at c7
                cases u with
                | str fl tf => exact ⟨a1, a2, vs, a4, fl, tf, rfl, y, c7⟩
                | _ => cases c7
            | _ => cases c5
        · cases z : K.lookup cc with
          | none => rw [z] at c6; cases c6
          | some o2 =>
            obtain ⟨a1, a2, a3, a4⟩ := o2
            rw [z] at c6
            cases a3 with
            | cell v =>
              cases v with
              | none => cases c6
              | some u =>
                cases u with
                | ref D =>
                  have := of_decide_eq_true (show decide (D = ga K d.at_.1) = true from c6)
                  subst this
                  exact ⟨a1, a2, a4, rfl⟩
                | _ => cases c6
            | _ => cases c6
        · exact Option.isSome_iff_exists.mp b1
        · refine .all fun us hl => ?_
          have := hb n9 n10 n11 n12 (.ref cda) n14 [(("__class__" : Str), cc)] us hl
          rw [← g1, ← g2, ← g3, ← g5] at this
          exact this
       | _ => cases c
      | _ => cases c
    | _ => cases c
end DL
namespace DL
open PySem PySem.Spec PyProof.Rows L2
theorem reps_script {K : PySem.W.Frag} {S : Hp} : ∀ ns : List Int, Reps K S (ns.map D.int) (ns.map V.int)
  | [] => trivial
  | _ :: ns => ⟨rfl, reps_script ns⟩
/-- the law is called with the script -/
theorem law_start {K : PySem.W.Frag} {H : Hp} {a : Addr} {ns : List Int} {E : XK} {Q : VK} (hl : ns.length ≤ 63) (hS : SqL K H a (ns.map V.int)) (hQ : ∀ H', Q (.bl true) H') : LSp K spTrue [.ref a] H Q E :=
  ⟨fun _ => none, H, [.lstK (ns.map D.int)], fun _ => none, fun d _ => d = .bl true, KX0, ⟨Same.refl _, fun a o e => (by cases e), fun a o e => (by cases e)⟩, ⟨⟨a, _, rfl, hS, reps_script ns⟩, trivial⟩, ⟨ns, rfl, hl, fun _ => rfl⟩,
    fun v H' S' M' d s c r q => by
      subst q
      cases r
      exact hQ _, fun _ _ _ _ _ _ _ _ _ _ z => z.elim⟩
end DL
set_option Elab.async false
set_option linter.all false
set_option maxRecDepth 100000
set_option maxHeartbeats 1000000
/-! DL28: a head's run in two: what is seen of it, and what the Hook looks at; each is a kernel run of its own (less memory). -/
namespace DL
end DL
set_option Elab.async false
set_option linter.all false
set_option maxRecDepth 100000
set_option maxHeartbeats 1000000
/-! DL19a: == of tuples whose items have an own __eq__, both answers. -/
namespace GQ2
open PySem PySem.SeqAt GQ
open AutoSeq1 (wpAny_loadPart')
open MeetsSeq MeetsSeq2 MeetsSeq3 SeqRoads2
section
variable {prog : Program} {w : World} {A : Around} {R : Result → Shared → Prop}
/-- pairs compared one after the other; the first unlike one ends it -/
def Zz (T : Value → Value → Bool → Prop) (c last : Bool) : List (Value × Value) → Prop
  | [] => c = last
  | p :: r => ∃ k, T p.1 p.2 k ∧ (k = true → Zz T c last r) ∧ (k = false → c = false)
theorem tuple_eqB (l b : Addr) (items items2 : Array Value) (n n2 : Nat) (dd dd2 : Option Addr) (sl sl2 : Array (Option Value)) (I : Shared → Prop) (T : Value → Value → Bool → Prop) (c : Bool)
    (turn : ∀ y x k s, T y x k → I s → wpAny (model prog w) A.in1 (eqBool y x) (fun r s' => r = k ∧ I s') (fun e s' => R (.error e) s') s)
    (z : Zz T c (items.size == items2.size) (items.toList.zip items2.toList))
    (fin : ∀ s, I s → R (.ok (.ret (.bool c))) s) {s : Shared} (hl1 : s.heap.get? l = some { cls := .type "tuple", dict := dd, data := .seq items n, slots := sl }) (hb1 : s.heap.get? b = some { cls := .type "tuple", dict := dd2, data := .seq items2 n2, slots := sl2 }) (h : I s) :
    wpAny (model prog w) A.in1 (Builtin.«tuple.__eq__» ⟨[.ref l, .ref b], []⟩) (FinOf prog w A R) (fun e s' => R (.error e) s') s := by
  have f2 := AutoSeq1.sub_tuple_tuple
  have h0 := h
  obtain ⟨hp, g, d, tk, os⟩ := s
  wp_walk using wpAny_loadPart' hl1, wpAny_loadPart' hb1, wpAny_forIn_list _ (fun rest b s' => b.1 = none ∧ Zz T c (items.size == items2.size) rest ∧ I s') _
  case turn =>
    rintro ⟨y, x⟩ rest b s' ⟨hb', ⟨k, ht, k1, k2⟩, hI⟩
    refine wpAny_bind (wpAny_mono (turn y x k s' ht hI) (fun r s2 q2 => ?_) fun _ _ x => x)
    obtain ⟨hr, q2⟩ := q2
    subst hr
    cases r with
    | true =>
      wp_walk
      exact ⟨rfl, k1 rfl, q2⟩
    | false =>
      wp_walk
      have hR : R (.ok (.ret (.bool c))) s2 := fin s2 q2
      rw [k2 rfl] at hR
      exact hR
  case fin =>
    rintro ⟨b1, b2⟩ s' ⟨hb', hz, hI⟩
    simp only at hb'
    subst hb'
    have hR : R (.ok (.ret (.bool c))) s' := fin s' hI
    have hz' : c = (items.size == items2.size) := hz
    wp_walk
    rw [hz'] at hR
    exact hR
  case h =>
    exact ⟨rfl, z, h0⟩
end
section
variable {prog : Program} {w : World} {A : Around} {E : Value → Shared → Prop} {s : Shared}
theorem rc_tupB {l b : Addr} {items items2 : Array Value} {Q : Value → Shared → Prop} (hu : A.units < cLine) (I : Shared → Prop) (T : Value → Value → Bool → Prop) (c : Bool)
    (hl : s.heap.IsTuple l items) (hb : s.heap.IsTuple b items2)
    (turn : ∀ y x k s, T y x k → I s → wpAny (model prog w) A.in1 (eqBool y x) (fun r s' => r = k ∧ I s') E s)
    (z : Zz T c (items.size == items2.size) (items.toList.zip items2.toList))
    (fin : ∀ s, I s → Q (.bool c) s) (h : I s) : wpAny (model prog w) A (richCompare .Eq (.ref l) (.ref b)) Q E s := by
  obtain ⟨⟨cls, dd, data, sl⟩, ho, hc, n, hd⟩ := id hl
  obtain ⟨⟨cls2, dd2, data2, sl2⟩, ho2, hc2, n2, hd2⟩ := id hb
  simp only at hc hd hc2 hd2
  subst hc hd hc2 hd2
  refine wpAny_richCompare_same_room (op := .Eq) ⟨_, ho, rfl⟩ ⟨_, ho2, rfl⟩ F.slot_tuple_eq (call_here F.slot_tuple_eq ⟨_, ho, rfl⟩ F.entry_tuple_eq (F.args_tuple_eq_2 _ _) ?_) hu
  exact tuple_eqB (R := wants (fun v s' => v ≠ .notImplemented ∧ Q v s') E) l b items items2 n n2 dd dd2 sl sl2 I T c turn z (fun s' q => ⟨(fun x => nomatch x), fin s' q⟩) ho ho2 h
end
end GQ2
namespace DL
open PySem PySem.Spec PyProof.Rows L2
variable [Gh]
/-! ### == by data, with own __eq__ in it -/
/-- one thing is equal to itself -/
def IdR (K : PySem.W.Frag) (rd : RdB) : Prop := ∀ (S : Hp) (a : Addr) (d e : D) (b : Bool), (∀ a o, K.lookup a = some o → S a = none) → Rep K S d (.ref a) → Rep K S e (.ref a) → rd d e b → b = true
section
variable {X : Cx} {n m : Nat} {rd rd' : RdB}
def rdFlat : RdB := fun d e b => flatD d = true ∧ flatD e = true ∧ b = eqF d e
theorem eqB_flat : EqB X 0 (DR X.K rdFlat) := by
  intro A pins s σ H x y u v b sb I rx ry d
  obtain ⟨S, d, e, ss, r1, r2, f1, f2, rfl⟩ := d
  have q := eqAt_V (A := A) (s := s) rx ry (rep_flat r1 f1) (rep_flat r2 f2)
  rw [rep_eqF r1 r2 f1 f2] at q
  exact q X.prog X.w X.xe _ ⟨rfl, H, I, Same.refl _⟩
/-- item by item -/
def rdL (rd : RdB) : List D → List D → Bool → Prop
  | [], [], b => b = true
  | d :: ds, e :: es, b => ∃ k, rd d e k ∧ (k = true → rdL rd ds es b) ∧ (k = false → b = false)
  | _, _, b => b = false
def rdT (rd : RdB) : RdB := fun d e b => ∃ ds es, d = .tup ds ∧ e = .tup es ∧ rdL rd ds es b
/-- two values of which the reading tells -/
def TV (X : Cx) (rd : RdB) (H : Hp) : Value → Value → Bool → Prop := fun u v k => ∃ x y, RelV x u ∧ RelV y v ∧ DR X.K rd x y H k
theorem zz_of {S H : Hp} (ss : Same S H) : ∀ {ds es : List D} {xs ys : List V} {us vs : List Value} {b : Bool}, Reps X.K S ds xs → Reps X.K S es ys → Vals xs us → Vals ys vs → rdL rd ds es b →
    ds.length ≠ es.length ∧ GQ2.Zz (TV X rd H) b false (us.zip vs) ∨ ds.length = es.length ∧ GQ2.Zz (TV X rd H) b true (us.zip vs)
  | [], [], _, _, _, _, b, r1, r2, w1, w2, h => by
    cases r1.nil_inv; cases r2.nil_inv; cases w1; cases w2
    exact .inr ⟨rfl, h⟩
  | [], e :: es, _, _, _, _, b, r1, r2, w1, w2, h => by
    cases r1.nil_inv; cases w1
    exact .inl ⟨by simp, h⟩
  | d :: ds, [], _, _, _, _, b, r1, r2, w1, w2, h => by
    cases r2.nil_inv; cases w2
    refine .inl ⟨by simp, ?_⟩
    rw [List.zip_nil_right]
    exact h
  | d :: ds, e :: es, _, _, _, _, b, r1, r2, w1, w2, h => by
    obtain ⟨x, xs, rfl, q1, q2⟩ := r1.cons_inv
    obtain ⟨y, ys, rfl, p1, p2⟩ := r2.cons_inv
    cases w1 with
    | cons a1 w1 =>
      cases w2 with
      | cons a2 w2 =>
        obtain ⟨k, hk, k1, k2⟩ := h
        rename_i u us v vs
        cases k with
        | true =>
          rcases zz_of ss q2 p2 w1 w2 (k1 rfl) with ⟨n, z⟩ | ⟨n, z⟩
          · exact .inl ⟨by simpa using n, true, ⟨x, y, a1, a2, S, d, e, ss, q1, p1, hk⟩, fun _ => z, fun c => by cases c⟩
          · exact .inr ⟨by simpa using n, true, ⟨x, y, a1, a2, S, d, e, ss, q1, p1, hk⟩, fun _ => z, fun c => by cases c⟩
        | false =>
          by_cases n : ds.length = es.length
          · exact .inr ⟨by simpa using n, false, ⟨x, y, a1, a2, S, d, e, ss, q1, p1, hk⟩, (fun c => nomatch c), k2⟩
          · exact .inl ⟨by simpa using n, false, ⟨x, y, a1, a2, S, d, e, ss, q1, p1, hk⟩, (fun c => nomatch c), k2⟩
theorem rcB_tup (h : EqB X n (DR X.K rd)) : RcB X (n + 1) (DR X.K (rdT rd)) := by
  intro A pins s σ H x y u v b sb I rx ry d
  obtain ⟨S, d, e, ss, r1, r2, ds, es, rfl, rfl, hl⟩ := d
  obtain ⟨a, xs, rfl, ha, ra⟩ := r1
  obtain ⟨a', ys, rfl, hb, rb⟩ := r2
  cases rx
  cases ry
  obtain ⟨its, w1, e1, z1⟩ := I.tuple (DL.Same.tup ss ha)
  obtain ⟨its2, w2, e2, z2⟩ := I.tuple (DL.Same.tup ss hb)
  refine GQ2.rc_tupB sb.room.units0 (fun s' => ∃ H', Inv X pins σ H' s' ∧ Same H H') (TV X rd H) b e1 e2 (fun y x k s' t q => ?_) ?_ (fun s' q => ⟨rfl, q⟩) ⟨H, I, Same.refl _⟩
  · obtain ⟨y', x', t1, t2, t⟩ := t
    obtain ⟨H1, I1, e1⟩ := q
    refine wpAny_mono (h A.in1 pins s' σ H1 _ _ _ _ k sb.in1 I1 t1 t2 (t.mono e1)) (fun r s2 q => ?_) fun _ _ x => x
    obtain ⟨hr, H2, I2, e2⟩ := q
    exact ⟨hr, H2, I2, e1.trans e2⟩
  · have l1 : its.length = ds.length := by rw [← w1.length, ra.length]
    have l2 : its2.length = es.length := by rw [← w2.length, rb.length]
    rw [List.size_toArray, List.size_toArray, l1, l2]
    rcases zz_of ss ra rb w1 w2 hl with ⟨n, z⟩ | ⟨n, z⟩
    · rw [show (ds.length == es.length) = false from beq_eq_false_iff_ne.mpr n]
      exact z
    · rw [show (ds.length == es.length) = true from beq_iff_eq.mpr n]
      exact z
theorem RcB.eqB (h : RcB X n (DR X.K rd)) (hr : ∀ d e b, rd d e b → (∃ ds, d = .tup ds) ∨ ∃ C ns ds, d = .obj C ns ds) (hr' : ∀ d e b, rd d e b → (∃ ds, e = .tup ds) ∨ ∃ C ns ds, e = .obj C ns ds) (hi : IdR X.K rd) : EqB X n (DR X.K rd) := by
  intro A pins s σ H x y u v b sb I rx ry d
  obtain ⟨S, d, e, ss, r1, r2, hd⟩ := d
  have key : ∀ {d : D} {x : V}, Rep X.K S d x → ((∃ ds, d = .tup ds) ∨ ∃ C ns ds, d = .obj C ns ds) → ∃ a, x = .ref a := fun r z => by
    rcases z with ⟨ds, rfl⟩ | ⟨C, ns, ds, rfl⟩
    · obtain ⟨a, xs, q, _⟩ := r; exact ⟨a, q⟩
    · obtain ⟨a, dx, xs, q, _⟩ := r; exact ⟨a, q⟩
  obtain ⟨a, rfl⟩ := key r1 (hr _ _ _ hd)
  obtain ⟨a', rfl⟩ := key r2 (hr' _ _ _ hd)
  have rx' := rx
  have ry' := ry
  cases rx
  cases ry
  by_cases hab : a = a'
  · subst hab
    have hn : ∀ a o, X.K.lookup a = some o → S a = none := fun c o hc => by
      cases hS : S c with
      | none => rfl
      | some o' =>
        have := (I.bs c o (I.mod.kin c o hc)).2
        rw [ss _ _ hS] at this
        cases this
    exact SeqAt.EqAt.same (A := A) (s := s) (.ref a) X.prog X.w X.xe _ ⟨(hi _ _ _ _ _ hn r1 r2 hd).symm, H, I, Same.refl _⟩
  · refine GQ.eqBool_refG hab (wpAny_mono (h A pins s σ H (.ref a) (.ref a') _ _ b sb I rx' ry' ⟨S, d, e, ss, r1, r2, hd⟩) (fun r s' q => ?_) fun _ _ x => x)
    obtain ⟨hr', q⟩ := q
    exact ⟨b, hr', rfl, q⟩
/-- x == y as an expression -/
theorem od_eqB (h : RcB X n (DR X.K rd)) (hr : Room n X.A) : OpD X (compareOp .Eq) (fun d e env M Q => ∃ b, rd d e b ∧ Q (.bl b) env M) := by
  refine ⟨⟨fun x y H Q => ∃ b, DR X.K rd x y H b ∧ ∀ H', Same H H' → Q (.bl b) H', fun pins s σ H x y v u Q I rx ry hq => ?_, fun F S σ H env M x y d e Qd Q R r1 r2 q p => ?_⟩⟩
  · obtain ⟨b, d, q⟩ := hq
    show wpAny (model X.prog X.w) X.A (richCompare .Eq v u) (EP X pins σ Q) X.xe s
    refine wpAny_mono (h X.A pins s σ H x y v u b ⟨hr, rfl⟩ I rx ry d) (fun r s' z => ?_) fun _ _ x => x
    obtain ⟨hr', H', I', e⟩ := z
    subst hr'
    exact ⟨.bl b, H', I', rfl, q H' e⟩
  · obtain ⟨b, hd, q⟩ := q
    exact ⟨b, ⟨S, d, e, R.c.same, r1, r2, hd⟩, fun H' e => p _ H' S env M (.bl b) (Same.refl _) (R.more e) rfl q⟩
end
end DL
set_option Elab.async false
set_option linter.all false
set_option maxRecDepth 100000
set_option maxHeartbeats 1000000
/-! DL19b: == of ways. -/
namespace DL
open PySem PySem.Spec PyProof.Rows L2
variable [Gh]
theorem WT.word_inj {v u : WT} (h1 : v.word = u.word) : v.tag = u.tag := by rw [← v.tag_word, ← u.tag_word, h1]
open Classical in
noncomputable def wEq (v u : WT) : Bool := decide (v = u)
theorem wEq_true {v u : WT} : wEq v u = true ↔ v = u := by unfold wEq; exact @decide_eq_true_iff _ (Classical.propDecidable _)
theorem wEq_self (v : WT) : wEq v v = true := wEq_true.mpr rfl
theorem wEq_false {v u : WT} : wEq v u = false ↔ v ≠ u := by unfold wEq; exact @decide_eq_false_iff_not _ (Classical.propDecidable _)
/-- two ways of at most k parts on the left -/
def rdW1 (W : WA) (k : Nat) : RdB := fun d e b => ∃ v u : WT, d = v.o W ∧ e = u.o W ∧ v.size ≤ k ∧ b = wEq v u
/-- .. or something else on the right -/
def rdW (W : WA) (k : Nat) : RdB := fun d e b => rdW1 W k d e b ∨ ∃ v : WT, d = v.o W ∧ ((∃ z, e = .str z) ∨ ∃ es, e = .tup es) ∧ b = false
def rdE (W : WA) (k : Nat) : RdB := fun d e b => rdFlat d e b ∨ rdT (rdW1 W k) d e b
def spEqW (W : WA) (k : Nat) : DSp := fun ds M Q _ => ∃ d e b, ds = [d, e] ∧ rdW W k d e b ∧ Q (.bl b) M
/-- what the text's head must have for == of ways: f the own __eq__, Wy the base class -/
structure WEq (K : PySem.W.Frag) (W : WA) (Wy f : Addr) : Prop where
  is_ : ∀ C, W.has C → ClsIs K C
  isi : ∀ C, W.has C → PySem.W.kitOne K (.ref C) (.ref Wy) = some true
  isS : PySem.W.kitOne K (.type "str") (.ref Wy) = some false
  isT : PySem.W.kitOne K (.type "tuple") (.ref Wy) = some false
  eq : ∀ C, W.has C → PySem.W.findIn K (.ref C) "__eq__" = some (some (.ref f))
  fn : PySem.W.isFn K (.ref f) = true
  nf : ∀ C C', W.has C → W.has C' → PySem.W.notFirst K C (.ref C') = true
  nfS : ∀ C, W.has C → PySem.W.notFirst K C (.type "str") = true
  nfT : ∀ C, W.has C → PySem.W.notFirst K C (.type "tuple") = true
theorem tups_inj {K : PySem.W.Frag} {S : Hp} {W : WA} (hn : ∀ a o, K.lookup a = some o → S a = none) : ∀ (n : Nat),
    (∀ (v u : WT) (x : V), v.size ≤ n → Rep K S (v.o W) x → Rep K S (u.o W) x → v = u) ∧
    ∀ (vs us : List WT) (xs : List V), WT.sizes vs ≤ n → Reps K S (vs.map (WT.o W)) xs → Reps K S (us.map (WT.o W)) xs → vs = us
  | 0 => ⟨fun v u x h => absurd v.size_pos (by omega), fun vs us xs h r1 r2 => by
    cases vs with
    | cons v vs => have := v.size_pos; rw [WT.sizes] at h; omega
    | nil =>
      cases r1.nil_inv
      have := r2.length
      cases us with
      | nil => rfl
      | cons _ _ => cases this⟩
  | n + 1 => by
    have ih := tups_inj (W := W) hn n
    have h1 : ∀ (v u : WT) (x : V), v.size ≤ n + 1 → Rep K S (v.o W) x → Rep K S (u.o W) x → v = u := fun v u x hz r1 r2 => by
      obtain ⟨a, C, dx, n2, _, x3, p, rfl, hC, e1, t1, q1, _⟩ := r1.way
      obtain ⟨a', C', dx', n2', _, x3', p', e, hC', e2, t2, q2, _⟩ := r2.way
      cases e
      rw [e1] at e2
      injection e2 with e2
      injection e2 with e3 e4 e5
      injection e5 with e6 e5
      injection e5 with e7 e5
      injection e5 with e8 e5
      injection e6 with _ e6
      injection e7 with _ e7
      injection e8 with _ e8
      injection e6 with e6
      injection e7 with e7
      injection e8 with e8
      subst e8
      have e9 := SqT.inj hn t1 t2
      subst e9
      exact WT.ext e6 e7 (ih.2 _ _ _ (by have := v.sizes_inner; omega) q1 q2)
    refine ⟨h1, fun vs => ?_⟩
    induction vs with
    | nil =>
      intro us xs h r1 r2
      cases r1.nil_inv
      have := r2.length
      cases us with
      | nil => rfl
      | cons _ _ => cases this
    | cons v vs iv =>
      intro us xs h r1 r2
      rw [List.map_cons] at r1
      obtain ⟨x, xs, rfl, a1, a2⟩ := r1.cons_inv
      cases us with
      | nil => exact r2.elim
      | cons u us =>
        rw [List.map_cons] at r2
        obtain ⟨y, ys, e, b1, b2⟩ := r2.cons_inv
        cases e
        rw [WT.sizes] at h
        have hv := v.size_pos
        rw [h1 v u x (by omega) a1 b1, iv us xs (by omega) a2 b2]
theorem rep_way_inj {K : PySem.W.Frag} {S : Hp} {W : WA} (hn : ∀ a o, K.lookup a = some o → S a = none) {v u : WT} {x : V} (r1 : Rep K S (v.o W) x) (r2 : Rep K S (u.o W) x) : v = u := (tups_inj hn _).1 v u x (Nat.le_refl _) r1 r2
end DL
set_option Elab.async false
set_option linter.all false
set_option maxRecDepth 100000
set_option maxHeartbeats 1000000
/-! DL19c: == of ways, the rules. -/
namespace DL
open PySem PySem.Spec PyProof.Rows L2
variable [Gh]
theorem idR_W1 {K : PySem.W.Frag} {W : WA} {k : Nat} : IdR K (rdW1 W k) := fun S a d e b hn r1 r2 ⟨v, u, h1, h2, _, h3⟩ => by
  subst h1 h2 h3
  rw [rep_way_inj hn r1 r2]
  exact wEq_self _
theorem rdL_self {K : PySem.W.Frag} {S : Hp} {rd : RdB} (hi : ∀ (d e : D) (x : V) (b : Bool), Rep K S d x → Rep K S e x → rd d e b → b = true) : ∀ {ds es : List D} {xs : List V} {b : Bool}, Reps K S ds xs → Reps K S es xs → rdL rd ds es b → b = true
  | [], [], _, _, _, _, h => h
  | [], _ :: _, _, _, r1, r2, _ => by cases r1.nil_inv; exact r2.elim
  | _ :: _, [], _, _, r1, r2, _ => by cases r2.nil_inv; exact r1.elim
  | d :: ds, e :: es, _, b, r1, r2, h => by
    obtain ⟨x, xs, rfl, a1, a2⟩ := r1.cons_inv
    obtain ⟨k, hk, h1, h2⟩ := h
    have := hi _ _ _ _ a1 r2.1 hk
    subst this
    exact rdL_self hi a2 r2.2 (h1 rfl)
theorem idR_T {K : PySem.W.Frag} {rd : RdB} (hi : ∀ (S : Hp) (d e : D) (x : V) (b : Bool), (∀ a o, K.lookup a = some o → S a = none) → Rep K S d x → Rep K S e x → rd d e b → b = true) : IdR K (rdT rd) := fun S a d e b hn r1 r2 ⟨ds, es, h1, h2, h⟩ => by
  subst h1 h2
  obtain ⟨p, xs, z1, t1, q1⟩ := r1
  obtain ⟨p', ys, z2, t2, q2⟩ := r2
  cases z1
  cases z2
  have := SqT.inj hn t1 t2
  subst this
  exact rdL_self (fun d e x b a1 a2 a3 => hi S d e x b hn a1 a2 a3) q1 q2 h
theorem ids_W1 {K : PySem.W.Frag} {W : WA} {k : Nat} (S : Hp) (d e : D) (x : V) (b : Bool) (hn : ∀ a o, K.lookup a = some o → S a = none) (r1 : Rep K S d x) (r2 : Rep K S e x) (h : rdW1 W k d e b) : b = true := by
  obtain ⟨v, u, h1, h2, _, h3⟩ := h
  subst h1 h2 h3
  rw [rep_way_inj hn r1 r2]
  exact wEq_self _
section
variable {X : Cx} {n k : Nat} {W : WA}
/-- == of a way by the own __eq__ -/
theorem rcB_way {Wy f : Addr} {fd : FuncData} {ps : List Str} (F : FnOk X.prog X.w X.K X.mg X.base CX0 n f fd ps (LSp X.K (spEqW W k))) (hb : Binds X.K fd ps []) (G : WEq X.K W Wy f) : RcB X n (DR X.K (rdW W k)) := by
  intro A pins s σ H x y u v b sb I rx ry d
  obtain ⟨S, d, e, ss, r1, r2, hd⟩ := d
  obtain ⟨v0, rfl⟩ : ∃ v0 : WT, d = v0.o W := by
    rcases hd with ⟨v0, _, h, _⟩ | ⟨v0, h, _⟩ <;> exact ⟨v0, h⟩
  have r1' := r1
  obtain ⟨a, C, dx, n2, _, x3, p, rfl, hC, e1, t1, q1, _⟩ := r1.way
  have rx' := rx
  cases rx
  obtain ⟨mA, J, _⟩ := ins_get I.hok (ss _ _ e1)
  obtain ⟨od, J, _⟩ := J.look
  obtain ⟨m, hF⟩ := I.fr
  have e0 : Env0 X.prog X.w X.K X.mg X.base A X.stack s H := by
    have e := I.env0
    exact ⟨by rw [sb.fr]; exact e.frames, e.mod, e.bs, e.bsz, e.funs, e.frf, e.hok, e.bare⟩
  obtain ⟨tb, hL, hnf⟩ : ∃ tb, PySem.W.Looks (model X.prog X.w) s.heap (typeOf v) tb ∧ PySem.W.notFirst X.K C tb = true := by
    rcases hd with ⟨_, u0, _, rfl, _⟩ | ⟨_, _, ⟨z, rfl⟩ | ⟨es, rfl⟩, _⟩
    · obtain ⟨a', C', dx', n2', _, x3', p', rfl, hC', e1', _⟩ := r2.way
      cases ry
      obtain ⟨mB, J', _⟩ := ins_get I.hok (ss _ _ e1')
      obtain ⟨od', J', _⟩ := J'.look
      exact ⟨_, J'.type, G.nf _ _ hC hC'⟩
    · cases r2
      obtain ⟨t, rfl⟩ := ry
      exact ⟨.type "str", .of_pure rfl, G.nfS _ hC⟩
    · obtain ⟨p', ys, rfl, t2, _⟩ := r2
      cases ry
      obtain ⟨its, w1, ⟨o, ho, hc, _⟩, z1⟩ := I.tuple (DL.Same.tup ss t2)
      refine ⟨.type "tuple", ?_, G.nfT _ hC⟩
      have : PySem.W.Looks (model X.prog X.w) s.heap (typeOf (.ref p')) o.cls := (PySem.W.Looks.ld ho).andThen .now
      rw [hc] at this
      exact this
  refine PySem.W.cmp_K (op := .Eq) (tb := tb) sb.room.units0 hF I.ok.mod.kin J hL hnf (G.eq _ hC) G.fn ?_
  let Fr : Hp := fun c => match S c with
    | none => H c
    | some _ => none
  have hsp : LSp X.K (spEqW W k) [.ref a, y] H (fun v' H' => v' = .bl b ∧ Same H H') (fun _ _ _ => False) := by
    refine ⟨Fr, S, [v0.o W, e], m0, fun d _ => d = .bl b, KX0, ⟨ss, fun c o hc => ?_, fun c o hc => by cases hc⟩, ⟨r1', r2, trivial⟩, ⟨_, _, b, rfl, hd, rfl⟩, fun v' H' S' M' d' s' c' r' hd' => ?_, fun _ _ _ _ _ _ _ _ _ _ z => z.elim⟩
    · have hc : (match S c with | none => H c | some _ => none) = some o := hc
      cases hS : S c with
      | none => rw [hS] at hc; exact ⟨hc, rfl, rfl⟩
      | some o' => rw [hS] at hc; cases hc
    · subst hd'
      refine ⟨r', fun c o hc => ?_⟩
      cases hS : S c with
      | none => exact (c'.fr c o (by show (match S c with | none => H c | some _ => none) = some o; rw [hS]; exact hc)).1
      | some o' =>
        have := ss _ _ hS
        rw [hc] at this
        cases this
        exact c'.same _ _ (s' _ _ hS)
  have hl := F.len _ _ _ _ hsp
  have r2 : Vals [V.ref a, y] [Value.ref a, v] := .cons rfl (.cons ry .nil)
  refine wpAny_call (codeAny_mono (F.run A X.stack s H ⟨[.ref a, v], []⟩ [.ref a, v] [.ref a, y] _ _ sb.room e0 (by
    have := hb s [.ref a, v] I.kIn (by simpa using hl)
    simpa using this) r2 hsp) fun r s' hq => ?_)
  cases r with
  | error e => exact (pass0 (X := X) pins σ H s e s' I hq : _)
  | ok fl =>
    cases fl with
    | ret w =>
      obtain ⟨z, H', I', rz, ez, ex⟩ := I.after hq
      subst ez
      cases rz
      exact ⟨rfl, H', I', ex⟩
    | next => exact False.elim hq
    | brk => exact False.elim hq
    | cont => exact False.elim hq
/-- == of the tuples that __eq__ compares -/
theorem rcB_eqT {Wy f : Addr} {fd : FuncData} {ps : List Str} (F : FnOk X.prog X.w X.K X.mg X.base CX0 n f fd ps (LSp X.K (spEqW W k))) (hb : Binds X.K fd ps []) (G : WEq X.K W Wy f) : RcB X (n + 2) (DR X.K (rdT (rdE W k))) := by
  have h0 : RcB X n (DR X.K (rdW1 W k)) := fun A pins s σ H x y u v b sb I rx ry ⟨S, d, e, ss, r1, r2, hd⟩ => rcB_way F hb G A pins s σ H x y u v b sb I rx ry ⟨S, d, e, ss, r1, r2, .inl hd⟩
  have h1 : EqB X n (DR X.K (rdW1 W k)) := h0.eqB (fun d e b ⟨v, u, h, _⟩ => by obtain ⟨C, ns, ds, ho, _⟩ := WT.o_obj W v; exact .inr ⟨_, _, _, h.trans ho⟩) (fun d e b ⟨v, u, _, h, _⟩ => by obtain ⟨C, ns, ds, ho, _⟩ := WT.o_obj W u; exact .inr ⟨_, _, _, h.trans ho⟩) idR_W1
  have h2 : RcB X (n + 1) (DR X.K (rdT (rdW1 W k))) := rcB_tup h1
  have h3 : EqB X (n + 1) (DR X.K (rdT (rdW1 W k))) := h2.eqB (fun d e b ⟨ds, es, h, _⟩ => .inl ⟨ds, h⟩) (fun d e b ⟨ds, es, _, h, _⟩ => .inl ⟨es, h⟩) (idR_T ids_W1)
  exact rcB_tup ((eqB_flat.mono (Nat.zero_le _)).or h3)
end
noncomputable def lEq (vs us : List WT) : Bool := @decide (vs = us) (Classical.propDecidable _)
theorem lEq_true {v u : List WT} : lEq v u = true ↔ v = u := @decide_eq_true_iff _ (Classical.propDecidable _)
theorem lEq_false {v u : List WT} : lEq v u = false ↔ v ≠ u := @decide_eq_false_iff_not _ (Classical.propDecidable _)
theorem rdL_ways {W : WA} {k : Nat} : ∀ (vs us : List WT), (∀ v ∈ vs, v.size ≤ k) → rdL (rdW1 W k) (vs.map (WT.o W)) (us.map (WT.o W)) (lEq vs us)
  | [], [], _ => lEq_true.mpr rfl
  | [], _ :: _, _ => lEq_false.mpr fun z => nomatch z
  | _ :: _, [], _ => lEq_false.mpr fun z => nomatch z
  | v :: vs, u :: us, h => by
    refine ⟨wEq v u, ⟨v, u, rfl, rfl, h v List.mem_cons_self, rfl⟩, fun q => ?_, fun q => ?_⟩
    · have e := wEq_true.mp q
      subst e
      have h1 := rdL_ways (W := W) (k := k) vs us fun x hx => h x (List.mem_cons_of_mem _ hx)
      have h2 : lEq (v :: vs) (v :: us) = lEq vs us := by
        cases h3 : lEq vs us with
        | true => exact lEq_true.mpr (by rw [lEq_true.mp h3])
        | false => exact lEq_false.mpr fun z => lEq_false.mp h3 (List.cons.inj z).2
      rw [h2]
      exact h1
    · exact lEq_false.mpr fun z => wEq_false.mp q (List.cons.inj z).1
theorem rdE_way {W : WA} {k : Nat} {v u : WT} (h : v.size ≤ k + 1) : rdT (rdE W k) (.tup [.str v.word, .str v.sign, .tup (v.inner.map (WT.o W))]) (.tup [.str u.word, .str u.sign, .tup (u.inner.map (WT.o W))]) (wEq v u) := by
  refine ⟨_, _, rfl, rfl, v.word == u.word, .inl ⟨rfl, rfl, rfl⟩, fun h1 => ⟨v.sign == u.sign, .inl ⟨rfl, rfl, rfl⟩, fun h2 => ⟨_, .inr ⟨_, _, rfl, rfl, rdL_ways v.inner u.inner fun x hx => ?_⟩, fun h3 => ?_, fun h3 => ?_⟩, fun h2 => ?_⟩, fun h1 => ?_⟩
  · have := v.sizes_inner
    have := WT.sizes_mem hx
    omega
  · exact wEq_true.mpr (WT.ext (beq_iff_eq.mp h1) (beq_iff_eq.mp h2) (lEq_true.mp h3))
  · exact wEq_false.mpr fun z => lEq_false.mp h3 (by rw [z])
  · exact wEq_false.mpr fun z => beq_eq_false_iff_ne.mp h2 (by rw [z])
  · exact wEq_false.mpr fun z => beq_eq_false_iff_ne.mp h1 (by rw [z])
end DL
set_option Elab.async false
set_option linter.all false
set_option maxRecDepth 100000
set_option maxHeartbeats 1000000
/-! DL19d: a builtin that calls an own method; len of ways; a < b < c. -/
namespace DL
open PySem PySem.Spec PyProof.Rows L2
variable [Gh]
section
variable {X : Cx} {n : Nat} {f : Addr} {fd : FuncData} {ps : List Str} {sp : Sp}
/-- an own def is called from below a builtin -/
theorem own_call (F : FnOk X.prog X.w X.K X.mg X.base CX0 n f fd ps sp) (hb : Binds X.K fd ps []) {A : Around} (sb : Sub X n A) {pins : List (Addr × Obj)} {s : Shared} {σ : L2.St} {H : Hp} {vs : List V} {us : List Value} {Q : VK} (I : Inv X pins σ H s) (r : Vals vs us)
    (h : sp vs H Q fun _ _ _ => False) : wpAny (model X.prog X.w) A (call (.ref f) us) (EP X pins σ Q) X.xe s := by
  have e0 : Env0 X.prog X.w X.K X.mg X.base A X.stack s H := by
    have e := I.env0
    exact ⟨by rw [sb.fr]; exact e.frames, e.mod, e.bs, e.bsz, e.funs, e.frf, e.hok, e.bare⟩
  have hl := F.len _ _ _ _ h
  refine wpAny_call (codeAny_mono (F.run A X.stack s H ⟨us, []⟩ us vs _ _ sb.room e0 (by
    have := hb s us I.kIn (by rw [List.append_nil, ← r.length]; exact hl)
    rw [List.append_nil] at this
    exact this) r h) fun r s' hq => ?_)
  cases r with
  | error e => exact (pass0 (X := X) pins σ H s e s' I hq : _)
  | ok fl =>
    cases fl with
    | ret w => exact I.after hq
    | next => exact False.elim hq
    | brk => exact False.elim hq
    | cont => exact False.elim hq
end
/-- an own method that a builtin calls, on ways -/
structure OwnM (P : Program) (w : World) (K : PySem.W.Frag) (mg : Str → Option Value) (base : Heap) (W : WA) (m : Str) (k : Nat) (sp : DSp) : Prop where
  ex : ∃ f fd ps, FnOk P w K mg base CX0 k f fd ps (LSp K sp) ∧ Binds K fd ps [] ∧ PySem.W.isFn K (.ref f) = true ∧ ∀ C, W.has C → PySem.W.findIn K (.ref C) m = some (some (.ref f))
section
variable {X : Cx} {n : Nat} {W : WA}
end
section
variable {X : Cx} {k : Nat} {W : WA} {m : Str} {f : Addr} {sp : DSp} {o e : Expr} {es : List Expr} {pos apos : Pos} {ta : DT} {t : DTA}
end
end DL
set_option Elab.async false
set_option linter.all false
set_option maxRecDepth 100000
set_option maxHeartbeats 1000000
/-! DL20: == of ways as a rule of the layer; parts by paths. -/
namespace DL
open PySem PySem.Spec PyProof.Rows L2
variable [Gh]
/-- == of ways whose left one has at most S parts -/
structure EqM (P : Program) (w : World) (K : PySem.W.Frag) (mg : Str → Option Value) (base : Heap) (W : WA) (S : Nat) (k : Nat) : Prop where
  ex : ∃ Wy f fd ps, FnOk P w K mg base CX0 k f fd ps (LSp K (spEqW W S)) ∧ Binds K fd ps [] ∧ WEq K W Wy f
@[reducible] def rdEqW (W : WA) (S : Nat) : RD2 := fun d e env M Q => ∃ b, rdW W S d e b ∧ Q (.bl b) env M
theorem od_eqW {X : Cx} {W : WA} {S n : Nat} (h : EqM X.prog X.w X.K X.mg X.base W S n) (hr : Room n X.A) : OpD X (compareOp .Eq) (rdEqW W S) := by
  obtain ⟨Wy, f, fd, ps, F, hb, G⟩ := h.ex
  exact od_eqB (rcB_way F hb G) hr
theorem rdW_ways {W : WA} {S : Nat} {v u : WT} (h : v.size ≤ S) : rdW W S (v.o W) (u.o W) (wEq v u) := .inl ⟨v, u, rfl, rfl, h, rfl⟩
mutual
theorem WT.parts_app (p q : List Nat) : ∀ v : WT, v.parts (p ++ q) = (v.parts q).map fun x => (p ++ x.1, x.2)
  | .un k v => by
    simp only [WT.parts, List.map_cons]
    rw [List.append_assoc, WT.parts_app p (q ++ [0]) v]
  | .many c ws => by
    simp only [WT.parts, List.map_cons]
    rw [WT.partsL_app p q 0 ws]
  | .nothing => rfl
  | .one => rfl
  | .letter _ => rfl
  | .call _ => rfl
theorem WT.partsL_app (p q : List Nat) (i : Nat) : ∀ ws : List WT, WT.partsL (p ++ q) i ws = (WT.partsL q i ws).map fun x => (p ++ x.1, x.2)
  | [] => rfl
  | w :: ws => by
    simp only [WT.partsL, List.map_append]
    rw [List.append_assoc, WT.parts_app p (q ++ [i]) w, WT.partsL_app p q (i + 1) ws]
end
mutual
theorem WT.parts_bound (p : List Nat) : ∀ v : WT, ∀ x ∈ v.parts p, x.1.length + x.2.size ≤ p.length + v.size
  | .un k v => fun x hx => by
    simp only [WT.parts, List.mem_cons] at hx
    rcases hx with rfl | hx
    · exact Nat.le_refl _
    · have := WT.parts_bound (p ++ [0]) v x hx
      rw [List.length_append, List.length_singleton] at this
      simp only [WT.size]
      omega
  | .many c ws => fun x hx => by
    simp only [WT.parts, List.mem_cons] at hx
    rcases hx with rfl | hx
    · exact Nat.le_refl _
    · have := WT.partsL_bound p 0 ws x hx
      simp only [WT.size]
      omega
  | .nothing => fun x hx => by rw [List.mem_singleton.mp hx]; exact Nat.le_refl _
  | .one => fun x hx => by rw [List.mem_singleton.mp hx]; exact Nat.le_refl _
  | .letter _ => fun x hx => by rw [List.mem_singleton.mp hx]; exact Nat.le_refl _
  | .call _ => fun x hx => by rw [List.mem_singleton.mp hx]; exact Nat.le_refl _
theorem WT.partsL_bound (p : List Nat) (i : Nat) : ∀ ws : List WT, ∀ x ∈ WT.partsL p i ws, x.1.length + x.2.size ≤ p.length + WT.sizes ws + 1
  | [] => fun x hx => by cases hx
  | w :: ws => fun x hx => by
    simp only [WT.partsL, List.mem_append] at hx
    simp only [WT.sizes]
    rcases hx with hx | hx
    · have := WT.parts_bound (p ++ [i]) w x hx
      rw [List.length_append, List.length_singleton] at this
      omega
    · have := WT.partsL_bound p (i + 1) ws x hx
      omega
end
theorem WT.inner_le (v : WT) : v.inner.length < v.size := by
  have := v.sizes_inner
  have := WT.sizes_length v.inner
  omega
/-! ### in, by deep == -/
/-! ### tuples of ints as data -/
@[reducible] def zs (p : List Nat) : List Int := p.map fun n => ((n : Nat) : Int)
/-! ### at tells the parts -/
end DL
set_option Elab.async false
set_option linter.all false
set_option maxRecDepth 100000
set_option maxHeartbeats 1000000
/-! DL21: what a head's facts must tell of the ways' classes, as Bools. -/
namespace DL
open PySem PySem.Spec PyProof.Rows L2 He
def WAof (K : PySem.W.Frag) : WA := ⟨ga K "Nothing", ga K "One", ga K "Letter", ga K "Call", fun k => match k with | .again => ga K "Again" | .maybe => ga K "Maybe" | .ahead => ga K "Ahead" | .unless => ga K "Unless", fun b => match b with | false => ga K "Row" | true => ga K "Choice"⟩
theorem has_of {K : PySem.W.Frag} {C : Addr} (h : (WAof K).has C) : ∃ c ∈ wayNs, C = ga K c := by
  have key : ∀ c : Str, wayNs.contains c = true → C = ga K c → ∃ c ∈ wayNs, C = ga K c := fun c hc e => ⟨c, List.contains_iff_mem.mp hc, e⟩
  rcases h with rfl | rfl | rfl | rfl | ⟨k, rfl⟩ | ⟨b, rfl⟩
  · exact key "Nothing" (by decide +kernel) rfl
  · exact key "One" (by decide +kernel) rfl
  · exact key "Letter" (by decide +kernel) rfl
  · exact key "Call" (by decide +kernel) rfl
  · cases k
    · exact key "Again" (by decide +kernel) rfl
    · exact key "Maybe" (by decide +kernel) rfl
    · exact key "Ahead" (by decide +kernel) rfl
    · exact key "Unless" (by decide +kernel) rfl
  · cases b
    · exact key "Row" (by decide +kernel) rfl
    · exact key "Choice" (by decide +kernel) rfl
theorem metB_ok {K : PySem.W.Frag} {m : Str} (h : metB K m = true) : (∀ C, (WAof K).has C → PySem.W.findIn K (.ref C) m = some (some (.ref (fAd K ("Way", some m))))) ∧ PySem.W.isFn K (.ref (fAd K ("Way", some m))) = true ∧ PySem.W.keepIn K (.ref (fAd K ("Way", some m))) = true := by
  obtain ⟨h1, h2⟩ := ba h
  obtain ⟨h2, h3⟩ := ba h2
  refine ⟨fun C hC => ?_, h2, h3⟩
  obtain ⟨c, hc, rfl⟩ := has_of hC
  exact eqO_ok (List.all_eq_true.mp h1 c hc)
theorem meth_ok {K : PySem.W.Frag} {m : Str} (h : metB K m = true) (hF : WOk K (WAof K)) : ∀ C, (WAof K).has C → Cls K C ∧ Meth K C m (fAd K ("Way", some m)) := fun C hC =>
  ⟨(hF C hC "word" (List.contains_iff_mem.mp (by decide +kernel))).1, ⟨(metB_ok h).1 C hC, (metB_ok h).2.1, (metB_ok h).2.2⟩⟩
theorem eqWB_ok {K : PySem.W.Frag} (h : eqWB K = true) (hF : WOk K (WAof K)) : WEq K (WAof K) (ga K "Way") (fAd K ("Way", some "__eq__")) := by
  obtain ⟨m, h⟩ := ba h
  obtain ⟨hc, h⟩ := ba h
  obtain ⟨ha, h⟩ := ba h
  obtain ⟨hs, ht⟩ := ba h
  obtain ⟨hg, hk⟩ := ba hc
  have all : ∀ C, (WAof K).has C → ClsIs K C ∧ PySem.W.kitOne K (.ref C) (.ref (ga K "Way")) = some true ∧ PySem.W.notFirst K C (.type "str") = true ∧ PySem.W.notFirst K C (.type "tuple") = true ∧ ∀ C', (WAof K).has C' → PySem.W.notFirst K C (.ref C') = true := fun C hC => by
    have hcl := (hF C hC "word" (List.contains_iff_mem.mp (by decide +kernel))).1
    obtain ⟨c, hcm, rfl⟩ := has_of hC
    obtain ⟨a1, a⟩ := ba (List.all_eq_true.mp ha c hcm)
    obtain ⟨a2, a⟩ := ba a
    obtain ⟨a3, a⟩ := ba a
    obtain ⟨a4, a5⟩ := ba a
    obtain ⟨b1, b2⟩ := ba a1
    refine ⟨⟨hcl, eqO_ok b1, eqO_ok hg, of_decide_eq_true hk, of_decide_eq_true b2⟩, of_decide_eq_true a2, a3, a4, fun C' hC' => ?_⟩
    obtain ⟨c', hcm', rfl⟩ := has_of hC'
    exact List.all_eq_true.mp a5 c' hcm'
  exact ⟨fun C hC => (all C hC).1, fun C hC => (all C hC).2.1, of_decide_eq_true hs, of_decide_eq_true ht, (metB_ok m).1, (metB_ok m).2.1, fun C C' hC hC' => (all C hC).2.2.2.2 C' hC', fun C hC => (all C hC).2.2.1, fun C hC => (all C hC).2.2.2.1⟩
end DL
set_option Elab.async false
set_option linter.all false
set_option maxRecDepth 100000
set_option maxHeartbeats 1000000
/-! DL22: texts joined, repeated. -/
namespace DL
open PySem PySem.Spec PyProof.Rows L2
variable [Gh]
def strsD : List D → Option (List Str)
  | [] => some []
  | .str s :: r => (strsD r).map (s :: ·)
  | _ :: _ => none
theorem reps_strs {K : PySem.W.Frag} {S : Hp} : ∀ {ds : List D} {vs : List V} {ys : List Str}, Reps K S ds vs → strsD ds = some ys → vs = ys.map V.str
  | [], vs, ys, r, h => by cases r.nil_inv; cases h; rfl
  | d :: ds, vs, ys, r, h => by
    obtain ⟨v, us, rfl, r1, r2⟩ := r.cons_inv
    cases d with
    | str s =>
      unfold strsD at h
      cases e : strsD ds with
      | none => rw [e] at h; cases h
      | some zs =>
        rw [e] at h
        cases h
        cases r1
        rw [reps_strs r2 e]
        rfl
    | _ => cases h
theorem strsD_map (ys : List Str) : strsD (ys.map D.str) = some ys := by
  induction ys with
  | nil => rfl
  | cons y ys ih => rw [List.map_cons, strsD, ih]; rfl
/-- sep.join(texts) -/
@[reducible] def dJoin (ta te : DT) : DT := fun env M Q => ta env M fun d env1 M1 => match d with
  | .str a => te env1 M1 fun e env2 M2 => (match seqD e with
    | some es => (match strsD es with
      | some ys => (ys.map (·.length)).sum + ys.length * a.length ≤ 16777216 ∧ Q (.str (Str.join a ys)) env2 M2
      | none => False)
    | none => False)
  | _ => False
section
variable {X : Cx}
theorem d_join {o e : Expr} {apos pos : Pos} {ta te : DT} (ho : DE X o ta) (he : DE X e te) (hs : starEach [e] X.env = [(false, eval e X.env)] := by rfl) (hbase : attributeBase o "join" X.env (eval o X.env) = eval o X.env := by rfl) (hline : (apos.endLine == pos.line) = true := by rfl) : DE X (.Call (.Attribute o "join" apos) [e] [] pos) (dJoin ta te) := by
  refine pe_imp (pe_join ho he (hs := hs) (hbase := hbase) (hline := hline)) fun σ H Q ⟨F, S, env, M, Qd, R, t, p⟩ => ⟨F, S, env, M, _, R, t, fun v H1 S1 env1 M1 d s1 R1 r1 q1 => ?_⟩
  cases d with
  | str a =>
    cases r1
    refine ⟨⟨a, rfl⟩, F, S1, env1, M1, _, R1, q1, fun u H2 S2 env2 M2 e s2 R2 r2 q2 => ?_⟩
    cases hd : seqD e with
    | none => simp only [hd] at q2
    | some es =>
      simp only [hd] at q2
      cases hy : strsD es with
      | none => simp only [hy] at q2
      | some ys =>
        simp only [hy] at q2
        obtain ⟨hz, q2⟩ := q2
        obtain ⟨p1, xs, rfl, h, t1⟩ := rep_seq R2.c.same hd r2
        have e1 := reps_strs t1 hy
        refine ⟨a, p1, ys, rfl, rfl, by rw [← e1]; exact h, hz, ?_⟩
        rw [TL.join_eq]
        exact p _ H2 S2 env2 M2 (.str _) (s1.trans s2) R2 rfl q2
  | _ => exact q1.elim
end
theorem tkAgain_shift {f g : Nat → Option Nat} {p L : Nat} (hfg : ∀ q, p + q ≤ L → f q = g (p + q)) (hg : ∀ q t, q ≤ L → g q = some t → q + t ≤ L) : ∀ n q, p + q ≤ L → tkAgain f n q = tkAgain g n (p + q)
  | 0, q, _ => rfl
  | n + 1, q, h => by
    unfold tkAgain
    rw [hfg q h]
    cases e : g (p + q) with
    | none => rfl
    | some t =>
      cases t with
      | zero => rfl
      | succ t =>
        have h3 := hg (p + q) (t + 1) h e
        show (t + 1) + _ = (t + 1) + _
        rw [tkAgain_shift hfg hg n (q + (t + 1)) (by omega), show p + (q + (t + 1)) = p + q + (t + 1) from by omega]
mutual
/-- what is taken hangs on the letters from the place on alone -/
theorem tk_drop (l : List Nat) (p : Nat) : ∀ (w : WT) (q : Nat), p + q ≤ l.length → tk (l.drop p) w q = tk l w (p + q)
  | .nothing, q, h => by rw [tk, tk]
  | .one, q, h => by
    rw [tk, tk, List.length_drop]
    by_cases c : q < l.length - p
    · rw [if_pos c, if_pos (by omega)]
    · rw [if_neg c, if_neg (by omega)]
  | .letter s, q, h => by rw [tk, tk, List.getElem?_drop]
  | .call s, q, h => by rw [tk, tk]
  | .un .again w, q, h => by
    rw [tk, tk, tkAgain_shift (L := l.length) (fun q h => tk_drop l p w q h) (tk_le l w) _ q h, tkAgain_fuel (tk_le l w) _ (l.length + 1) (p + q) h (by rw [List.length_drop]; omega) (by omega)]
  | .un .maybe w, q, h => by rw [tk, tk, tk_drop l p w q h]
  | .un .ahead w, q, h => by rw [tk, tk, tk_drop l p w q h]
  | .un .unless w, q, h => by rw [tk, tk, tk_drop l p w q h]
  | .many true ws, q, h => by rw [tk, tk, tkChoice_drop l p ws q h]
  | .many false ws, q, h => by rw [tk, tk, tkRow_drop l p ws q h]
theorem tkRow_drop (l : List Nat) (p : Nat) : ∀ (ws : List WT) (q : Nat), p + q ≤ l.length → tkRow (l.drop p) ws q = tkRow l ws (p + q)
  | [], q, h => by rw [tkRow, tkRow]
  | w :: ws, q, h => by
    rw [tkRow, tkRow, tk_drop l p w q h]
    cases e : tk l w (p + q) with
    | none => rfl
    | some t =>
      have h3 := tk_le l w (p + q) t h e
      show Option.map _ _ = Option.map _ _
      rw [tkRow_drop l p ws (q + t) (by omega), Nat.add_assoc]
theorem tkChoice_drop (l : List Nat) (p : Nat) : ∀ (ws : List WT) (q : Nat), p + q ≤ l.length → tkChoice (l.drop p) ws q = tkChoice l ws (p + q)
  | [], q, h => by rw [tkChoice, tkChoice]
  | w :: ws, q, h => by
    rw [tkChoice, tkChoice, tk_drop l p w q h, tkChoice_drop l p ws q h]
end
end DL
set_option Elab.async false
set_option linter.all false
set_option maxRecDepth 100000
set_option maxHeartbeats 1000000
/-! DL23: papers of needs; all; is of bools. -/
namespace DL
open PySem PySem.Spec PyProof.Rows L2
variable [Gh]
/-! ### all, is -/
/-! ### fields by their names -/
/-! ### papers -/
def lookN : List Str := ["need", "one", "other"]
def endN : List Str := ["head", "ring", "one", "other"]
structure PA where
  lk : Addr
  en : Addr
structure POk (K : PySem.W.Frag) (B : PA) : Prop where
  lk : ∀ n ∈ lookN, FldOk K B.lk n
  en : ∀ n ∈ endN, FldOk K B.en n
  isL : ClsIs K B.lk
  isE : ClsIs K B.en
  no : PySem.W.kitOne K (.ref B.lk) (.ref B.en) = some false
  yes : PySem.W.kitOne K (.ref B.en) (.ref B.en) = some true
/-! ### what two texts have in common -/
/-! ### promises -/
section
variable {a b c d : D}
end
/-! ### the law's own words for papers -/
/-! ### what a head tells of papers -/
end DL
set_option Elab.async false
set_option linter.all false
set_option maxRecDepth 100000
set_option maxHeartbeats 1000000
/-! DL24: own + and |, != by an own __eq__, str by an own __str__. -/
namespace DLW
open PySem PySem.W PySem.Calls PyProof.Rows Builtin
section
variable {M : Model} {h : Heap} {K : Frag} {C C' f : Addr} {nm : String}
end
section
variable {prog : Program} {w : World} {A : Around} {E : Value → Shared → Prop} {s : Shared} {K : Frag} {x C C' L f : Addr} {h₀ : Heap} {m : Str → Option Value} {ox : Obj} {od : Option Obj}
end
end DLW
namespace DL
open PySem PySem.Spec PyProof.Rows L2
variable [Gh]
/-- of which type a value is seen to be -/
inductive TyL (K : PySem.W.Frag) (H : Hp) : V → Value → Prop where
  | str (z : Str) : TyL K H (.str z) (.type "str")
  | tup {p : Addr} {ys : List V} (h : SqT K H p ys) : TyL K H (.ref p) (.type "tuple")
  | lst {p : Addr} {ys : List V} (h : H p = some (.lst ys)) : TyL K H (.ref p) (.type "list")
  | ins {p C dx : Addr} {fs : List (Str × V)} (h : H p = some (.ins C dx fs)) : TyL K H (.ref p) (.ref C)
/-- what two ways' + and | want of the head -/
structure BinW (K : PySem.W.Frag) (W : WA) (m r : Str) (f : Addr) : Prop where
  fst : ∀ C, W.has C → PySem.W.selfFirst K C = true
  at_ : ∀ C, W.has C → PySem.W.findIn K (.ref C) m = some (some (.ref f))
  no : ∀ C, W.has C → PySem.W.findIn K (.ref C) r = some none
  nf : ∀ C C', W.has C → W.has C' → C ≠ C' → PySem.W.subIn K (.ref C') (.ref C) = some false
  fn : PySem.W.isFn K (.ref f) = true
def spBinW (W : WA) (c : Bool) : DSp := fun ds M Q _ => ∃ v u : WT, ds = [v.o W, u.o W] ∧ Q ((WT.many c [v, u]).o W) M
structure BinM (P : Program) (w : World) (K : PySem.W.Frag) (mg : Str → Option Value) (base : Heap) (W : WA) (c : Bool) (m r : Str) (k : Nat) : Prop where
  ex : ∃ f fd ps, FnOk P w K mg base CX0 k f fd ps (LSp K (spBinW W c)) ∧ Binds K fd ps [] ∧ BinW K W m r f
section
variable {X : Cx} {n : Nat} {W : WA}
end
end DL
namespace DL
open PySem PySem.Spec PyProof.Rows L2
variable [Gh]
/-- != of ways -/
structure NeM (K : PySem.W.Frag) (W : WA) : Prop where
  ne : ∀ C, W.has C → PySem.W.findIn K (.ref C) "__ne__" = some (some (.builtin "object.__ne__"))
section
variable {X : Cx} {n S : Nat} {W : WA}
/-- str(way) by the own __str__ -/
def spStrW (W : WA) (f : WT → Str) (C : WT → Prop) : DSp := fun ds M Q _ => ∃ v : WT, ds = [v.o W] ∧ C v ∧ Q (.str (f v)) M
@[reducible] def rdStrW (W : WA) (f : WT → Str) (C : WT → Prop) : RDA := fun ds env M Q => ∃ v : WT, ds = [v.o W] ∧ C v ∧ Q (.str (f v)) env M
theorem cd_strW {f : WT → Str} {C : WT → Prop} (h : OwnM X.prog X.w X.K X.mg X.base W "__str__" n (spStrW W f C)) (hr : Room (n + 2) X.A) : CallD X (.type "str") (rdStrW W f C) := by
  obtain ⟨fa, fd, ps, F, hb, fn, hf⟩ := h.ex
  refine ⟨⟨fun xs H Q => ∃ a D dx fs, xs = [.ref a] ∧ H a = some (.ins D dx fs) ∧ W.has D ∧ LSp X.K (spStrW W f C) [.ref a] H (fun v H' => ∃ z, v = .str z ∧ Q (.str z) H') (fun _ _ _ => False), fun pins s σ H xs us Q I r hq => ?_, fun F' S' σ H env M xs ds Qd Q R r q p => ?_⟩⟩
  · obtain ⟨a, D, dx, fs, rfl, h1, hD, hl⟩ := hq
    obtain ⟨u, rfl, ru⟩ := vals1 r
    obtain rfl : u = Value.ref a := ru
    obtain ⟨mA, J, _⟩ := ins_get I.hok h1
    obtain ⟨od, J, _⟩ := J.look
    have hr2 : Room n X.A.in1.in1 := (Room.in1 (k := n + 1) hr).in1
    refine PySem.W.kso_call hr2.units0 I.kIn J (hf _ hD) fn (wpAny_mono (own_call F hb ⟨hr2, rfl⟩ I (show Vals [V.ref a] [Value.ref a] from .cons rfl .nil) hl) (fun w' s' hv => ?_) fun _ _ x => x)
    obtain ⟨z, H', I', rz, y, rfl, hq⟩ := hv
    obtain ⟨t, rfl⟩ := rz
    exact ⟨.str y, H', I', ⟨t, rfl⟩, hq⟩
  · obtain ⟨v, rfl, hc, q⟩ := q
    obtain ⟨u, rfl, r1⟩ := r.one
    have r1' := r1
    obtain ⟨a, D, dx, n2, _, x3, p', rfl, hD, e1, _⟩ := r1.way
    refine ⟨a, D, dx, _, rfl, R.c.same _ _ e1, hD, sp_of R (show Reps X.K S' [v.o W] [V.ref a] from ⟨r1', trivial⟩) (Qd := fun d env M => d = .str (f v) ∧ Qd (.str (f v)) env M) ⟨v, rfl, hc, rfl, q⟩ fun v' H' S'' env' M' d s' R' r' ⟨hd', q⟩ => ?_⟩
    subst hd'
    exact ⟨_, r', p _ H' S'' env' M' (.str (f v)) s' R' rfl q⟩
end
end DL
namespace DL
open PySem PySem.Spec PyProof.Rows L2
variable [Gh]
/-! ### f-strings -/
@[reducible] def dFmt (te : DT) : DT := fun env M Q => te env M fun d env1 M1 => match d with
  | .str y => y.length ≤ sizeLine ∧ Q (.str y) env1 M1
  | _ => False
@[reducible] def dJs : List DT → Str → Ev → Mem → (Str → Ev → Mem → Prop) → Prop
  | [], acc, env, M, Q => Q acc env M
  | t :: ts, acc, env, M, Q => t env M fun d env1 M1 => match d with
    | .str y => (acc ++ y).length ≤ sizeLine ∧ dJs ts (acc ++ y) env1 M1 Q
    | _ => False
inductive DJ (X : Cx) : List Expr → List DT → Prop where
  | nil : DJ X [] []
  | cons {e : Expr} {t : DT} {es : List Expr} {ts : List DT} (h : DE X e t) (r : DJ X es ts) : DJ X (e :: es) (t :: ts)
section
variable {X : Cx}
theorem d_fmt {e : Expr} {te : DT} {pos : Pos} (he : DE X e te) : DE X (.FormattedValue e (-1) none pos) (dFmt te) := pe_imp (pe_fmt he) fun σ H Q ⟨F, S, env, M, Qd, R, t, p⟩ => ⟨F, S, env, M, _, R, t, fun v H1 S1 env1 M1 d s1 R1 r1 q1 => by
  cases d with
  | str y =>
    cases r1
    exact .inl ⟨y, rfl, q1.1, p _ H1 S1 env1 M1 (.str y) s1 R1 rfl q1.2⟩
  | _ => exact q1.elim⟩
theorem js_lift {K : PySem.W.Frag} {F : Hp} {Qs : Str → Hp → Prop} {Qd : Str → Ev → Mem → Prop} {σ : L2.St} : ∀ (ts : List DT) (acc : Str) (S H : Hp) (env : Ev) (M : Mem), Rel K F S σ H env M → dJs ts acc env M Qd → (∀ z S' H' env' M', Same S S' → Rel K F S' σ H' env' M' → Qd z env' M' → Qs z H') → tJs (ts.map (LE K)) acc σ H Qs
  | [], acc, S, H, env, M, R, q, p => p acc S H env M (Same.refl _) R q
  | t :: ts, acc, S, H, env, M, R, q, p => ⟨F, S, env, M, _, R, q, fun v H1 S1 env1 M1 d s1 R1 r1 q1 => by
    cases d with
    | str y =>
      cases r1
      exact ⟨y, rfl, q1.1, js_lift ts (acc ++ y) S1 H1 env1 M1 R1 q1.2 fun z S' H' env' M' s' => p z S' H' env' M' (s1.trans s')⟩
    | _ => exact q1.elim⟩
theorem dj_pj {es : List Expr} {ts : List DT} (h : DJ X es ts) : PJ X es (ts.map (LE X.K)) := by
  induction h with
  | nil => exact .nil
  | cons h r ih => exact .cons h ih
theorem d_joined {v1 v2 : Expr} {rest : List Expr} {ts : List DT} {pos : Pos} (h : DJ X (v1 :: v2 :: rest) ts) : DE X (.JoinedStr (v1 :: v2 :: rest) pos) (fun env M Q => dJs ts Str.empty env M fun z env1 M1 => Q (.str z) env1 M1) :=
  pe_imp (pe_joined (dj_pj h)) fun σ H Q ⟨F, S, env, M, Qd, R, t, p⟩ => js_lift ts Str.empty S H env M R t fun z S' H' env' M' s' R' q => p _ H' S' env' M' (.str z) s' R' rfl q
theorem d_joined1 {e : Expr} {te : DT} {pos : Pos} (h : DE X e te) : DE X (.JoinedStr [e] pos) te := pe_joined1 h
/-! ### d[k] of a dict of the text -/
@[reducible] def dIxK (K : PySem.W.Frag) (w : World) (kvs : List (Str × D)) (a : Addr) (ta tb : DT) : DT := fun env M Q => ta env M fun d env1 M1 => d = .ref a ∧ tb env1 M1 fun e env2 M2 => match e with
  | .str z => (match kvs.lookup z with
    | some r => Q r env2 M2
    | none => False)
  | _ => False
/-- a table of the text with texts as keys -/
structure TabK (K : PySem.W.Frag) (w : World) (a : Addr) (kvs : List (Str × D)) : Prop where
  at_ : ∀ z r, kvs.lookup z = some r → ∃ v, KDct K w a z v ∧ ∀ S, Rep K S r v
theorem d_ixK {a : Addr} {kvs : List (Str × D)} {e k : Expr} {ta tb : DT} {pos : Pos} (h : TabK X.K X.w a kvs) (he : DE X e ta) (hk : DE X k tb) (hs : PlainIx k := by exact fun _ _ => rfl) : DE X (.Subscript e k pos) (dIxK X.K X.w kvs a ta tb) := by
  refine pe_imp (pe_ix ix_kdict he hk hs) fun σ H Q ⟨F, S, env, M, Qd, R, t, p⟩ => ⟨F, S, env, M, _, R, t, fun v H1 S1 env1 M1 d s1 R1 r1 q1 => ?_⟩
  obtain ⟨rfl, q1⟩ := q1
  refine ⟨F, S1, env1, M1, _, R1, q1, fun u H2 S2 env2 M2 e s2 R2 r2 q2 => ?_⟩
  cases e with
  | str z =>
    cases r1
    cases r2
    have q2' : (match kvs.lookup z with
      | some r => Qd r env2 M2
      | none => False) := q2
    cases hl : kvs.lookup z with
    | none => rw [hl] at q2'; exact q2'.elim
    | some r =>
      rw [hl] at q2'
      obtain ⟨v, hv, hr⟩ := h.at_ z r hl
      exact ⟨a, z, v, rfl, rfl, hv, p v H2 S2 env2 M2 r (s1.trans s2) R2 (hr S2) q2'⟩
  | _ => exact q2.elim
end
end DL
set_option Elab.async false
set_option linter.all false
set_option maxRecDepth 100000
set_option maxHeartbeats 1000000
/-! DL25: texts of ways. -/
namespace DL
open PySem PySem.Spec PyProof.Rows L2
variable [Gh]
def brkK (v : WT) (k : Nat) : Bool := match v.tag with
  | 9 => true
  | 8 => decide (k ≠ 9)
  | 6 => decide (k = 4) || decide (k = 5)
  | 7 => decide (k = 4) || decide (k = 5)
  | _ => false
def ibr (v : WT) (k : Nat) (t : List Nat) : List Nat := match brkK v k with
  | true => 40 :: (t ++ [41])
  | false => t
def sepJ (sep : List Nat) : List (List Nat) → List Nat
  | [] => []
  | [t] => t
  | t :: u :: r => t ++ sep ++ sepJ sep (u :: r)
mutual
def wtx : WT → List Nat
  | .nothing => [40, 41]
  | .one => [46]
  | .letter s => s.cps.toList
  | .call s => 60 :: (s.cps.toList ++ [62])
  | .un .again w => ibr w 4 (wtx w) ++ [42]
  | .un .maybe w => ibr w 5 (wtx w) ++ [63]
  | .un .ahead w => 38 :: ibr w 6 (wtx w)
  | .un .unless w => 33 :: ibr w 7 (wtx w)
  | .many false ws => sepJ [32] (wtxs 8 ws)
  | .many true ws => sepJ [32, 47, 32] (wtxs 9 ws)
def wtxs (k : Nat) : List WT → List (List Nat)
  | [] => []
  | w :: ws => ibr w k (wtx w) :: wtxs k ws
end
theorem wtxs_map (k : Nat) (ws : List WT) : wtxs k ws = ws.map fun w => ibr w k (wtx w) := by
  induction ws with
  | nil => rfl
  | cons w ws ih => rw [wtxs, ih, List.map_cons]
theorem ibr_len (v : WT) (k : Nat) (t : List Nat) : t.length ≤ (ibr v k t).length ∧ (ibr v k t).length ≤ t.length + 2 := by
  unfold ibr
  split
  · rw [List.length_cons, List.length_append, List.length_singleton]; omega
  · omega
theorem sepJ_mem (sep : List Nat) : ∀ {ts : List (List Nat)} {t : List Nat}, t ∈ ts → t.length ≤ (sepJ sep ts).length
  | [], _, h => by cases h
  | [t], _, h => by rw [List.mem_singleton.mp h]; exact Nat.le_refl _
  | t :: u :: r, x, h => by
    rw [sepJ, List.length_append, List.length_append]
    rcases List.mem_cons.mp h with rfl | h
    · omega
    · have := sepJ_mem sep h
      omega
theorem sepJ_len (sep : List Nat) : ∀ (ts : List (List Nat)), (ts.map List.length).sum ≤ (sepJ sep ts).length ∧ (sepJ sep ts).length ≤ (ts.map List.length).sum + ts.length * sep.length
  | [] => ⟨Nat.le_refl _, Nat.zero_le _⟩
  | [t] => by simp only [List.map_cons, List.map_nil, List.sum_cons, List.sum_nil, sepJ, List.length_cons, List.length_nil]; omega
  | t :: u :: r => by
    have := sepJ_len sep (u :: r)
    rw [sepJ, List.length_append, List.length_append, List.map_cons, List.sum_cons, List.length_cons, Nat.add_mul, Nat.one_mul]
    omega
theorem wtx_inner {v w : WT} (h : w ∈ v.inner) : (wtx w).length ≤ (wtx v).length := by
  cases v with
  | un k u =>
    have hw : w = u := List.mem_singleton.mp h
    subst hw
    cases k <;> simp only [wtx, List.length_append, List.length_cons, List.length_nil]
    · have := (ibr_len w 4 (wtx w)).1; omega
    · have := (ibr_len w 5 (wtx w)).1; omega
    · have := (ibr_len w 6 (wtx w)).1; omega
    · have := (ibr_len w 7 (wtx w)).1; omega
  | many c ws =>
    have hw : w ∈ ws := h
    cases c <;> simp only [wtx]
    · have := (ibr_len w 8 (wtx w)).1
      have h2 : ibr w 8 (wtx w) ∈ wtxs 8 ws := by rw [wtxs_map]; exact List.mem_map.mpr ⟨w, hw, rfl⟩
      have := sepJ_mem [32] h2
      omega
    · have := (ibr_len w 9 (wtx w)).1
      have h2 : ibr w 9 (wtx w) ∈ wtxs 9 ws := by rw [wtxs_map]; exact List.mem_map.mpr ⟨w, hw, rfl⟩
      have := sepJ_mem [32, 47, 32] h2
      omega
  | _ => cases h
theorem join_tx (sep : List Nat) : ∀ ts : List (List Nat), Str.join (tx sep) (ts.map tx) = tx (sepJ sep ts)
  | [] => rfl
  | [t] => rfl
  | t :: u :: r => by
    show tx t ++ tx sep ++ Str.join (tx sep) ((u :: r).map tx) = _
    rw [join_tx sep (u :: r), tx_add, tx_add]
    rfl
/-- the signs that stand for the sorts -/
def marksD : List (Str × D) := [("again", .str "*"), ("maybe", .str "?"), ("ahead", .str "&"), ("unless", .str "!")]
def spBr (W : WA) : DSp := fun ds M Q _ => ∃ v p : WT, ds = [v.o W, .str p.word] ∧ Q (.bl (brkK v p.tag)) M
def spIText (W : WA) (S : Nat) : DSp := fun ds M Q _ => ∃ v p : WT, ds = [v.o W, .str p.word] ∧ v.size ≤ S ∧ (wtx v).length ≤ 1000000 ∧ Q (.str (tx (ibr v p.tag (wtx v)))) M
def spWText (W : WA) (S : Nat) : DSp := fun ds M Q _ => ∃ v : WT, ds = [v.o W] ∧ v.size ≤ S ∧ v.size ≤ 1000 ∧ (wtx v).length ≤ 1000000 ∧ Q (.str (tx (wtx v))) M
theorem WT.tag_inj {v u : WT} (h : v.tag = u.tag) : v.word = u.word := by
  match v, u, h with
  | .nothing, .nothing, _ => rfl
  | .one, .one, _ => rfl
  | .letter _, .letter _, _ => rfl
  | .call _, .call _, _ => rfl
  | .un .again _, .un .again _, _ => rfl
  | .un .maybe _, .un .maybe _, _ => rfl
  | .un .ahead _, .un .ahead _, _ => rfl
  | .un .unless _, .un .unless _, _ => rfl
  | .many false _, .many false _, _ => rfl
  | .many true _, .many true _, _ => rfl
theorem WT.wd (v u : WT) : (v.word == u.word) = decide (v.tag = u.tag) := by
  by_cases h : v.tag = u.tag
  · rw [decide_eq_true h, beq_iff_eq.mpr (WT.tag_inj h)]
  · rw [decide_eq_false h, beq_eq_false_iff_ne.mpr fun z => h (WT.word_inj z)]
theorem WT.wdn (v u : WT) : deq (.str v.word) (.str u.word) = decide (v.tag = u.tag) := by rw [deq_str, WT.wd]
theorem WT.in2 (v a b : WT) : inF (.str v.word) [.str a.word, .str b.word] = (decide (v.tag = a.tag) || decide (v.tag = b.tag)) := by
  rw [inF_cons, inF_cons, inF_nil, eqF_str, eqF_str, Bool.or_false, WT.wd, WT.wd]
  congr 1 <;> (congr 1; exact propext ⟨Eq.symm, Eq.symm⟩)
/-- ways that stand for their words -/
@[reducible] def w4 : WT := .un .again .nothing
@[reducible] def w5 : WT := .un .maybe .nothing
@[reducible] def w6 : WT := .un .ahead .nothing
@[reducible] def w7 : WT := .un .unless .nothing
@[reducible] def w8 : WT := .many false []
@[reducible] def w9 : WT := .many true []
@[reducible] def w2 : WT := .letter ""
theorem brkK_eq (v : WT) (k : Nat) : brkK v k = (decide (v.tag = 9) || ((decide (v.tag = 8) && decide (k ≠ 9)) || ((decide (v.tag = 6) || decide (v.tag = 7)) && (decide (k = 4) || decide (k = 5))))) := by
  unfold brkK
  cases v with
  | un kk w => cases kk <;> simp [WT.tag]
  | many c ws => cases c <;> simp [WT.tag]
  | _ => simp [WT.tag]
theorem tx_open : (("(" : String) : Str) = tx [40] := by decide +kernel
theorem tx_close : ((")" : String) : Str) = tx [41] := by decide +kernel
theorem tx_lt : (("<" : String) : Str) = tx [60] := by decide +kernel
theorem tx_gt : ((">" : String) : Str) = tx [62] := by decide +kernel
theorem tx_dot : (("." : String) : Str) = tx [46] := by decide +kernel
theorem tx_none : (("()" : String) : Str) = tx [40, 41] := by decide +kernel
theorem tx_sp : ((" " : String) : Str) = tx [32] := by decide +kernel
theorem tx_bar : ((" / " : String) : Str) = tx [32, 47, 32] := by decide +kernel
theorem tx_star : (("*" : String) : Str) = tx [42] := by decide +kernel
theorem tx_quest : (("?" : String) : Str) = tx [63] := by decide +kernel
theorem tx_and : (("&" : String) : Str) = tx [38] := by decide +kernel
theorem tx_not : (("!" : String) : Str) = tx [33] := by decide +kernel
theorem empty_tx (a : Str) : Str.empty ++ a = a := by
  obtain ⟨a⟩ := a
  show (⟨#[] ++ a⟩ : Str) = _
  rw [Array.empty_append]
theorem str_tx (s : Str) : s = tx s.cps.toList := (tx_eta s).symm
theorem mark_again : marksD.lookup ("again" : Str) = some (.str "*") := by unfold marksD; rw [List.lookup_cons_self]
theorem mark_maybe : marksD.lookup ("maybe" : Str) = some (.str "?") := by unfold marksD; rw [List.lookup_cons, show (("maybe" : Str) == ("again" : Str)) = false from by decide +kernel]; show List.lookup _ ((("maybe" : Str), _) :: _) = _; rw [List.lookup_cons_self]
theorem mark_ahead : marksD.lookup ("ahead" : Str) = some (.str "&") := by unfold marksD; rw [List.lookup_cons, show (("ahead" : Str) == ("again" : Str)) = false from by decide +kernel]; show List.lookup _ ((("maybe" : Str), _) :: _) = _; rw [List.lookup_cons, show (("ahead" : Str) == ("maybe" : Str)) = false from by decide +kernel]; show List.lookup _ ((("ahead" : Str), _) :: _) = _; rw [List.lookup_cons_self]
theorem mark_unless : marksD.lookup ("unless" : Str) = some (.str "!") := by unfold marksD; rw [List.lookup_cons, show (("unless" : Str) == ("again" : Str)) = false from by decide +kernel]; show List.lookup _ ((("maybe" : Str), _) :: _) = _; rw [List.lookup_cons, show (("unless" : Str) == ("maybe" : Str)) = false from by decide +kernel]; show List.lookup _ ((("ahead" : Str), _) :: _) = _; rw [List.lookup_cons, show (("unless" : Str) == ("ahead" : Str)) = false from by decide +kernel]; show List.lookup _ ((("unless" : Str), _) :: _) = _; rw [List.lookup_cons_self]
/-! ### ways as data are equal just if they are -/
mutual
def sOnly : PyData → Bool
  | .str _ => true
  | .tuple xs => sOnlys xs
  | .list xs => sOnlys xs
  | _ => false
def sOnlys : List PyData → Bool
  | [] => true
  | x :: xs => sOnly x && sOnlys xs
end
mutual
theorem eqv_sOnly : ∀ (x y : PyData), sOnly x = true → sOnly y = true → (PyData.eqv x y = true ↔ x = y)
  | .str a, .str b, _, _ => by
    rw [PyData.eqv]
    constructor
    · intro h; rw [beq_iff_eq.mp h]
    · intro h; cases h; exact beq_self_eq_true _
  | .tuple xs, .tuple ys, h1, h2 => by
    rw [PyData.eqv, eqvs_sOnly xs ys h1 h2]
    exact ⟨fun h => by rw [h], fun h => by cases h; rfl⟩
  | .list xs, .list ys, h1, h2 => by
    rw [PyData.eqv, eqvs_sOnly xs ys h1 h2]
    exact ⟨fun h => by rw [h], fun h => by cases h; rfl⟩
  | .str _, .tuple _, _, _ => by simp [PyData.eqv]
  | .str _, .list _, _, _ => by simp [PyData.eqv]
  | .tuple _, .str _, _, _ => by simp [PyData.eqv]
  | .tuple _, .list _, _, _ => by simp [PyData.eqv]
  | .list _, .str _, _, _ => by simp [PyData.eqv]
  | .list _, .tuple _, _, _ => by simp [PyData.eqv]
theorem eqvs_sOnly : ∀ (xs ys : List PyData), sOnlys xs = true → sOnlys ys = true → (PyData.eqvAll xs ys = true ↔ xs = ys)
  | [], [], _, _ => by simp [PyData.eqvAll]
  | [], _ :: _, _, _ => by simp [PyData.eqvAll]
  | _ :: _, [], _, _ => by simp [PyData.eqvAll]
  | x :: xs, y :: ys, h1, h2 => by
    rw [sOnlys, Bool.and_eq_true] at h1 h2
    rw [PyData.eqvAll, Bool.and_eq_true, eqv_sOnly x y h1.1 h2.1, eqvs_sOnly xs ys h1.2 h2.2]
    exact ⟨fun h => by rw [h.1, h.2], fun h => by cases h; exact ⟨rfl, rfl⟩⟩
end
mutual
theorem WT.d_sOnly : ∀ v : WT, sOnly (pd v.d) = true
  | .nothing => rfl
  | .one => rfl
  | .letter _ => rfl
  | .call _ => rfl
  | .un k w => by
    simp only [WT.d, pd, pds, sOnly, sOnlys, WT.d_sOnly w, Bool.and_self]
  | .many c ws => by
    simp only [WT.d, pd, pds, sOnly, sOnlys, WT.ds_sOnly ws, Bool.and_self]
theorem WT.ds_sOnly : ∀ ws : List WT, sOnlys (pds (WT.dOf ws)) = true
  | [] => rfl
  | w :: ws => by simp only [WT.dOf, pds, sOnlys, WT.d_sOnly w, WT.ds_sOnly ws, Bool.and_self]
end
theorem WT.d_word (v : WT) : ∃ r, pd v.d = .tuple (.str v.word :: r) := by
  cases v with
  | un k w => exact ⟨[pd w.d], by simp only [WT.d, pd, pds]⟩
  | many c ws => exact ⟨[.list (pds (WT.dOf ws))], by simp only [WT.d, pd, pds]⟩
  | nothing => exact ⟨[], by simp only [WT.d, pd, pds]⟩
  | one => exact ⟨[], by simp only [WT.d, pd, pds]⟩
  | letter s => exact ⟨[.str s], by simp only [WT.d, pd, pds]⟩
  | call s => exact ⟨[.str s], by simp only [WT.d, pd, pds]⟩
theorem WT.d_tag {v u : WT} (h : pd v.d = pd u.d) : v.tag = u.tag := by
  obtain ⟨r, h1⟩ := v.d_word
  obtain ⟨r', h2⟩ := u.d_word
  rw [h1, h2] at h
  injection h with h
  injection h with h _
  injection h with h
  exact WT.word_inj h
mutual
theorem WT.d_inj : ∀ (v u : WT), pd v.d = pd u.d → v = u := fun v u h => by
  have ht := WT.d_tag h
  match v, u, ht, h with
  | .nothing, .nothing, _, _ => rfl
  | .one, .one, _, _ => rfl
  | .letter _, .letter _, _, h => simp only [WT.d, pd, pds] at h; injection h with h; injection h with _ h; injection h with h _; injection h with h; rw [h]
  | .call _, .call _, _, h => simp only [WT.d, pd, pds] at h; injection h with h; injection h with _ h; injection h with h _; injection h with h; rw [h]
  | .un .again a, .un .again b, _, h => simp only [WT.d, pd, pds] at h; injection h with h; injection h with _ h; injection h with h _; rw [WT.d_inj a b h]
  | .un .maybe a, .un .maybe b, _, h => simp only [WT.d, pd, pds] at h; injection h with h; injection h with _ h; injection h with h _; rw [WT.d_inj a b h]
  | .un .ahead a, .un .ahead b, _, h => simp only [WT.d, pd, pds] at h; injection h with h; injection h with _ h; injection h with h _; rw [WT.d_inj a b h]
  | .un .unless a, .un .unless b, _, h => simp only [WT.d, pd, pds] at h; injection h with h; injection h with _ h; injection h with h _; rw [WT.d_inj a b h]
  | .many false a, .many false b, _, h => simp only [WT.d, pd, pds] at h; injection h with h; injection h with _ h; injection h with h _; injection h with h; rw [WT.ds_inj a b h]
  | .many true a, .many true b, _, h => simp only [WT.d, pd, pds] at h; injection h with h; injection h with _ h; injection h with h _; injection h with h; rw [WT.ds_inj a b h]
theorem WT.ds_inj : ∀ (a b : List WT), pds (WT.dOf a) = pds (WT.dOf b) → a = b
  | [], [], _ => rfl
  | [], _ :: _, h => by simp [WT.dOf, pds] at h
  | _ :: _, [], h => by simp [WT.dOf, pds] at h
  | x :: a, y :: b, h => by
    simp only [WT.dOf, pds] at h
    injection h with h1 h2
    rw [WT.d_inj x y h1, WT.ds_inj a b h2]
end
/-! ### sizes, kinds, what is told -/
theorem WT.d_tup (v : WT) : ∃ r, v.d = .tup (.str v.word :: r) := by
  cases v with
  | un k w => exact ⟨[w.d], by simp only [WT.d]⟩
  | many c ws => exact ⟨[.lst (WT.dOf ws)], by simp only [WT.d]⟩
  | nothing => exact ⟨[], by simp only [WT.d]⟩
  | one => exact ⟨[], by simp only [WT.d]⟩
  | letter s => exact ⟨[.str s], by simp only [WT.d]⟩
  | call s => exact ⟨[.str s], by simp only [WT.d]⟩
end DL
set_option Elab.async false
set_option linter.all false
set_option maxRecDepth 100000
set_option maxHeartbeats 1000000
/-! DL26: k02's ways told and turned. -/
namespace DL
open PySem PySem.Spec PyProof.Rows L2
variable [Gh]
theorem WT.len_le (ws : List WT) : ws.length ≤ WT.sizes ws := by
  induction ws with
  | nil => exact Nat.le_refl _
  | cons w ws ih => have := w.size_pos; rw [WT.sizes, List.length_cons]; omega
theorem WT.d_un (k : Un) {u : WT} (h : isData u.d = true) : isData (WT.un k u).d = true := by
  simp only [WT.d, isData, areData, Bool.and_eq_true]
  exact ⟨by cases k <;> decide +kernel, h, trivial⟩
theorem areData_of {ds : List D} (h : ∀ d ∈ ds, isData d = true) : areData ds = true := by
  induction ds with
  | nil => rfl
  | cons e r ih =>
    simp only [areData, Bool.and_eq_true]
    exact ⟨h e List.mem_cons_self, ih fun d hd => h d (List.mem_cons_of_mem _ hd)⟩
theorem WT.d_many (c : Bool) {ws : List WT} (h : ∀ u ∈ ws, isData u.d = true) : isData (WT.many c ws).d = true := by
  simp only [WT.d, isData, areData, Bool.and_eq_true]
  refine ⟨by cases c <;> decide +kernel, ?_, trivial⟩
  rw [WT.dOf_map]
  refine areData_of fun d hd => ?_
  obtain ⟨u, hu, rfl⟩ := List.mem_map.mp hd
  exact h u hu
end DL
set_option Elab.async false
set_option linter.all false
set_option maxRecDepth 100000
set_option maxHeartbeats 1000000
/-! DL27: C(xs), xs a list of one's own: lent, and one's own still. -/
namespace DL
open PySem PySem.Spec PyProof.Rows L2
variable [Gh]
mutual
/-- no list in it -/
def noL : D → Bool
  | .tup ds => noLs ds
  | .obj _ _ ds => noLs ds
  | .lst _ => false
  | .lstK _ => false
  | _ => true
def noLs : List D → Bool
  | [] => true
  | d :: ds => noL d && noLs ds
end
section
variable {K : PySem.W.Frag} {S S' : Hp}
theorem SqT.not_lst (e : ∀ p o, S p = some o → (∀ xs, o ≠ .lst xs) → S' p = some o) {a : Addr} {xs : List V} (h : SqT K S a xs) : SqT K S' a xs := by
  rcases h with (h | ⟨o, h⟩) | h
  · exact .inl (.inl (e _ _ h fun _ z => by cases z))
  · exact .inl (.inr ⟨o, e _ _ h fun _ z => by cases z⟩)
  · exact .inr h
mutual
theorem Rep.noLst (e : ∀ p o, S p = some o → (∀ xs, o ≠ .lst xs) → S' p = some o) : ∀ {d : D} {v : V}, noL d = true → Rep K S d v → Rep K S' d v
  | .non, _, _, h => h
  | .bl _, _, _, h => h
  | .int _, _, _, h => h
  | .str _, _, _, h => h
  | .ref _, _, _, h => h
  | .ty _, _, _, h => h
  | .tup ds, v, n, h => by
    obtain ⟨a, xs, r, q, t⟩ := h
    exact ⟨a, xs, r, SqT.not_lst e q, Reps.noLst e (by simpa only [noL] using n) t⟩
  | .lst ds, v, n, _ => by simp only [noL] at n; cases n
  | .lstK ds, v, n, _ => by simp only [noL] at n; cases n
  | .obj C ns ds, v, n, h => by
    obtain ⟨a, dx, xs, r, q, l, t⟩ := h
    exact ⟨a, dx, xs, r, e _ _ q (fun _ z => by cases z), l, Reps.noLst e (by simpa only [noL] using n) t⟩
theorem Reps.noLst (e : ∀ p o, S p = some o → (∀ xs, o ≠ .lst xs) → S' p = some o) : ∀ {ds : List D} {vs : List V}, noLs ds = true → Reps K S ds vs → Reps K S' ds vs
  | [], [], _, _ => trivial
  | d :: ds, v :: vs, n, h => by
    simp only [noLs, Bool.and_eq_true] at n
    exact ⟨Rep.noLst e n.1 h.1, Reps.noLst e n.2 h.2⟩
  | [], _ :: _, _, h => h
  | _ :: _, [], _, h => h
end
end
mutual
theorem WT.noL (W : WA) : ∀ v : WT, DL.noL (v.o W) = true
  | .nothing => by simp only [WT.o, DL.noL, DL.noLs]; rfl
  | .one => by simp only [WT.o, DL.noL, DL.noLs]; rfl
  | .letter s => by simp only [WT.o, DL.noL, DL.noLs]; rfl
  | .call s => by simp only [WT.o, DL.noL, DL.noLs]; rfl
  | .un k w => by simp only [WT.o, DL.noL, DL.noLs, WT.noL W w]; rfl
  | .many c ws => by simp only [WT.o, DL.noL, DL.noLs, WT.noLs W ws]; rfl
theorem WT.noLs (W : WA) : ∀ ws : List WT, DL.noLs (WT.oOf W ws) = true
  | [] => by simp only [WT.oOf, DL.noLs]
  | w :: ws => by simp only [WT.oOf, DL.noLs, WT.noL W w, WT.noLs W ws]; rfl
end
section
variable {X : Cx} {C : Addr} {k : Nat} {ps : List Str} {g : List D → Option (List Str × List D)} {x y : Str} {p pos npos : Pos}
end
mutual
theorem WT.pln_data : ∀ v : WT, v.pln → isData v.d = true
  | .nothing, _ => by simp only [WT.d]; decide +kernel
  | .one, _ => by simp only [WT.d]; decide +kernel
  | .letter s, h => by
    have h' : PyData.strOk s = true := h
    simp only [WT.d, isData, areData, Bool.and_eq_true]
    exact ⟨by decide +kernel, h', trivial⟩
  | .call s, h => h.elim
  | .un k w, h => WT.d_un k (WT.pln_data w h)
  | .many c ws, h => WT.d_many c (WT.plns_data ws h)
theorem WT.plns_data : ∀ ws : List WT, WT.plns ws → ∀ u ∈ ws, isData u.d = true
  | [], _, u, hu => by cases hu
  | w :: ws, h, u, hu => by
    rcases List.mem_cons.mp hu with hw | hu
    · rw [hw]; exact WT.pln_data w h.1
    · exact WT.plns_data ws h.2 u hu
end
mutual
theorem wtx_len {l : List Nat} : ∀ v : WT, v.ok (Sgn l) → (wtx v).length + 5 ≤ 10 * v.size
  | .nothing, _ => by simp only [wtx, WT.size, List.length_cons, List.length_nil]; omega
  | .one, _ => by simp only [wtx, WT.size, List.length_cons, List.length_nil]; omega
  | .letter s, h => by
    obtain ⟨c, _, rfl⟩ := (show Sgn l s from h)
    simp only [wtx, WT.size]
    rw [show (tx [c]).cps.toList = [c] from rfl]
    simp only [List.length_cons, List.length_nil]
    omega
  | .call s, h => h.elim
  | .un k w, h => by
    have h1 := wtx_len w h
    cases k <;> simp only [wtx, WT.size, List.length_append, List.length_cons, List.length_nil]
    · have := (ibr_len w 4 (wtx w)).2; omega
    · have := (ibr_len w 5 (wtx w)).2; omega
    · have := (ibr_len w 6 (wtx w)).2; omega
    · have := (ibr_len w 7 (wtx w)).2; omega
  | .many c ws, h => by
    have h1 := wtxs_len ws h.2
    cases c <;> simp only [wtx, WT.size]
    · have := (sepJ_len [32] (wtxs 8 ws)).2
      have h2 := h1 8
      simp only [List.length_cons, List.length_nil] at this
      omega
    · have := (sepJ_len [32, 47, 32] (wtxs 9 ws)).2
      have h2 := h1 9
      simp only [List.length_cons, List.length_nil] at this
      omega
theorem wtxs_len {l : List Nat} : ∀ ws : List WT, WT.oks (Sgn l) ws → ∀ k, ((wtxs k ws).map List.length).sum + 3 * (wtxs k ws).length ≤ 10 * WT.sizes ws
  | [], _, k => by simp only [wtxs, List.map_nil, List.sum_nil, List.length_nil, WT.sizes]; omega
  | w :: ws, h, k => by
    have h1 := wtx_len w h.1
    have h2 := wtxs_len ws h.2 k
    have h3 := (ibr_len w k (wtx w)).2
    simp only [wtxs, List.map_cons, List.sum_cons, List.length_cons, WT.sizes]
    omega
end
theorem WT.d_call {s : Str} (h : isData (.str s) = true) : isData (WT.call s).d = true := by
  simp only [WT.d, isData, areData, Bool.and_eq_true]
  exact ⟨by decide +kernel, h, trivial⟩
end DL
set_option Elab.async false
set_option linter.all false
set_option maxRecDepth 100000
set_option maxHeartbeats 1000000
/-! DL29: a Hook that tells of tables too; what k02's head must tell. -/
namespace DL
open PySem PySem.Spec PyProof.Rows L2 He
section
variable {fa : List Fa} {fn sn : List DefD} {ex : PySem.W.Frag → Bool} {ts : List Tab} {w : World} {K : PySem.W.Frag}
theorem SaysZ.tab (c : SaysZ fa fn sn ex ts w K) (i : Nat) {t : Tab} (h : ts[i]? = some t := by rfl) : ∃ es n, KDict K w (t.1 K) es n := by
  have e : ts.map (fun t => dicW K (t.1 K)) = ts.map fun t => some (keysIn w.params t.2) := congrArg (fun z : AlZ => z.2) c
  have e2 : (ts.map fun t => dicW K (t.1 K))[i]? = (ts.map fun t => some (keysIn w.params t.2))[i]? := by rw [e]
  rw [List.getElem?_map, List.getElem?_map, h] at e2
  exact dicW_ok (Option.some.inj e2)
end
section
variable {K : PySem.W.Frag}
theorem lookup_mem {z : Str} {r : D} : ∀ {l : List (Str × D)}, l.lookup z = some r → (z, r) ∈ l
  | [], h => by cases h
  | (k, v) :: l, h => by
    rw [List.lookup_cons] at h
    by_cases e : (z == k) = true
    · rw [e] at h
      have h1 : v = r := Option.some.inj h
      rw [h1, beq_iff_eq.mp e]
      exact List.mem_cons_self
    · rw [Bool.not_eq_true] at e
      rw [e] at h
      exact List.mem_cons_of_mem _ (lookup_mem h)
theorem marks_tab {w : World} {a : Addr} (h : ∃ es n, KDict K w a es n) (hv : valsB K a marksV = true) : TabK K w a marksD := by
  obtain ⟨es, n, h⟩ := h
  have key : ∀ (z : Str) (s : Str), (z, Dv.str s) ∈ marksV → ∃ v, KDct K w a z v ∧ ∀ S, Rep K S (.str s) v := fun z s hm => by
    obtain ⟨u, e, r⟩ := valsB_ok hv hm
    exact ⟨.str s, ⟨es, n, u, h.at_, h.lit, e, r⟩, fun _ => rfl⟩
  refine ⟨fun z r hz => ?_⟩
  have hmem : (z, r) ∈ marksD := lookup_mem hz
  simp only [marksD, List.mem_cons, List.not_mem_nil, or_false, Prod.mk.injEq] at hmem
  rcases hmem with ⟨rfl, rfl⟩ | ⟨rfl, rfl⟩ | ⟨rfl, rfl⟩ | ⟨rfl, rfl⟩
  · exact key _ _ (by simp [marksV])
  · exact key _ _ (by simp [marksV])
  · exact key _ _ (by simp [marksV])
  · exact key _ _ (by simp [marksV])
end
end DL
set_option Elab.async false
set_option linter.all false
set_option maxRecDepth 100000
set_option maxHeartbeats 1000000
/-! DL30: exceptions: calls that may raise, raise, try .. except, defs that let exceptions out. -/
namespace DL
open PySem PySem.Spec PyProof.Rows L2

/-- a wish of the lifted readings -/
abbrev KW := Addr → List Str → List D → Ev → Mem → Prop
def WD [Gh] (K : PySem.W.Frag) (Wd : KW) : WX := fun cls d σ H => ∃ F S env M C ns ds, Rel K F S σ H env M ∧ cls = .ref C ∧ XRep K S d ns ds ∧ Wd C ns ds env M
def TakesD [Gh] (X : Cx) (Wd : KW) : Prop := Takes X (WD X.K Wd)
section
variable {g : Gh} {K : PySem.W.Frag} {F S H : Hp} {σ : L2.St} {env : Ev} {M : Mem}
theorem relC (R : @Rel g K F S σ H env M) : RelC K F S H M := @Rel.c g K F S σ H env M R
theorem relG (R : @Rel g K F S σ H env M) : @GhOk g F S := @Rel.g g K F S σ H env M R
theorem relF (R : @Rel g K F S σ H env M) : Same g.f F := @GhOk.f g F S (relG R)
theorem relS (R : @Rel g K F S σ H env M) : Same g.s S := @GhOk.s g F S (relG R)
theorem relUp {S' : Hp} (R : @Rel g K F S σ H env M) (e : Same S S') : @GhOk g F S' := @GhOk.up g F S S' (relG R) e
theorem relStore {i : Nat} {d : D} {v : V} (R : @Rel g K F S σ H env M) (r : Rep K S d v) : @Rel g K F S (σ.set i (some v)) H (put env i (.val d)) M := @Rel.store g K F S H M σ env R i d v r
theorem relWipe (R : @Rel g K F S σ H env M) (v : Nat) : @Rel g K F S (σ.set v none) H (put env v .no) M := @Rel.wipe1 g K F S H M σ env R v
end
/-- the same state, other ghosts -/
theorem Rel.regh {g g' : Gh} {K : PySem.W.Frag} {F F' S H : Hp} {σ : L2.St} {env : Ev} {M : Mem} (R : @Rel g K F' S σ H env M) (e : Same F F') (ok : @GhOk g' F S) : @Rel g' K F S σ H env M :=
  @Rel.mk g' K F S σ H env M ((relC R).sub e) (@Rel.len g K F' S σ H env M R) (@Rel.val g K F' S σ H env M R) (fun i ds q => by
    obtain ⟨a, xs, e1, e2, e3, e4, e5, r⟩ := @Rel.own g K F' S σ H env M R i ds q
    refine ⟨a, xs, e1, e2, e3, e4, ?_, r⟩
    cases z : F a with
    | none => rfl
    | some o => rw [e a o z] at e5; cases e5) (@Rel.dis g K F' S σ H env M R) ok
theorem PostS.regh {g g' : Gh} {K : PySem.W.Frag} {F S : Hp} {Ed : DEnds} {E : Ends} (p : @PostS g K F S Ed E) (ok : ∀ S', Same S S' → @GhOk g F S') : @PostS g' K F S Ed E :=
  @PostS.mk g' K F S Ed E (fun σ H' S' env' M' s' R' q => @PostS.nx g K F S Ed E p σ H' S' env' M' s' (Rel.regh R' (fun _ _ z => z) (ok S' s')) q) (@PostS.rt g K F S Ed E p)
    (fun σ H' S' env' M' s' R' q => @PostS.bk g K F S Ed E p σ H' S' env' M' s' (Rel.regh R' (fun _ _ z => z) (ok S' s')) q) (fun σ H' S' env' M' s' R' q => @PostS.ct g K F S Ed E p σ H' S' env' M' s' (Rel.regh R' (fun _ _ z => z) (ok S' s')) q)
theorem ghSelf {F S : Hp} : @GhOk ⟨F, S⟩ F S := @GhOk.mk ⟨F, S⟩ F S (fun _ _ e => e) (fun _ _ e => e)
/-- a start at other ghosts -/
theorem postR {g : Gh} {K : PySem.W.Frag} {F S : Hp} {Qd : KR} {Q : VK} (p : PostR K F S Qd Q) : @PostS g K F S { nx := fun _ M' => Qd .non M', rt := Qd } { nx := fun _ H' => Q .non H', rt := Q } :=
  @PostS.mk g K F S _ _ (fun σ H' S' env' M' s' R' q' => p .non H' S' M' .non s' (relC R') rfl q') (fun v H' S' M' d s' c' r' q' => p v H' S' M' d s' c' r' q') (fun _ _ _ _ _ _ _ z => z.elim) (fun _ _ _ _ _ _ _ z => z.elim)

/-- a call that may raise -/
@[reducible] def dCallX (Wd : KW) (sp : DSp) (t : DTA) : DT := fun env M Q => t env M fun ds env1 M1 => sp ds M1 (fun d M2 => Q d env1 M2) (fun C ns es M2 => Wd C ns es env1 M2)
section
variable [Gh]
theorem sp_ofX {K : PySem.W.Frag} {F S H : Hp} {M : Mem} {σ : L2.St} {env : Ev} {sp : DSp} {ds : List D} {vs : List V} {Qd : KD} {Q : VK} {Wd : KW} (R : Rel K F S σ H env M) (r : Reps K S ds vs)
    (q : sp ds M (fun d M2 => Qd d env M2) (fun C ns es M2 => Wd C ns es env M2)) (p : PostE K F S σ Qd Q) : LSp K sp vs H Q (WE (WD K Wd) σ) :=
  ⟨frOwn F env σ H, S, ds, M, _, _, R.toC, r, q, fun v H' S' M' d s' c r' q' => p v H' S' env M' d s' (R.back c s') r' q', fun C od H' S' M' ns es s' c x q' => ⟨F, S', env, M', C, ns, es, R.back c s', rfl, x, q'⟩⟩
end
section
variable [Gh] {X : Cx} {k : Nat} {ps : List Str} {sp : DSp} {x : Str} {p pos : Pos} {e : Expr} {es : List Expr} {t : DTA} {Wd : KW}
theorem d_callX (tk : TakesD X Wd) (h : FnX X.prog X.w X.K X.mg X.base k x ps sp) (hr : Room k X.A) (ha : DA X (e :: es) t) (hg : Gl X x := by rfl) (hdb : (x == ("__debug__" : Str)) = false := by decide) (he : starEach (e :: es) X.env = (false, eval e X.env) :: starEach es X.env := by rfl) (hpl : (backTo pos (starEach es X.env)).any (·.1) = false := by rfl) :
    DE X (.Call (.Name x p) (e :: es) [] pos) (dCallX Wd sp t) := by
  obtain ⟨f, fd, G, hm, hk, hb⟩ := h.ex
  exact pe_imp (pe_callS G hr hg hm hk hb (fun σ => passAt tk σ) ha hdb he hpl) fun σ H Q ⟨F, S, env, M, Qd, R, t, p⟩ => ⟨F, S, env, M, _, R, t, fun vs H' S' env' M' ds s' R' r q => sp_ofX R' r q (p.up s')⟩
end

/-- o.m(..) that may raise -/
def tMethS (K : PySem.W.Frag) (f : Addr) (m : Str) (sp : Sp) (E : L2.St → XK) (ta : TE) (t : TA) : TE := fun σ H Q => ta σ H fun x H1 => ∃ a C dx fs, x = .ref a ∧ H1 a = some (.ins C dx fs) ∧ Cls K C ∧ Meth K C m f ∧ fs.lookup m = none ∧
  t σ H1 fun vs H2 => sp (x :: vs) H2 Q (E σ)
section
variable {X : Cx} {k : Nat} {f : Addr} {fd : FuncData} {ps : List Str} {sp : Sp} {E : L2.St → XK} {m : Str} {pos apos : Pos} {e o : Expr} {es : List Expr} {ta : TE} {t : TA}
theorem pe_methS' {pl : Sem Bool} (he : PE X o ta) (F : FnOk X.prog X.w X.K X.mg X.base (L2.CX X.prog X.w) k f fd ps sp) (hr : Room k X.A) (hb : Binds X.K fd ps []) (hx : ∀ σ, PassesAt (L2.CX X.prog X.w) X σ (E σ)) (ha : L2.PA X (e :: es) t)
    (hst : starEach (e :: es) X.env = (false, eval e X.env) :: starEach es X.env := by rfl) (hpl : (backTo pos (starEach es X.env)).any (·.1) = false := by rfl)
    (ht : eval (.Call (.Attribute o m apos) (e :: es) [] pos) X.env = (do
      let ov ← eval o X.env
      standAt apos.atName
      let (f, first) ← holding [ov] (getMethod ov m pl)
      callWith pos f first (backTo pos (starEach (e :: es) X.env)) (backToKw pos (keywordEach [] X.env))) := by rfl) :
    PE X (.Call (.Attribute o m apos) (e :: es) [] pos) (tMethS X.K f m sp E ta t) := by
  refine ⟨fun pins s σ H Q I h => ?_⟩
  refine PySem.W.methodCall_KW (pl := pl) (thn (he.run pins s σ H _ I h) fun w0 z1 ⟨x, G1, J1, rx, a, C, dx, fs, ex, ea, c, hm, l, q⟩ => ?_) ht
  subst ex
  obtain rfl : w0 = Value.ref a := rx
  refine getmeth_ok J1 ea c hm l ?_
  refine PySem.W.callWith_K (first := [.ref a]) (h₀ := X.base) I.ok.mod.kin hm.kp (thn (ha.run pos pins z1 σ G1 _ J1 q) fun us z2 ⟨vs, G2, J2, r, q2⟩ => ⟨J2.kIn, ?_⟩) hst hpl
  exact run_fnS (us := .ref a :: us) (vs := .ref a :: vs) F hr hb (hx σ) J2 (.cons rfl r) q2
theorem pe_methS0' {pl : Sem Bool} (he : PE X o ta) (F : FnOk X.prog X.w X.K X.mg X.base (L2.CX X.prog X.w) k f fd ps sp) (hr : Room k X.A) (hb : Binds X.K fd ps []) (hx : ∀ σ, PassesAt (L2.CX X.prog X.w) X σ (E σ))
    (ht : eval (.Call (.Attribute o m apos) [] [] pos) X.env = (do
      let ov ← eval o X.env
      standAt apos.atName
      let (f, first) ← holding [ov] (getMethod ov m pl)
      callWith pos f first (backTo pos (starEach [] X.env)) (backToKw pos (keywordEach [] X.env))) := by rfl) :
    PE X (.Call (.Attribute o m apos) [] [] pos) (tMethS X.K f m sp E ta tNil) := by
  refine ⟨fun pins s σ H Q I h => ?_⟩
  refine PySem.W.methodCall_KW (pl := pl) (thn (he.run pins s σ H _ I h) fun w0 z1 ⟨x, G1, J1, rx, a, C, dx, fs, ex, ea, c, hm, l, q⟩ => ?_) ht
  subst ex
  obtain rfl : w0 = Value.ref a := rx
  refine getmeth_ok J1 ea c hm l ?_
  exact PySem.W.callWith_K0 (first := [.ref a]) J1.kIn hm.kp (run_fnS (us := [.ref a]) (vs := [.ref a]) F hr hb (hx σ) J1 (.cons rfl .nil) q)
end
section
variable [Gh] {X : Cx} {k : Nat} {f : Addr} {fd : FuncData} {ps : List Str} {sp : DSp} {m : Str} {pos apos : Pos} {e o : Expr} {es : List Expr} {ta : DT} {t : DTA} {Wd : KW}
end

/-! ### a def that lets exceptions out, by its body -/
section
variable {P : Program} {w : World} {K : PySem.W.Frag} {mg : Str → Option Value} {base : Heap} {x qual : Str} {params : Arguments} {body : List Stmt} {scope : Scope} {dvs : List V} {kws : List (Str × V)} {f : Addr} {fd : FuncData}
abbrev kwOf (Ed : KX) : KW := fun C ns es _ M => Ed C ns es M
theorem okDX {N ps : List Str} {k : Nat} {sp : DSp} (G : FunD K x qual params body scope dvs kws f fd) (S : FnScope N ps scope) (len : ∀ ds M Q E, sp ds M Q E → ds.length = ps.length)
    (hbody : ∀ [Gh] (cdv : Value) (A : Around) (outer : List Env) (s : Shared) (H : Hp) (E : XK) (Ed : KX), Room k (A.deeper (envOfC qual scope s.heap.objs.size f cdv)) → TakesD (cxOf (L2.CX P w) P w K mg base N qual scope f cdv A outer s H E) (kwOf Ed) →
      ∃ t, DSs (cxOf (L2.CX P w) P w K mg base N qual scope f cdv A outer s H E) body t ∧ ∀ ds M Q, sp ds M Q Ed → t { nx := fun _ M' => Q .non M', rt := Q } (startD N ds) M) : FnOk P w K mg base (L2.CX P w) (k + 1) f fd ps (LSp K sp) := by
  refine G.ok S (fun vs H Q E ⟨F, S, ds, M, Qd, Ed, c, r, q, p, px⟩ => by rw [← r.length]; exact len _ _ _ _ q) fun cdv A outer s H vs Q E hr h => ?_
  obtain ⟨F, S, ds, M, Qd, Ed, c, r, q, p, px⟩ := h
  have tk : Takes (cxOf (L2.CX P w) P w K mg base N qual scope f cdv A outer s H E) (fun cls d _ H => E cls d H) := takes_of rfl rfl rfl rfl
  obtain ⟨t, ht, hq⟩ := @hbody ⟨F, S⟩ cdv A outer s H E Ed hr (Takes.imp tk fun cls d σ H' ⟨F', S', env, M', C, ns, es, R, e, xr, w⟩ => by
    subst e
    exact px C d H' S' M' ns es (relS R) ((relC R).sub (relF R)) xr w)
  refine ⟨_, ht, ?_⟩
  exact ⟨F, S, startD N ds, M, _, @rel_start ⟨F, S⟩ _ _ _ _ _ _ _ _ c r ghSelf, hq ds M Qd q, postR p⟩
end
theorem okFX {P : Program} {w : World} {K : PySem.W.Frag} {mg : Str → Option Value} {base : Heap} {x : Str} {st : Stmt} {N ps : List Str} {k : Nat} {sp : DSp} (G : DefAt K mg x ps st) (S : FnScope N ps (defScope st)) (len : ∀ ds M Q E, sp ds M Q E → ds.length = ps.length)
    (hbody : ∀ [Gh] (f : Addr) (cdv : Value) (A : Around) (outer : List Env) (s : Shared) (H : Hp) (E : XK) (Ed : KX), Room k (A.deeper (envOfC x (defScope st) s.heap.objs.size f cdv)) → TakesD (cxOf (L2.CX P w) P w K mg base N x (defScope st) f cdv A outer s H E) (kwOf Ed) →
      ∃ t, DSs (cxOf (L2.CX P w) P w K mg base N x (defScope st) f cdv A outer s H E) (defBody st) t ∧ ∀ ds M Q, sp ds M Q Ed → t { nx := fun _ M' => Q .non M', rt := Q } (startD N ds) M) : FnX P w K mg base (k + 1) x ps sp := by
  obtain ⟨f, fd, F, hm, hk, hb⟩ := G.ex
  exact ⟨⟨f, fd, okDX F S len (fun {_} cdv A outer s H E Ed hr tk => hbody f cdv A outer s H E Ed hr tk), hm, hk, hb⟩⟩

/-! ### raise -/
@[reducible] def sRaise (Wd : KW) (C : Addr) (ns : List Str) (t : DTA) : DTS := fun _ env M => t env M fun ds env1 M1 => ds.length = ns.length ∧ ns.length ≤ 1000 ∧ Wd C ns.reverse ds.reverse env1 M1
theorem Reps.rev {K : PySem.W.Frag} {S : Hp} : ∀ {ds : List D} {vs : List V}, Reps K S ds vs → Reps K S ds.reverse vs.reverse
  | [], [], _ => trivial
  | d :: ds, v :: vs, h => by
    rw [List.reverse_cons, List.reverse_cons]
    exact (Reps.rev h.2).append (show Reps K S [d] [v] from ⟨h.1, trivial⟩)
  | [], _ :: _, h => h.elim
  | _ :: _, [], h => h.elim
section
variable [Gh] {X : Cx} {k : Nat} {x : Str} {C : Addr} {ns : List Str} {p pos rpos : Pos} {e : Expr} {es : List Expr} {t : DTA} {Wd : KW}
theorem s_raise (hc : X.calm = true) (tk : TakesD X Wd) (h : ExCl X.prog X.w X.K X.mg X.base k x C ns) (hr : Room (k + 1) X.A) (ha : DA X (e :: es) t) (hg : Gl X x := by rfl) (hdb : (x == ("__debug__" : Str)) = false := by decide)
    (he : starEach (e :: es) X.env = (false, eval e X.env) :: starEach es X.env := by rfl) (hpl : (backTo pos (starEach es X.env)).any (·.1) = false := by rfl) :
    DS X (.Raise (some (.Call (.Name x p) (e :: es) [] pos)) none rpos) (sRaise Wd C ns t) := by
  obtain ⟨fI, fd, ps, h1, h2, h3, h4⟩ := h.ex
  refine ps_imp (ps_raise hc tk (pmk_oex h.oex h1 h2 h3 hr h4 .nil pass0 hg h.gm ha hdb he hpl)) fun D σ H ⟨F, S, env, M, Ed, R, t, p⟩ => ⟨F, S, env, M, _, R, t, fun vs H1 S1 env1 M1 ds s1 R1 r1 q1 => ?_⟩
  obtain ⟨l1, l2, q⟩ := q1
  have lv : vs.length = ns.length := by rw [← r1.length]; exact l1
  refine ⟨by rw [lv]; exact l2, fun a ha => ⟨a, vs ++ [], rfl, by rw [List.append_nil]; exact lv, upd_same, fun d hd hne => ⟨rfl, d, ns.reverse.zip vs.reverse, upd_same, by rw [upd_ne hne, upd_same, List.append_nil], ?_, ?_⟩⟩⟩
  · rw [upd_ne hne] at hd; exact hd
  · have hd1 : H1 d = none := by rw [upd_ne hne] at hd; exact hd
    have eH : upd (L2.del (upd (upd (upd H1 a (exo a C none)) d (exd d (ns.reverse.zip (vs ++ []).reverse))) a (exo a C (some d))) a) d (.xd (ns.reverse.zip vs.reverse)) = upd H1 d (.xd (ns.reverse.zip vs.reverse)) := by
      funext b
      by_cases hb : b = d
      · rw [hb, upd_same, upd_same]
      · rw [upd_ne hb, upd_ne hb]
        by_cases hba : b = a
        · rw [hba, del_same, ha]
        · rw [del_ne hba, upd_ne hba, upd_ne hb, upd_ne hba]
    rw [eH]
    obtain ⟨R2, s2⟩ := R1.new (o := .xd (ns.reverse.zip vs.reverse)) hd1
    exact ⟨F, _, env1, M1, C, ns.reverse, ds.reverse, R2, rfl, .inr ⟨d, vs.reverse, rfl, upd_same, by rw [List.length_reverse, List.length_reverse, lv], (r1.mono s2).rev⟩, q⟩
end

/-! ### try: .. except x as n: .. -/
@[reducible] def wTry (K : PySem.W.Frag) (c : Value) (i : Nat) (th : Addr → Addr → List Str → List D → DTS) (Wo : KW) (Ed : DEnds) : KW := fun C ns es env M =>
  ∃ b, PySem.W.exmOne K (.ref C) c = some b ∧ (b = true → ∀ a, th a C ns es { nx := fun e' M' => Ed.nx (put e' i .no) M', rt := Ed.rt, bk := fun e' M' => Ed.bk (put e' i .no) M', ct := fun e' M' => Ed.ct (put e' i .no) M' } (put env i (.val (.ref a))) M) ∧
    (b = false → Wo C ns es env M)
@[reducible] def sTry (K : PySem.W.Frag) (c : Value) (i : Nat) (tb : KW → DTS) (th : Addr → Addr → List Str → List D → DTS) (Wo : KW) : DTS := fun Ed env M => tb (wTry K c i th Wo Ed) Ed env M
section
variable [go : Gh] {X : Cx} {x n : Str} {c : Value} {i : Nat} {body suite : List Stmt} {b₀ : Stmt} {np pos pos' : Pos} {tb : KW → DTS} {th : Addr → Addr → List Str → List D → DTS} {Wo : KW}
theorem s_tryAs (tko : TakesD X Wo) (hN : X.N.Nodup) (hc : Names X x c)
    (hb : ∀ [Gh] (Wd : KW) (pn : List (Addr × Obj)) (xe : Value → Shared → Prop), TakesD (X.tr pn xe) Wd → PassesOwn (model X.prog X.w) X.A X.env xe → DSs (X.tr pn xe) body (tb Wd))
    (hsu : ∀ [Gh] (a C : Addr) (d : Option Addr) (ns : List Str) (es : List D) (oe : Obj) (pn : List (Addr × Obj)), XRep X.K Gh.s d ns es → Zc (.ref C) d oe → (∃ vs, oe.data = .fields vs) → DSs (X.suite a ((a, oe) :: pn)) (b₀ :: suite) (th a C ns es))
    (hi : X.N[i]? = some n := by rfl) (hs : X.stack = X.env :: X.outer := by rfl) (hf : X.env.frame = some X.env.locals := by rfl) (hln : X.env.kindOf n = some .local := by rfl) :
    DS X (.Try body [.ExceptHandler (some (.Name x np)) (some n) (b₀ :: suite) pos'] [] [] pos) (sTry X.K c i tb th Wo) := by
  refine ps_imp (ps_try_as (i := i) (Wout := WD X.K Wo) (ts := fun a cls d E0 σ H => ∃ (g : Gh) (C : Addr) (ns : List Str) (es : List D), cls = .ref C ∧ XRep X.K g.s d ns es ∧ @LS g X.K (th a C ns es) E0 σ H)
    (tb := fun W E0 σ H => ∃ (g : Gh) (Wd : KW), (∀ cls d σ H, @WD g X.K Wd cls d σ H → W cls d σ H) ∧ @LS g X.K (tb Wd) E0 σ H) hs hf hN hi hln hc tko
    (fun W pn xe tk po => ⟨fun pins s σ H D I ⟨g, Wd, hw, q⟩ => (@hb g Wd pn xe (Takes.imp tk hw) po).run pins s σ H D I q⟩)
    (fun a oe cls d pn hz hf => ⟨fun pins s σ H D I ⟨g, C, ns, es, e, x, q⟩ => by
      subst e
      exact (@hsu g a C d ns es oe pn x hz hf).run pins s σ H D I q⟩)) fun D σ H ⟨F, S, env, M, Ed, R, t, p⟩ => ?_
  refine ⟨⟨F, S⟩, wTry X.K c i th Wo Ed, fun cls d σ' H' ⟨F', S', env', M', C, ns, es, R', e, xr, b, hb1, hy, hn⟩ => ?_, F, S, env, M, Ed, Rel.regh R (fun _ _ z => z) ghSelf, t, PostS.regh p fun S' s' => relUp R s'⟩
  subst e
  have gs : Same S S' := relS R'
  have gf : Same F F' := relF R'
  refine ⟨b, hb1, fun eb a ha => ?_, fun eb => ?_⟩
  · refine ⟨⟨F, S'⟩, C, ns, es, rfl, xr, F, S', put env' i (.val (.ref a)), M', _, relStore (Rel.regh R' gf ghSelf) rfl, hy eb a, ?_⟩
    have back : ∀ {σ2 : L2.St} {H2 S2 : Hp} {env2 : Ev} {M2 : Mem}, Same S' S2 → @Rel ⟨F, S'⟩ X.K F S2 σ2 H2 env2 M2 → @Rel go X.K F S2 (σ2.set i none) H2 (put env2 i .no) M2 := fun s2 R2 => relWipe (Rel.regh R2 (fun _ _ z => z) (relUp R (gs.trans s2))) i
    exact @PostS.mk ⟨F, S'⟩ X.K F S' _ _ (fun σ2 H2 S2 env2 M2 s2 R2 q2 => p.nx _ H2 S2 _ M2 (gs.trans s2) (back s2 R2) q2) (fun v H2 S2 M2 d2 s2 c2 r2 q2 => p.rt v H2 S2 M2 d2 (gs.trans s2) c2 r2 q2)
      (fun σ2 H2 S2 env2 M2 s2 R2 q2 => p.bk _ H2 S2 _ M2 (gs.trans s2) (back s2 R2) q2) (fun σ2 H2 S2 env2 M2 s2 R2 q2 => p.ct _ H2 S2 _ M2 (gs.trans s2) (back s2 R2) q2)
  · exact ⟨F, S', env', M', C, ns, es, Rel.regh R' gf (relUp R gs), rfl, xr, hn eb⟩
theorem takesD0 : TakesD X (fun _ _ _ _ _ => False) := Takes.imp takes0 fun _ _ _ _ ⟨_, _, _, _, _, _, _, _, _, _, z⟩ => z
end

/-! ### a field of the exception that is held -/
structure XfOk (K : PySem.W.Frag) (C : Addr) (f : Str) : Prop where
  c : XfC K C
  no : PySem.W.findIn K (.ref C) f = some none
@[reducible] def dXf (K : PySem.W.Frag) (a C : Addr) (ns : List Str) (es : List D) (f : Str) (te : DT) : DT := fun env M Q => XfOk K C f ∧ te env M fun d env1 M1 => d = .ref a ∧ (match fget f ns es with
  | some r => Q r env1 M1
  | none => False)
section
variable [Gh] {X : Cx} {a C : Addr} {oe : Obj} {d : Option Addr} {pn : List (Addr × Obj)} {e : Expr} {te : DT} {pos : Pos} {f : Str} {ns : List Str} {es : List D}
theorem d_xf (xr : XRep X.K Gh.s d ns es) (hz : Zc (.ref C) d oe) (hf : ∃ vs, oe.data = .fields vs) (he : DE (X.suite a ((a, oe) :: pn)) e te) (hb : attributeBase e f X.env (eval e X.env) = eval e X.env := by rfl) :
    DE (X.suite a ((a, oe) :: pn)) (.Attribute e f pos) (dXf X.K a C ns es f te) := by
  refine ⟨fun pins s σ H Q I h => ?_⟩
  obtain ⟨F, S, env, M, Qd, R, ⟨ok, t⟩, p⟩ := h
  refine (pe_xf ok.c ok.no hz hf he hb).run pins s σ H Q I ⟨F, S, env, M, _, R, t, fun v H' S' env' M' d' s' R' r q => ?_⟩
  obtain ⟨rfl, q⟩ := q
  cases r
  refine ⟨rfl, rfl, ?_⟩
  cases hg : fget f ns es with
  | none => simp only [hg] at q
  | some y =>
    simp only [hg] at q
    rcases xr.mono R'.g.s with ⟨rfl, _, _⟩ | ⟨dd, xs, rfl, e1, l, rs⟩
    · cases hg
    · obtain ⟨u, e2, r2⟩ := reps_fget rs hg
      exact ⟨dd, _, u, rfl, R'.c.same _ _ e1, e2, p u H' S' env' M' y s' R' r2 q⟩
end
end DL
set_option Elab.async false
set_option linter.all false
set_option maxRecDepth 100000
set_option maxHeartbeats 2000000
/-! DL31: super().__init__(..) in an own exception's __init__, where the next one is ValueError's. -/
namespace DL
open PySem PySem.Spec PyProof.Rows L2

/-! ### ValueError.__init__ bound to an instance -/
abbrev bv (y : Addr) : Obj := ⟨.type "method-wrapper", none, .fields #[.builtin "ValueError.__init__", .ref y], #[]⟩
theorem ty_vi : typeOf (.builtin "ValueError.__init__") = pure (.type "wrapper_descriptor") := by
  show builtinType _ = _
  rw [builtinType_eq_fast]
  kernel_rfl
theorem nac_vi : (kfb_private% "nameAndClass") (Value.builtin "ValueError.__init__") = (pure ((("__init__" : Str)), Value.type "ValueError") : Sem (Str × Value)) := by kernel_rfl
section
open PySem.W
variable {P : Program} {w : World} {md : Model} {A : Around} {E : Value → Shared → Prop} {hp : Heap} {ge : Array GenState} {dr : Drawn} {tk : Nat} {oz : OsState}
theorem run_vi {y C : Addr} {R : Fin → Shared → Prop} (hin : W.Looks md hp (isInstance (.ref y) (.type "ValueError")) true) (q : R (.done (.ret (.ref hp.objs.size))) ⟨hp.push (bv y), ge, dr, tk, oz⟩) :
    wpAny md A (Builtin.«wrapper_descriptor.__get__» ⟨[.builtin "ValueError.__init__", .ref y, .ref C], []⟩) R E ⟨hp, ge, dr, tk, oz⟩ := by
  unfold Builtin.«wrapper_descriptor.__get__»
  refine wpAny_bind (wpAny_of_eq (a := (.builtin "ValueError.__init__", some (.ref y), some (.ref C))) (by first | rfl | kernel_rfl) ?_)
  show wpAny md A ((kfb_private% "checkInstance") (.builtin "ValueError.__init__") (.ref y) >>= fun _ => newFields "method-wrapper" [.builtin "ValueError.__init__", .ref y] >>= fun r => ret r) R E _
  refine wpAny_bind ?_
  show wpAny md A ((kfb_private% "nameAndClass") (.builtin "ValueError.__init__") >>= _) _ E _
  refine wpAny_bind (wpAny_of_eq nac_vi ?_)
  show wpAny md A (isInstance (.ref y) (.type "ValueError") >>= _) _ E _
  refine wpAny_bind (hin.at ?_)
  refine KFB.if_not rfl (wpAny_pure ?_)
  exact wpAny_bind (wpAny_newObj_type (wpAny_pure q))
theorem ga_vi {z0 D y C : Addr} {m0 m1 : List Value} {K : Frag} {nm : Str} {tt : Tok} {R : Fin → Shared → Prop}
    (h1 : hp.get? z0 = some (ks_superObj D y C)) (h2 : W.Looks (model P w) hp (opaqueClassAbove (.ref C)) none)
    (h3 : W.Looks (model P w) hp (mroOf (.ref C)) m0) (h4 : (m0.dropWhile (· != .ref D)).drop 1 = m1) (kin : K.In hp)
    (h5 : alongIn K nm m1 = some (some (.builtin "ValueError.__init__"))) (h6 : y ≠ C) (h7 : (nm == ("__class__" : Str)) = false) (h8 : W.Looks (model P w) hp (isInstance (.ref y) (.type "ValueError")) true)
    (q : R (.done (.ret (.ref hp.objs.size))) ⟨hp.push (bv y), ge, dr, tk, oz⟩) :
    wpAny (model P w) A (Builtin.«super.__getattribute__» ⟨[.ref z0, .str nm tt], []⟩) R E ⟨hp, ge, dr, tk, oz⟩ := by
  have ll := ESX.slot_wd.lookup
  have ne : (Value.ref y == Value.ref C) = false := by simp [h6]
  have t1 := ty_vi
  have t2 : Shared.TypeIs ⟨hp, ge, dr, tk, oz⟩ (.builtin "ValueError.__init__") "wrapper_descriptor" := ty_vi
  have dd : (ks_superObj D y C).data = .fields #[.ref D, .ref y, .ref C] := rfl
  have a0 : (#[.ref D, .ref y, .ref C] : Array Value)[0]? = some (.ref D) := rfl
  have a1 : (#[.ref D, .ref y, .ref C] : Array Value)[1]? = some (.ref y) := rfl
  have a2 : (#[.ref D, .ref y, .ref C] : Array Value)[2]? = some (.ref C) := rfl
  unfold Builtin.«super.__getattribute__»
  repeat (first
    | (with_reducible refine wpAny_field h1 dd a0 ?_)
    | (with_reducible refine wpAny_field h1 dd a1 ?_)
    | (with_reducible refine wpAny_field h1 dd a2 ?_)
    | (with_reducible refine ks_wpAny_notOpaque h2 ?_)
    | (with_reducible refine Looks.at h3 ?_; rw [h4])
    | (refine ks_forIn_along kin (fun _ _ => rfl) rfl ?_ h5)
    | (with_reducible refine wpAny_call_entry ESX.slot_wd t2 ESX.entry_wd ?_ (ESX.args_wd _ _ _))
    | (with_reducible refine run_vi h8 ?_)
    | (with_reducible refine ⟨_, rfl, ?_⟩)
    | (simp only [h7, ne, Bool.or_false, Bool.false_eq_true, if_false])
    | wp_step
    | dsimp only)
  all_goals exact q
theorem gm_vi {z0 D y C : Addr} {m0 m1 : List Value} {K : Frag} {nm : Str} {pl : Sem Bool} {R : Value × List Value → Shared → Prop}
    (h1 : hp.get? z0 = some (ks_superObj D y C)) (h2 : W.Looks (model P w) hp (opaqueClassAbove (.ref C)) none)
    (h3 : W.Looks (model P w) hp (mroOf (.ref C)) m0) (h4 : (m0.dropWhile (· != .ref D)).drop 1 = m1) (kin : K.In hp)
    (h5 : alongIn K nm m1 = some (some (.builtin "ValueError.__init__"))) (h6 : y ≠ C) (h7 : (nm == ("__class__" : Str)) = false) (h8 : W.Looks (model P w) hp (isInstance (.ref y) (.type "ValueError")) true)
    (q : R (.ref hp.objs.size, []) ⟨hp.push (bv y), ge, dr, tk + 1, oz⟩) :
    wpAny (model P w) A (getMethod (.ref z0) nm pl) R E ⟨hp, ge, dr, tk, oz⟩ := by
  have ll := F.ks_slot_super_ga.lookup
  have cn := F.ks_canon_super_ga
  have tz : ∀ n, (⟨hp, ge, dr, n, oz⟩ : Shared).TypeIs (.ref z0) "super" := fun _ => ⟨_, h1, rfl⟩
  unfold getMethod
  refine wpAny_bind (wpAny_specialOf (tz _) ll ?_)
  show wpAny _ _ (if (Manifest.canonical "super.__getattribute__" != "object.__getattribute__") = true then _ else _) _ _ _
  rw [if_pos cn]
  unfold getAttr getAttrBy
  refine wpAny_bind (wpAny_bind (wpAny_mkText (wpAny_holding (wpAny_bind (wpAny_typeOf (tz _) (wpAny_bind (wpAny_of_eq ll ?_)))))))
  show wpAny _ _ (getAttrByItsOwn (.ref z0) (.str nm tk) (.type "super") (.builtin "super.__getattribute__") true false) _ _ _
  unfold getAttrByItsOwn hookBefore callGetattribute boundAndCalled
  refine wpAny_bind (wpAny_of_eq (show (if onTheHeap (.type "super") then typeLookup (.type "super") "__getattr__" else pure none) = pure none from rfl) ?_)
  refine wpAny_bind (wpAny_attempt (wpAny_holding ?_))
  show wpAny _ _ (bindSpecial (.builtin "super.__getattribute__") (.ref z0) >>= _) _ _ _
  refine wpAny_bind (wpAny_of_eq (F.ks_slot_super_ga.bind _) ?_)
  refine wpAny_mono (Q := fun v st => v = .ref hp.objs.size ∧ st = ⟨hp.push (bv y), ge, dr, tk + 1, oz⟩) (E := fun _ _ => False)
    (wpAny_call_entry F.ks_slot_super_ga (tz _) F.ks_entry_super_ga (ga_vi h1 h2 h3 h4 kin h5 h6 h7 h8 ⟨_, rfl, rfl, rfl⟩) (F.ks_gaArgs_super _ _)) (fun v st hv => ?_) fun _ _ z => z.elim
  obtain ⟨rfl, rfl⟩ := hv
  exact wpAny_pure (wpAny_pure q)
end
section
open PySem.W PySem.Calls PyProof.Rows
variable {P : Program} {w : World} {md : Model} {A : Around} {E : Value → Shared → Prop} {st : Shared}
theorem cw_vi {pos : Pos} {u y : Addr} {first : List Value} {env : Env} {e : Expr} {es : List Expr} {R : Value → Shared → Prop}
    (h : wpAny md A (spliced (backTo pos (starEach (e :: es) env))) (fun vs z => z.heap.get? u = some (bv y) ∧ wpAny md A (call (.ref u) (first ++ vs)) R E z) E st)
    (he : starEach (e :: es) env = (false, eval e env) :: starEach es env) (hp : (backTo pos (starEach es env)).any (·.1) = false) :
    wpAny md A (callWith pos (.ref u) first (backTo pos (starEach (e :: es) env)) []) R E st := by
  rw [he] at h ⊢
  have pl : (backTo pos ((false, eval e env) :: starEach es env)).any (·.1) = false := by
    show (false || (backTo pos (starEach es env)).any (·.1)) = false
    rw [hp]
    rfl
  have ev : wpAny md A (evalArgs (.ref u) true (backTo pos ((false, eval e env) :: starEach es env)) []) (fun a z => z.heap.get? u = some (bv y) ∧ wpAny md A (call (.ref u) (first ++ a.pos) a.kw) R E z) E st := evalArgs_plain h
  unfold callWith
  refine wpAny_bind (wpAny_holding (wpAny_mono ev (fun a z hz => wpAny_bind (wpAny_standAt ?_)) fun _ _ x => x))
  obtain ⟨ho, hc⟩ := hz
  simp only [pl, List.any_nil, Bool.or_false]
  refine wpAny_bind (m := keeperOf (.ref u)) ?_
  unfold keeperOf
  refine wpAny_bind (wpAny_load ho ?_)
  simp only [bv, show (Value.type "method-wrapper" != Value.type "method") = true by decide, show (Value.type "method-wrapper" == Value.type "builtin_function_or_method" || Value.type "method-wrapper" == Value.type "method-wrapper") = true by decide, if_true]
  refine wpAny_pure (wpAny_bind (wpAny_mono hc (fun r z hr => wpAny_bind (wpAny_holding (wpAny_point (wpAny_pure hr)))) fun _ _ x => x))
end
section
variable {P : Program} {w : World} {A : Around} {E : Value → Shared → Prop} {hp : Heap} {ge : Array GenState} {dr : Drawn} {tk : Nat} {oz : OsState}
variable {nm q : Str} {C N : Addr} {bs bm : List Value} {hdct : Bool} {sn : List Str} {sub : List Value} {ab : Bool} {col : Option Bool} {dd : Option Addr} {k0 k1 k2 k3 k5 : Option Value}
theorem call_vi {u y t0 : Addr} {rest : List Value} {R : Value → Shared → Prop}
    (hC : hp.get? C = some (excClassObj nm q C N bs bm hdct sn sub ab col dd k0 k1 k2 k3 k5 "ValueError.__new__")) (hy : hp.get? y = some (HandSPX.excO C t0)) (hu : hp.get? u = some (bv y)) (hl : rest.length ≤ sizeLine)
    (hq : ∀ h' t1, (∀ b o, b ≠ y → hp.get? b = some o → h'.get? b = some o) → h'.get? y = some (HandSPX.excO C t1) → R .none ⟨h', ge, dr, tk, oz⟩) :
    wpAny (model P w) A (call (.ref u) rest) R E ⟨hp, ge, dr, tk, oz⟩ := by
  refine wpAny_call (codeAny_of_tree ?_)
  show wpAny _ A.in1 (callAny (.ref u) ⟨rest, []⟩) _ _ _
  simp only [callAny]
  refine wpAny_bind (wpAny_load hu ?_)
  simp only [bv, show (Value.type "method-wrapper" == Value.type "method" || Value.type "method-wrapper" == Value.type "builtin_function_or_method" || Value.type "method-wrapper" == Value.type "method-wrapper") = true by decide, if_true]
  refine W.KFB.if_so (by decide) ?_
  refine wpAny_bind (ESX.check_bound F.excBase_ValueError hC hy rfl ?_)
  refine wpAny_bind (wpAny_pure (wpAny_pure ?_))
  refine ⟨Code.quiet_builtin _ (by decide +kernel), codeAny_builtin F.excBase_ValueError.initEntry ?_⟩
  rw [Around.under_plainId F.excBase_ValueError.init.plain _]
  wp_walk
  refine hq _ hp.objs.size (fun b o hb ho => ?_) ?_
  · rw [Heap.get?_update_other _ _ (Ne.symm hb)]
    exact Heap.get?_push_of_some _ ho
  · rw [Heap.get?_update_self _ (Heap.get?_push_of_some _ hy) rfl]
    rfl
end
end DL
set_option Elab.async false
set_option linter.all false
set_option maxRecDepth 100000
set_option maxHeartbeats 2000000
/-! DL32: the __init__ of an own exception class, super().__init__(..) ahead of its fields. -/
namespace DL
open PySem PySem.Spec PyProof.Rows L2

section
variable {X : Cx} {pins : List (Addr × Obj)} {σ : L2.St} {H : Hp} {s : Shared} {A : Around} {E : Value → Shared → Prop} {cc cda C f x : Addr}
theorem supx_base {body : List Stmt} {p0 p1 : Pos} {whole : Sem Value} {fo : Obj} {fd : FuncData} {ar : Arg} {Q : Value → Shared → Prop}
    (I : Inv X pins σ H s) (S : SupXK X.prog X.K cc cda C) (hef : X.env.func = some f) (hlf : X.K.lookup f = some fo) (hfo : fo.data = .func fd) (hp : (fd.params.posonlyargs ++ fd.params.args).head? = some ar)
    (hcode : X.env.code = .ref cda) (hcells : X.env.cells.lookup ("__class__" : Str) = some cc) (hks : X.env.scope.names.lookup ("super" : Str) = some .globalImplicit) (hkc : X.env.scope.names.lookup ("__class__" : Str) = some .free)
    (hka : X.env.scope.names.lookup ar.arg = some .local) (h0 : X.N[0]? = some ar.arg) (σ0 : σ[0]? = some (some (.ref x))) (hx : H x = some (exo x C none)) (hmg : X.mg "super" = none)
    (h : ∀ s', s'.heap.get? s.heap.objs.size = some (PySem.W.ks_superObj C x C) → Inv X pins σ H s' → Q (.ref s.heap.objs.size) s') :
    _root_.PySem.wpAt (model X.prog X.w) A (.func body X.env) (attributeBase (.Call (.Name "super" p0) [] [] p1) "__init__" X.env whole) Q E s := by
  obtain ⟨ccl, cdd, vs, ccs, file, tf, hc1, hvs, hfile⟩ := S.code
  obtain ⟨cl, cld, csl, hcell⟩ := S.cell
  obtain ⟨cdD, hD⟩ := S.cls
  have XK := I.kIn
  obtain ⟨t1, ho⟩ := exo_at I.hok hx
  obtain ⟨oD, hD1, hD2⟩ : ∃ oD, s.heap.get? C = some oD ∧ oD.data = .cls cdD := by
    unfold PySem.W.clsIn at hD
    split at hD
    · rename_i c d cd' sl ho
      cases hD
      exact ⟨_, XK _ _ ho, rfl⟩
    · cases hD
  refine PySem.ks_wpAt_super_base hks hkc (by decide) hef (XK _ _ hlf) hfo hp hcode (XK _ _ hc1) rfl hvs hfile S.top ?_
  obtain ⟨mb, h1, h2⟩ := I.mod.blt
  refine PySem.W.ks_loadName_global I.ok.kind hks (Calls.loadGlobal_builtin (by rw [I.ok.glob]; exact I.mod.glob.keeps I.bk) hmg (by rw [I.ok.blt]; exact h1.keeps I.bk) (v := .type "super") ((h2 _ (by decide)).trans (by decide +kernel)) ⟨rfl, ?_⟩)
  refine wpAny_loadName_free I.ok.kind hkc hcells ⟨_, XK _ _ hcell, rfl⟩ ?_
  obtain ⟨m, hm, hl⟩ := I.loc
  obtain ⟨u, ru, lk⟩ := hl 0 ar.arg (.ref x) h0 σ0 (.inl hka)
  obtain rfl : u = Value.ref x := ru
  have hmx : m ar.arg = some (.ref x) := by
    rcases lk with ⟨_, e⟩ | ⟨e | e, _⟩
    · exact e
    · have e' : X.env.scope.names.lookup ar.arg = some .cell := e
      rw [hka] at e'; cases e'
    · have e' : X.env.scope.names.lookup ar.arg = some .free := e
      rw [hka] at e'; cases e'
  refine wpAny_loadName_local I.ok.kind hka hm hmx ?_
  obtain ⟨hh, g, d, t, os⟩ := s
  refine PySem.ks_wpAny_isType_cls hD1 hD2 ⟨rfl, ?_⟩
  exact PySem.ks_wpAny_call_super hD1 hD2 ho rfl (fun c e => by cases e) (PySem.W.looks_mroIn XK S.sub) (fun h' e k => h _ e (I.kept k))
theorem supx_meth {pl : Sem Bool} {Q : Value × List Value → Shared → Prop} {so : Addr} (I : Inv X pins σ H s) (S : SupXK X.prog X.K cc cda C) (hso : s.heap.get? so = some (PySem.W.ks_superObj C x C)) (hx : H x = some (exo x C none))
    (h : ∀ s', Inv X ((s.heap.objs.size, bv x) :: pins) σ H s' → Q (.ref s.heap.objs.size, []) s') : wpAny (model X.prog X.w) A (getMethod (.ref so) "__init__" pl) Q E s := by
  have XK := I.kIn
  obtain ⟨t1, ho⟩ := exo_at I.hok hx
  have hm := S.find
  obtain ⟨hh, g, d, t, os⟩ := s
  cases hc : PySem.W.clsIn X.K C with
  | none => unfold PySem.W.ks_superIn at hm; rw [hc] at hm; cases hm
  | some cd =>
    unfold PySem.W.ks_superIn at hm
    rw [hc] at hm
    have ne : x ≠ C := fun z => by
      subst z
      unfold PySem.W.clsIn at hc
      split at hc
      · rename_i c d cd' sl hlk
        have e := XK _ _ hlk
        rw [ho] at e
        cases e
      · cases hc
    have LT : PySem.W.Looks (model X.prog X.w) hh (typeOf (.ref x)) (.ref C) := fun A Q E s k q => wpAny_typeOf_ref (k _ _ ho) q
    have LI : PySem.W.Looks (model X.prog X.w) hh (isInstance (.ref x) (.type "ValueError")) true := LT.andThen (PySem.W.looks_subIn XK S.subV)
    refine gm_vi hso (PySem.W.looks_opaque XK S.st) (m0 := cd.mro) ?_ rfl XK hm ne (by decide) LI ?_
    · exact fun A Q E s k q => wpAny_bind ((PySem.W.looks_clsIn XK hc) A _ E s k (wpAny_pure q))
    · exact h _ (ClX.pin_new I (fun _ _ z => Heap.get?_push_of_some _ z) (Nat.le_refl _) (Heap.get?_push_size hh rfl) (fun v z => nomatch z))
end

section
variable {P : Program} {w : World} {K : PySem.W.Frag} {mg : Str → Option Value} {base : Heap} {x qual : Str} {params : Arguments} {body rest : List Stmt} {scope : Scope} {cc cda f C : Addr} {fd : FuncData} {N ps : List Str} {k : Nat} {sp : Sp}
  {m : Str} {j : Nat} {p0 p1 p2 apos pos ep : Pos} {ar : Arg} {pl : Env → Sem Bool}
theorem okSupX (G : SupD K x qual params body scope cc cda f fd) (hbd : body = .Expr (.Call (.Attribute (.Call (.Name "super" p0) [] [] p1) "__init__" apos) [.Constant (.str m) j p2] [] pos) ep :: rest) (S : NdefX.NScope N ps ["__class__"] scope)
    (hks : scope.names.lookup ("super" : Str) = some .globalImplicit) (hkc : scope.names.lookup ("__class__" : Str) = some .free) (hka : scope.names.lookup ar.arg = some .local) (hp : (params.posonlyargs ++ params.args).head? = some ar) (h0 : N[0]? = some ar.arg)
    (hmg : mg "super" = none) (Sk : SupXK P K cc cda C) (len : ∀ vs H Q E, sp vs H Q E → vs.length = ps.length) (hself : ∀ vs H Q E, sp vs H Q E → ∃ a ws, vs = .ref a :: ws ∧ H a = some (exo a C none))
    (hbody : ∀ (A : Around) (outer : List Env) (s : Shared) (H : Hp) (vs : List V) (Q : VK) (E : XK), Room k (A.deeper (NdefX.envF (nfS x qual params body scope cc cda) f s.heap.objs.size)) → sp vs H Q E →
      ∃ tr, PSs (cxS P w K mg base N (nfS x qual params body scope cc cda) f A outer s H E) rest tr ∧ tr { nx := fun _ H' => Q .non H', rt := Q } (L2.start N vs) H)
    (hev : ∀ env, eval (.Call (.Attribute (.Call (.Name "super" p0) [] [] p1) "__init__" apos) [.Constant (.str m) j p2] [] pos) env = (do
      let ov ← attributeBase (.Call (.Name "super" p0) [] [] p1) "__init__" env (eval (.Call (.Name "super" p0) [] [] p1) env)
      standAt apos.atName
      let (f, first) ← holding [ov] (getMethod ov "__init__" (pl env))
      callWith pos f first (backTo pos (starEach [.Constant (.str m) j p2] env)) []) := by exact fun _ => rfl)
    (hsw : ∀ env, swapsWith (.Call (.Attribute (.Call (.Name "super" p0) [] [] p1) "__init__" apos) [.Constant (.str m) j p2] [] pos) none ep.line env = pure false := by exact fun _ => rfl) :
    FnOk P w K mg base CX0 (k + 1) f fd ps sp := by
  refine ⟨len, fun A outer s H args us vs Q E hr e0 hb r hsp => ?_⟩
  have hl := len _ _ _ _ hsp
  obtain ⟨oc, od, dV, kV, doc, pm, an, ct, osl, rfl, lk⟩ := G.ex
  have KX : K.In s.heap := e0.mod.kin.keeps fun b o e => (e0.bs b o e).1
  have lim : s.heap.NoLimit := e0.mod.nolimit.keeps fun b o e => (e0.bs b o e).1
  have hpl1 : ps.length + 1 ≤ N.length := by
    have q := congrArg List.length S.pre
    rw [List.length_take, List.length_append, List.length_singleton] at q
    omega
  obtain ⟨cl, cld, csl, hcell⟩ := Sk.cell
  refine PySem.ks_codeAny_call_defAt (body := body) (binds := ps.zip us) hr.depth (KX _ _ lk) rfl lim (PySem.W.codeRec_of KX G.cd) rfl hb (fun y hy z => S.nocell y hy z) (fun ⟨n, _⟩ hy => S.par n (List.of_mem_zip hy).1) (fun h₁ hns kp => ?_) S.co S.gen S.kind
  have hcc : H cc = none := (e0.bs cc _ (e0.mod.kin _ _ hcell)).2
  have C0 : NdefX.CellsAt [(("__class__" : Str), cc)] ["__class__"] [none] s.heap H := by
    have one : ∀ y c, List.lookup y [(("__class__" : Str), cc)] = some c → y = "__class__" ∧ c = cc := fun y c h => by
      by_cases hy : y = ("__class__" : Str)
      · subst hy
        rw [List.lookup_cons_self] at h
        exact ⟨rfl, (Option.some.inj h).symm⟩
      · have : (y == ("__class__" : Str)) = false := beq_eq_false_iff_ne.mpr hy
        simp only [List.lookup, this] at h
        cases h
    refine ⟨rfl, fun y c h => ?_, fun x y c h1 h2 => ((one x c h1).1).trans ((one y c h2).1).symm, fun i y h => ?_⟩
    · obtain ⟨_, rfl⟩ := one y c h
      exact ⟨hcc, _, ⟨_, KX _ _ hcell, rfl⟩⟩
    · cases i with
      | zero =>
        cases h
        exact ⟨cc, List.lookup_cons_self, fun v hv => by cases hv⟩
      | succ i => simp at h
  have I0 : Inv (cxS P w K mg base N (nfS x qual params body scope cc cda) f A outer s H E) [] (NdefX.startF N vs [none]) H { s with heap := h₁, toks := s.toks + (ps.zip us).length } := NdefX.inv_startN S hr.hd e0 hl r C0 hns kp
  rw [startF_eq (by rw [hl]; exact hpl1)] at I0
  obtain ⟨xa, ws, rfl, hHx⟩ := hself _ _ _ _ hsp
  obtain ⟨tr, htr, hq⟩ := hbody A outer s H _ Q E (hr.deeper _) hsp
  have σ0 : (L2.start N (V.ref xa :: ws))[0]? = some (some (.ref xa)) := rfl
  refine PySem.ks_wpAt_mono (Q := SP (cxS P w K mg base N (nfS x qual params body scope cc cda) f A outer s H E) [] { nx := fun _ H' => Q .non H', rt := Q }) ?_ (fun fl s' hs => ?_) fun _ _ y => y
  · subst hbd
    refine PySem.ks_wpAt_execs_cons (PySem.ks_wpAt_Expr_any (PySem.ks_wpAt_MethodCall ?_ (he := hev _)) (hs := hsw _) (hi := by have hki : scope.kind = .function := S.kind; show (scope.kind == ScopeKind.module && _) = false; rw [hki]; rfl))
    refine supx_base I0 Sk rfl lk rfl hp rfl List.lookup_cons_self hks hkc hka h0 σ0 hHx hmg fun s1 hso I1 => ?_
    refine supx_meth I1 Sk hso hHx fun s2 I2 => ?_
    refine cw_vi (y := xa) (thn ((pa_cons (pe_str (x := m)) pa_nil).run pos _ s2 (L2.start N (V.ref xa :: ws)) H (fun vs' H' => vs' = [V.str m] ∧ H' = H) I2 ⟨rfl, rfl⟩) fun us' s3 ⟨vs', H2, I3, rv, ev, eH⟩ => ?_) rfl rfl
    subst ev
    subst eH
    refine ⟨ClX.pin_at I3, ?_⟩
    obtain ⟨nm, q, N', bs, bm, sn, sub, ab, col, dd, k0, k1, k2, k3, k5, hC, hbm⟩ := Sk.oex.cls
    obtain ⟨t1, ho⟩ := exo_at I3.hok hHx
    obtain ⟨hh, g, d, t, os⟩ := s3
    refine call_vi (I3.kIn _ _ hC) ho (ClX.pin_at I3) (by
      have := rv.length
      show us'.length ≤ sizeLine
      rw [← this, sizeLine_eq]
      show 1 ≤ _
      decide) fun h' t2 kp' hx' => ?_
    have J := (ClX.unpin I3).write (t' := t) (x := xa) (e := xa) (o := exo xa C none) (by rw [hHx]; exact True.intro) (.inl rfl) kp' ⟨_, hx'⟩ (exo_ok hx')
    have eu : upd H2 xa (exo xa C none) = H2 := by
      funext b
      by_cases hb : b = xa
      · rw [hb, upd_same, hHx]
      · rw [upd_ne hb]
    rw [eu] at J
    exact wpAt_of_wpAny (htr.run [] _ (L2.start N (V.ref xa :: ws)) H2 _ J hq)
  · have fin : ∀ {σ' : L2.St} {H' : Hp} {v : V} {u : Value}, Inv (cxS P w K mg base N (nfS x qual params body scope cc cda) f A outer s H E) [] σ' H' s' → L2.RelV v u → Q v H' → CE outer P w H s Q u s' :=
      fun {σ' H' v u} J rv q => ⟨v, H', J.os, J.bare, J.base, J.hok, rv, q⟩
    cases fl with
    | ret u =>
      obtain ⟨v, σ', H', J, rv, q⟩ := hs
      exact fin J rv q
    | next =>
      obtain ⟨σ', H', J, q⟩ := hs
      exact fin (v := V.non) (u := Value.none) J rfl q
    | brk =>
      obtain ⟨_, _, _, q⟩ := hs
      exact False.elim q
    | cont =>
      obtain ⟨_, _, _, q⟩ := hs
      exact False.elim q
theorem swap_none {e : Expr} {t : Option Expr} {n : Nat} {env : Env} {x : Str} {p : Pos} (h : e = .Name x p) : swapsWith e t n env = pure false := by
  subst h
  rfl
theorem ok_exc2 {sx ax bx fn gn : Str} {q1 q2 q3 q4 q5 q6 q7 q8 : Pos} (G : SupD K x qual params body scope cc cda f fd) (hbd : body = .Expr (.Call (.Attribute (.Call (.Name "super" p0) [] [] p1) "__init__" apos) [.Constant (.str m) j p2] [] pos) ep :: [.Assign [.Attribute (.Name sx q1) fn q2] (.Name ax q3) q4, .Assign [.Attribute (.Name sx q5) gn q6] (.Name bx q7) q8])
    (S : NdefX.NScope N ps ["__class__"] scope) (hks : scope.names.lookup ("super" : Str) = some .globalImplicit) (hkc : scope.names.lookup ("__class__" : Str) = some .free) (hka : scope.names.lookup sx = some .local) (hkb : scope.names.lookup ax = some .local) (hkd : scope.names.lookup bx = some .local) (hp : (params.posonlyargs ++ params.args).head?.map (·.arg) = some sx)
    (hps : ps = [sx, ax, bx]) (hN : N = [sx, ax, bx, "__class__"]) (hsd : (sx == ("__debug__" : Str)) = false ∧ (sx == ("__classdict__" : Str)) = false) (had : (ax == ("__debug__" : Str)) = false ∧ (ax == ("__classdict__" : Str)) = false) (hbb : (bx == ("__debug__" : Str)) = false ∧ (bx == ("__classdict__" : Str)) = false)
    (hmg : mg "super" = none) (Sk : SupXK P K cc cda C) (hno : PySem.W.findIn K (.ref C) fn = some none) (hno2 : PySem.W.findIn K (.ref C) gn = some none)
    (hev : ∀ env, eval (.Call (.Attribute (.Call (.Name "super" p0) [] [] p1) "__init__" apos) [.Constant (.str m) j p2] [] pos) env = (do
      let ov ← attributeBase (.Call (.Name "super" p0) [] [] p1) "__init__" env (eval (.Call (.Name "super" p0) [] [] p1) env)
      standAt apos.atName
      let (f, first) ← holding [ov] (getMethod ov "__init__" (pl env))
      callWith pos f first (backTo pos (starEach [.Constant (.str m) j p2] env)) []) := by exact fun _ => rfl)
    (hsw : ∀ env, swapsWith (.Call (.Attribute (.Call (.Name "super" p0) [] [] p1) "__init__" apos) [.Constant (.str m) j p2] [] pos) none ep.line env = pure false := by exact fun _ => rfl) :
    FnOk P w K mg base CX0 (k + 1) f fd ps (spXI C [fn, gn]) := by
  obtain ⟨ar, har, hax⟩ : ∃ ar : Arg, (params.posonlyargs ++ params.args).head? = some ar ∧ ar.arg = sx := by
    cases e : (params.posonlyargs ++ params.args).head? with
    | none => rw [e] at hp; cases hp
    | some ar => rw [e] at hp; exact ⟨ar, rfl, Option.some.inj hp⟩
  have two : ∀ vs H Q E, spXI C [fn, gn] vs H Q E → ∃ a v u, vs = [.ref a, v, u] ∧ H a = some (exo a C none) := fun vs H Q E ⟨a, ws, e, l, h, _⟩ => by
    match ws, l with
    | [v, u], _ => exact ⟨a, v, u, e, h⟩
  refine okSupX (ar := ar) G hbd S hks hkc (by rw [hax]; exact hka) har (by rw [hN, hax]; rfl) hmg Sk (fun vs H Q E h => by
    obtain ⟨a, v, u, rfl, _⟩ := two vs H Q E h
    rw [hps]; rfl) (fun vs H Q E h => by
    obtain ⟨a, v, u, e, h⟩ := two vs H Q E h
    exact ⟨a, _, e, h⟩) (fun A outer s H vs Q E hr h => ?_) hev hsw
  subst hN
  refine ⟨_, pss_cons (ps_ost (pv 0 rfl (.inl hka) hsd.1 hsd.2) (pv 1 rfl (.inl hkb) had.1 had.2) (swap_none rfl)) (pss_one (ps_ost (pv 0 rfl (.inl hka) hsd.1 hsd.2) (pv 2 rfl (.inl hkd) hbb.1 hbb.2) (swap_none rfl))), ?_⟩
  obtain ⟨a, v, u, rfl, hH⟩ := two vs H Q E h
  obtain ⟨a', ws, e, l, h1, h2⟩ := h
  cases e
  refine ⟨v, rfl, .ref a, rfl, a, C, rfl, Sk.oex, hno, .inl ⟨hH, fun dx hd ne => ⟨u, rfl, .ref a, rfl, a, C, rfl, Sk.oex, hno2, .inr ⟨dx, [(fn, v)], upd_same, by rw [upd_ne ne, upd_same], by show 1 ≤ 900; decide, ?_⟩⟩⟩⟩
  have q := h2 dx hd ne
  have eH : upd (upd (upd H dx (exd dx [(fn, v)])) a (exo a C (some dx))) dx (exd dx ((gn, u) :: [(fn, v)])) = upd (upd H dx (exd dx ([fn, gn].reverse.zip [v, u].reverse))) a (exo a C (some dx)) := by
    funext b
    by_cases hb : b = dx
    · rw [hb, upd_same, upd_ne ne, upd_same]; rfl
    · rw [upd_ne hb]
      by_cases hba : b = a
      · rw [hba, upd_same, upd_same]
      · rw [upd_ne hba, upd_ne hba, upd_ne hb, upd_ne hb]
  show Q .non _
  rw [eH]
  exact q
end
end DL
set_option Elab.async false
set_option linter.all false
set_option maxRecDepth 100000
set_option maxHeartbeats 1000000
/-! DL33: lists that change, in operations that tell a plain value; x.append(e) of them; C(..) that may raise. -/
namespace DL
open PySem PySem.Spec PyProof.Rows L2
variable [Gh]

/-- a list that changes, as it is now -/
@[reducible] def rsM (d : D) (M : Mem) : D := match d with
  | .ref a => (match M a with
    | some (.lst ds) => .lst ds
    | _ => d)
  | _ => d
@[reducible] def rssM : List D → Mem → List D
  | [], _ => []
  | d :: ds, M => rsM d M :: rssM ds M
@[reducible] def plainD : D → Bool
  | .bl _ => true
  | .int _ => true
  | .str _ => true
  | .non => true
  | _ => false
theorem plain_rep {K : PySem.W.Frag} {S S' : Hp} {d : D} {v : V} (h : plainD d = true) (r : Rep K S d v) : Rep K S' d v := by
  cases d with
  | bl _ => exact r
  | int _ => exact r
  | str _ => exact r
  | non => exact r
  | _ => cases h
/-- all lists that change, taken as if they never did -/
def mvS (S H : Hp) (M : Mem) : Hp := fun b => match M b with
  | some (.lst _) => H b
  | _ => S b
open Classical in
noncomputable def mvF (S1 H : Hp) : Hp := fun b => if S1 b = none then H b else none
section
variable {K : PySem.W.Frag} {F S H : Hp} {M : Mem} {σ : L2.St} {env : Ev}
theorem mv_same (R : Rel K F S σ H env M) : Same S (mvS S H M) ∧ Same (mvS S H M) H := by
  refine ⟨fun b o e => ?_, fun b o e => ?_⟩
  · unfold mvS
    cases h : M b with
    | none => exact e
    | some m => have := (R.c.mem b m h).1; rw [e] at this; cases this
  · unfold mvS at e
    cases h : M b with
    | none => rw [h] at e; exact R.c.same b o e
    | some m =>
      rw [h] at e
      cases m with
      | lst _ => exact e
      | dK _ _ => exact R.c.same b o e
      | ins _ _ _ => exact R.c.same b o e
theorem mv_rep (R : Rel K F S σ H env M) {d : D} {v : V} (r : Rep K S d v) : Rep K (mvS S H M) (rsM d M) v := by
  have s1 := (mv_same R).1
  have plain : rsM d M = d → Rep K (mvS S H M) (rsM d M) v := fun e => by rw [e]; exact r.mono s1
  cases d with
  | ref a =>
    cases h : M a with
    | none => exact plain (by unfold rsM; simp only [h])
    | some m =>
      cases m with
      | lst ds =>
        cases r
        obtain ⟨_, xs, e1, rs⟩ := R.c.mem a _ h
        have e : rsM (.ref a) M = .lst ds := by unfold rsM; simp only [h]
        rw [e]
        exact ⟨a, xs, rfl, by unfold mvS; rw [h]; exact e1, rs.mono s1⟩
      | dK _ _ => exact plain (by unfold rsM; simp only [h])
      | ins _ _ _ => exact plain (by unfold rsM; simp only [h])
  | _ => exact plain rfl
theorem mv_reps (R : Rel K F S σ H env M) : ∀ {ds : List D} {vs : List V}, Reps K S ds vs → Reps K (mvS S H M) (rssM ds M) vs
  | [], [], _ => trivial
  | _ :: _, _ :: _, h => ⟨mv_rep R h.1, mv_reps R h.2⟩
  | [], _ :: _, h => h.elim
  | _ :: _, [], h => h.elim
theorem mv_rel (R : Rel K F S σ H env M) : Rel K (mvF (mvS S H M) H) (mvS S H M) [] H [] m0 := by
  obtain ⟨s1, s2⟩ := mv_same R
  have hF : ∀ b o, mvF (mvS S H M) H b = some o → mvS S H M b = none ∧ H b = some o := fun b o e => by
    unfold mvF at e
    by_cases c : mvS S H M b = none
    · rw [if_pos c] at e; exact ⟨c, e⟩
    · rw [if_neg c] at e; cases e
  refine ⟨⟨s2, fun b o e => ⟨(hF b o e).2, (hF b o e).1, rfl⟩, fun b o e => (by cases e)⟩, rfl, fun j d z => (by cases z), fun j d z => (by cases z), fun i j a ds es _ z => (by cases z), ⟨fun b o e => ?_, R.g.s.trans s1⟩⟩
  obtain ⟨h1, h2, h3⟩ := R.c.fr b o (R.g.f b o e)
  have : mvS S H M b = none := by unfold mvS; rw [h3]; exact h2
  unfold mvF
  rw [if_pos this]
  exact h1
theorem mv_back (R : Rel K F S σ H env M) {S' H' : Hp} {env' : Ev} {M' : Mem} (s : Same (mvS S H M) S') (R' : Rel K (mvF (mvS S H M) H) S' [] H' env' M') : Rel K F S σ H' env M := by
  refine R.more fun b o e => ?_
  cases h : mvS S H M b with
  | some u =>
    have h1 := (mv_same R).2 b u h
    rw [e] at h1
    cases h1
    exact R'.c.same b o (s b o h)
  | none => exact (R'.c.fr b o (by unfold mvF; rw [if_pos h]; exact e)).1
end
section
variable {X : Cx}
theorem cd_mem {f : Value} {rd : RDA} (hc : CallD X f rd) : CallD X f (fun ds env M Q => rd (rssM ds M) [] m0 fun r _ _ => plainD r = true ∧ Q r env M) := by
  obtain ⟨r, h1, h2⟩ := hc.ex
  exact ⟨⟨r, h1, fun F S σ H env M xs ds Qd Q R rx q p => h2 _ _ [] H [] m0 xs _ _ Q (mv_rel R) (mv_reps R rx) q fun v H' S' env' M' d' s' R' rv qv => p v H' S env M d' (Same.refl _) (mv_back R s' R') (plain_rep qv.1 rv) qv.2⟩⟩
end

/-! ### xs.append(e): xs a list that changes -/
section
variable {X : Cx} {e : Expr} {te : DT} {pos apos cpos npos : Pos}
end
end DL
namespace DL
open PySem PySem.Spec PyProof.Rows L2
section
variable {X : Cx} {k : Nat} {f C : Addr} {fd : FuncData} {ps : List Str} {sp : Sp} {E : L2.St → XK} {x : Str} {p pos : Pos} {e : Expr} {es : List Expr} {t : TA}
end
end DL
namespace DL
open PySem PySem.Spec PyProof.Rows L2
variable [Gh]
section
variable {X : Cx} {k : Nat} {f C : Addr} {fd : FuncData} {ps : List Str} {sp : DSp} {x : Str} {p pos : Pos} {e : Expr} {es : List Expr} {t : DTA} {Wd : KW}
end
end DL
set_option Elab.async false
set_option linter.all false
set_option maxRecDepth 100000
set_option maxHeartbeats 1000000
/-! DL34: isinstance(e, T) of an error that is held. -/
namespace DL
open PySem PySem.Spec PyProof.Rows L2
/-- what the class of a held error must tell -/
structure XiC (K : PySem.W.Frag) (C : Addr) : Prop where
  cl : (PySem.W.clsIn K C).isSome = true
  ga : PySem.W.findIn K (.ref C) "__getattribute__" = some (some (.builtin "BaseException.__getattribute__"))
  gt : PySem.W.findIn K (.ref C) "__getattr__" = some none
  sb : PySem.W.subIn K (.ref C) (.type "BaseException") = some true
  at_ : PySem.W.findIn K (.ref C) "__class__" = some (some (.builtin "object.__class__"))
  sp : PySem.W.specialIn K (.builtin "object.__class__") "__get__" = some (some (.builtin "getset_descriptor.__get__"))
  tk : PySem.W.takesIn K (.builtin "object.__class__") = some true
  mo : PySem.W.mroIn K C (.type "object") = some true
def rIsX (K : PySem.W.Frag) (C a : Addr) (d : Option Addr) : List V → Hp → VK → Prop := fun xs H Q => ∃ (c : V) (cv : Value) (b : Bool), xs = [.ref a, c] ∧ (∀ u, RelV c u → u = cv) ∧ XiC K C ∧ PySem.W.kitOne K (.ref C) cv = some b ∧
  (d = none ∨ ∃ dd fs, d = some dd ∧ H dd = some (.xd fs)) ∧ Q (.bl b) H
theorem call_isX {X : Cx} {a C : Addr} {oe : Obj} {d : Option Addr} {pn : List (Addr × Obj)} (hz : Zc (.ref C) d oe) (hf : ∃ vs, oe.data = .fields vs) : CallR (X.suite a ((a, oe) :: pn)) (.builtin "isinstance") (rIsX X.K C a d) := by
  intro pins s σ H xs us Q I r h
  obtain ⟨c, cv, b, rfl, hcv, T, e, hd, q⟩ := h
  cases r with
  | cons rx rr =>
    cases rr with
    | cons rt rr =>
      cases rr
      cases rx
      have ec := hcv _ rt
      subst ec
      obtain ⟨hget, _⟩ := I.pin (a, oe) (List.mem_append.mpr (.inl List.mem_cons_self))
      obtain ⟨vs, hv⟩ := hf
      obtain ⟨od, J⟩ : ∃ od, PySem.W.InstAt s.heap a oe C od := by
        obtain ⟨oc, oo, oda, osl⟩ := oe
        obtain ⟨h1, h2⟩ := hz
        dsimp only at h1 h2 hv
        subst h1 h2 hv
        rcases hd with rfl | ⟨dd, fs, rfl, hdd⟩
        · exact ⟨none, hget, rfl, rfl, trivial⟩
        · obtain ⟨mA, ⟨o, es, ep, ho, _⟩, _⟩ := (show ObjOk X.prog X.w H s.heap dd (.xd fs) from I.hok dd _ hdd)
          exact ⟨some o, hget, rfl, rfl, ho⟩
      exact PySem.W.kia_one (PySem.W.kitx_exc T.cl T.ga T.gt T.sb T.at_ T.sp T.tk T.mo) I.kIn J e (fun z => nomatch z) fun tk => ⟨.bl b, H, I.kept (t' := tk) fun _ _ z => z, rfl, q⟩
section
variable [Gh] {X : Cx} {a C : Addr} {oe : Obj} {d : Option Addr} {pn : List (Addr × Obj)} {ns : List Str} {es : List D}
@[reducible] def rdIsX (K : PySem.W.Frag) (a C : Addr) : RDA := fun ds env M Q => ∃ c b, ds = [.ref a, c] ∧ XiC K C ∧ ((∃ D, c = .ref D ∧ PySem.W.kitOne K (.ref C) (.ref D) = some b) ∨ ∃ n, c = .ty n ∧ PySem.W.kitOne K (.ref C) (.type n) = some b) ∧ Q (.bl b) env M
theorem cd_isX (xr : XRep X.K Gh.s d ns es) (hz : Zc (.ref C) d oe) (hf : ∃ vs, oe.data = .fields vs) : CallD (X.suite a ((a, oe) :: pn)) (.builtin "isinstance") (rdIsX X.K a C) := by
  refine ⟨⟨_, call_isX hz hf, fun F S σ H env M xs ds Qd Q R r q p => ?_⟩⟩
  obtain ⟨c, b, rfl, T, hc, q⟩ := q
  obtain ⟨v, u, rfl, r1, r2⟩ := r.two
  cases r1
  have hd : d = none ∨ ∃ dd fs, d = some dd ∧ H dd = some (.xd fs) := by
    rcases xr with ⟨_, _, h⟩ | ⟨dd, xs, h1, h2, _⟩
    · exact .inl h
    · exact .inr ⟨dd, _, h1, R.c.same _ _ (R.g.s _ _ h2)⟩
  rcases hc with ⟨D, rfl, e⟩ | ⟨n, rfl, e⟩
  · cases r2
    exact ⟨.ref D, .ref D, b, rfl, fun u h => h, T, e, hd, p _ H S env M (.bl b) (Same.refl _) R rfl q⟩
  · cases r2
    exact ⟨.ty n, .type n, b, rfl, fun u h => h, T, e, hd, p _ H S env M (.bl b) (Same.refl _) R rfl q⟩
end
end DL
namespace DL
open PySem PySem.Spec PyProof.Rows L2
end DL
set_option Elab.async false
set_option linter.all false
set_option maxRecDepth 100000
set_option maxHeartbeats 1000000
/-! DL35: books: rules as data, the first wrong name; what the laws' defs about rules promise. -/
namespace DL
open PySem PySem.Spec PyProof.Rows L2

/-! ### names -/
mutual
theorem WT.ok_cok {P N : Str → Prop} : ∀ w : WT, w.ok P → w.cok N
  | .nothing, _ => trivial
  | .one, _ => trivial
  | .letter _, _ => trivial
  | .call _, h => h.elim
  | .un _ w, h => WT.ok_cok w h
  | .many _ ws, h => WT.oks_coks ws h.2
theorem WT.oks_coks {P N : Str → Prop} : ∀ ws : List WT, WT.oks P ws → WT.coks N ws
  | [], _ => trivial
  | w :: ws, h => ⟨WT.ok_cok w h.1, WT.oks_coks ws h.2⟩
end
mutual
theorem WT.cok_imp {N N' : Str → Prop} (h : ∀ s, N s → N' s) : ∀ w : WT, w.cok N → w.cok N'
  | .nothing, _ => trivial
  | .one, _ => trivial
  | .letter _, _ => trivial
  | .call s, q => h s q
  | .un _ w, q => WT.cok_imp h w q
  | .many _ ws, q => WT.coks_imp h ws q
theorem WT.coks_imp {N N' : Str → Prop} (h : ∀ s, N s → N' s) : ∀ ws : List WT, WT.coks N ws → WT.coks N' ws
  | [], _ => trivial
  | w :: ws, q => ⟨WT.cok_imp h w q.1, WT.coks_imp h ws q.2⟩
end
theorem WT.nocall {v : WT} (h : (match v with | .call _ => true | _ => false) = false) : v.word ≠ "call" := fun e => by
  have z := word_beq v
  rw [beq_iff_eq.mpr e] at z
  exact absurd (z.trans h) (by decide)
mutual
theorem WT.cok_parts {N : Str → Prop} (p : List Nat) : ∀ w : WT, w.cok N → ∀ q ∈ w.parts p, q.2.word = "call" → N q.2.sign
  | .nothing, _, q, hq, e => by
    rw [List.mem_singleton.mp (show q ∈ [(p, WT.nothing)] from hq)] at e
    exact absurd e (WT.nocall rfl)
  | .one, _, q, hq, e => by
    rw [List.mem_singleton.mp (show q ∈ [(p, WT.one)] from hq)] at e
    exact absurd e (WT.nocall rfl)
  | .letter s, _, q, hq, e => by
    rw [List.mem_singleton.mp (show q ∈ [(p, WT.letter s)] from hq)] at e
    exact absurd e (WT.nocall rfl)
  | .call s, h, q, hq, e => by
    rw [List.mem_singleton.mp (show q ∈ [(p, WT.call s)] from hq)]
    exact h
  | .un k v, h, q, hq, e => by
    simp only [WT.parts] at hq
    rcases List.mem_cons.mp hq with rfl | hq
    · exact absurd e (WT.nocall rfl)
    · exact WT.cok_parts (p ++ [0]) v h q hq e
  | .many c ws, h, q, hq, e => by
    simp only [WT.parts] at hq
    rcases List.mem_cons.mp hq with rfl | hq
    · exact absurd e (WT.nocall rfl)
    · exact WT.coks_parts p 0 ws h q hq e
theorem WT.coks_parts {N : Str → Prop} (p : List Nat) (i : Nat) : ∀ ws : List WT, WT.coks N ws → ∀ q ∈ WT.partsL p i ws, q.2.word = "call" → N q.2.sign
  | [], _, q, hq, _ => by cases hq
  | w :: ws, h, q, hq, e => by
    simp only [WT.partsL] at hq
    rcases List.mem_append.mp hq with hq | hq
    · exact WT.cok_parts (p ++ [i]) w h.1 q hq e
    · exact WT.coks_parts p (i + 1) ws h.2 q hq e
end
/-! ### the first wrong name -/
/-! ### promises -/
@[reducible] def itemsM (d : D) (M : Mem) : Option (List D) := itemsD (rsM d M)
def spPickM : DSp := fun ds M Q _ => ∃ p it es n o, ds = [.ref p, it] ∧ itemsM it M = some es ∧ 0 < es.length ∧ es.length < 1000000 ∧ n < 2 ^ 40 ∧ M p = some o ∧ PenO o n ∧ ∀ r o', r ∈ es → PenO o' (n + 1) → Q r (mset M p o')
end DL

/-! ### len of a thing with an own __len__ -/
namespace DL
open PySem PySem.Spec PyProof.Rows L2
variable [Gh]
structure OwnC (P : Program) (w : World) (K : PySem.W.Frag) (mg : Str → Option Value) (base : Heap) (C : Addr) (m : Str) (k : Nat) (sp : DSp) : Prop where
  ex : ∃ f fd ps, FnOk P w K mg base CX0 k f fd ps (LSp K sp) ∧ Binds K fd ps [] ∧ PySem.W.isFn K (.ref f) = true ∧ PySem.W.findIn K (.ref C) m = some (some (.ref f))
end DL
namespace DL
open PySem PySem.Spec PyProof.Rows L2
end DL
namespace DL
open PySem PySem.Spec PyProof.Rows L2
end DL
namespace DL
open PySem PySem.Spec PyProof.Rows L2
section
variable [Gh] {X : Cx} {e : Expr} {te : DT} {pos npos : Pos} {x : Str}
end
end DL
namespace DL
open PySem PySem.Spec PyProof.Rows L2
end DL
namespace DL
open PySem PySem.Spec PyProof.Rows L2
theorem RlOk.take {S n : Nat} {a : Rules} (h : RlOk S a) : RlOk S (a.take n) := fun r hr => h r (List.mem_of_mem_take hr)
end DL
set_option Elab.async false
set_option linter.all false
set_option maxRecDepth 100000
set_option maxHeartbeats 1000000
/-! DL36: what a head must tell of own exception classes, as Bools. -/
namespace DL
open PySem PySem.Spec PyProof.Rows L2 He
theorem excB_ok {K : PySem.W.Frag} {C : Addr} (h : excB K C = true) : ∃ nm q N bs bm sn sub ab col dd k0 k1 k2 k3 k5, K.lookup C = some (excClassObj nm q C N bs bm true sn sub ab col dd k0 k1 k2 k3 k5 "ValueError.__new__") ∧ PySem.HandSPX.refsVE bm = true := by
  unfold excB at h
  split at h
  · rename_i dd cd sl ho
    split at h
    · rename_i C' bm k0 k1 k2 k3 n k5 hm hs
      obtain ⟨a1, h⟩ := ba h
      obtain ⟨a2, h⟩ := ba h
      obtain ⟨a3, h⟩ := ba h
      obtain ⟨a4, a5⟩ := ba h
      have a1 := of_decide_eq_true a1
      have a2 := of_decide_eq_true a2
      obtain ⟨nm, bs, mro, ns, qn, hd, sn, sub, ab, col, del⟩ := cd
      dsimp only at hm a3 a4
      subst a1 a2 hm a4
      obtain rfl : del = false := by cases del <;> first | rfl | cases a3
      obtain rfl : sl = #[k0, k1, k2, k3, some (.builtin "ValueError.__new__"), k5] := by
        obtain ⟨l⟩ := sl
        simp only at hs
        rw [hs]
      exact ⟨nm, qn, ns, bs, bm, sn, sub, ab, col, dd, k0, k1, k2, k3, k5, ho, a5⟩
    · cases h
  · cases h
structure ExFac (P : Program) (K : PySem.W.Frag) (C : Addr) (nm qual : Str) (ps : List Str) (st : Stmt) (f : Addr) (fl : List Str) : Prop where
  at_ : SupXAt P K C nm qual ps st f
  init : PySem.W.findIn K (.ref C) "__init__" = some (some (.ref f))
  ty : PySem.W.typeIn K (.ref f) = some (.type "function")
  xf : XfC K C
  xi : XiC K C
  no : ∀ g ∈ fl, PySem.W.findIn K (.ref C) g = some none
theorem exFac_of {P : Program} {K : PySem.W.Frag} {d : DefD} {ps fl : List Str} {st : Stmt} (e : fnY K d.at_ = valY d) (c : exB P.main.file K d fl = true) (top : (P.main.scope.names.lookup ("super" : Str)).isSome = false)
    (h1 : d.params = defArgs st) (h2 : d.body = defBody st) (h3 : d.scope = defScope st)
    (hb : ∀ (kV doc pm : Value) (an : Option Addr) (cdv ct : Value) (cl : List (Str × Addr)) (us : List Value), us.length = ps.length → bindArgs (PySem.W.fnX d.name d.qual d.params d.body d.scope cl .none kV doc pm an cdv ct) ⟨us, []⟩ = pure (ps.zip us)) :
    ExFac P K (ga K d.at_.1) d.name d.qual ps st (fAd K d.at_) fl := by
  obtain ⟨c, b⟩ := ba c
  obtain ⟨b1, b⟩ := ba b
  obtain ⟨b2, b⟩ := ba b
  obtain ⟨b3, b⟩ := ba b
  obtain ⟨b4, b⟩ := ba b
  obtain ⟨b5, b⟩ := ba b
  obtain ⟨b6, b⟩ := ba b
  obtain ⟨b7, b⟩ := ba b
  obtain ⟨b8, b⟩ := ba b
  obtain ⟨b9, b⟩ := ba b
  obtain ⟨b10, b⟩ := ba b
  obtain ⟨b11, b⟩ := ba b
  obtain ⟨b12, b⟩ := ba b
  obtain ⟨b13, b⟩ := ba b
  obtain ⟨b14, b⟩ := ba b
  obtain ⟨b15, b⟩ := ba b
  obtain ⟨b16, b⟩ := ba b
  obtain ⟨b17, b⟩ := ba b
  obtain ⟨b18, b⟩ := ba b
  obtain ⟨b19, b20⟩ := ba b
  refine ⟨?_, eqO_ok b18, of_decide_eq_true b19, ⟨eqO_ok b11, eqO_ok b12, of_decide_eq_true b8, b13⟩, ⟨b1, eqO_ok b11, eqO_ok b12, of_decide_eq_true b8, eqO_ok b14, eqO_ok b15, of_decide_eq_true b16, of_decide_eq_true b17⟩, fun g hg => eqO_ok (List.all_eq_true.mp b20 g hg)⟩
  have O : OexC K (ga K d.at_.1) := ⟨excB_ok b6, eqO_ok b7, of_decide_eq_true b8, of_decide_eq_true b9, b10⟩
  unfold fnY at e
  unfold supB at c
  cases q : K.lookup (fAd K d.at_) with
  | none => rw [q] at c; cases c
  | some o =>
    obtain ⟨oc, od, dt, osl⟩ := o
    rw [q] at c e
    cases dt with
    | func fd =>
      obtain ⟨n1, n2, n3, n4, n5, n6, n7, n8, n9, n10, n11, n12, n13, n14, n15⟩ := fd
      have e2 : (some (n1, n2, n3, n4, n5, n6, n7.map (·.1), n15) : FnY) = (some (d.name, d.qual, d.params, FuncBody.stmts d.body, d.scope, mainGlobals, [("__class__" : Str)], builtinsNs) : FnY) := e
      simp only [Option.some.injEq, Prod.mk.injEq] at e2
      obtain ⟨g1, g2, g3, g4, g5, g6, g7, g8⟩ := e2
      obtain ⟨cc, rfl⟩ : ∃ cc, n7 = [(("__class__" : Str), cc)] := by
        match n7, g7 with
        | [(x, cc)], g7 =>
          simp only [List.map_cons, List.map_nil, List.cons.injEq, and_true] at g7
          subst g7
          exact ⟨cc, rfl⟩
      subst g4 g6 g8
      cases n13 with
      | ref cda =>
       cases n8 with
       | none =>
        have c2 : (PySem.W.codeIn K (.ref cda) d.qual && ((match K.lookup cda with
          | some ⟨_, _, .fields vs, _⟩ => (match (vs[2]? : Option Value) with
            | some (Value.str fl _) => (P.main.file : Str) == fl
            | _ => false)
          | _ => false) && (match K.lookup cc with
          | some ⟨_, _, .cell (some (.ref D)), _⟩ => decide (D = ga K d.at_.1)
          | _ => false))) = true := c
        obtain ⟨c3, c4⟩ := ba c2
        obtain ⟨c5, c6⟩ := ba c4
        refine ⟨cc, cda, _, ⟨⟨oc, od, .none, n9, n10, n11, n12, n14, osl, ?_, q⟩, c3⟩, ⟨?_, ?_, ?_, of_decide_eq_true b2, of_decide_eq_true b3, eqO_ok b4, eqO_ok b5, top, O⟩, ?_⟩
        · rw [← h1, ← h2, ← h3, ← g1, ← g2, ← g3, ← g5]
        · cases z : K.lookup cda with
          | none => rw [z] at c5; cases c5
          | some o2 =>
            obtain ⟨a1, a2, a3, a4⟩ := o2
            rw [z] at c5
            cases a3 with
            | fields vs =>
              have c7 : (match (vs[2]? : Option Value) with
                | some (Value.str fl _) => (P.main.file : Str) == fl
                | _ => false) = true := c5
              cases y : (vs[2]? : Option Value) with
              | none => rw [y] at c7; cases c7
              | some u =>
                rw [y] at c7
                cases u with
                | str fl tf => exact ⟨a1, a2, vs, a4, fl, tf, rfl, y, c7⟩
                | _ => cases c7
            | _ => cases c5
        · cases z : K.lookup cc with
          | none => rw [z] at c6; cases c6
          | some o2 =>
            obtain ⟨a1, a2, a3, a4⟩ := o2
            rw [z] at c6
            cases a3 with
            | cell v =>
              cases v with
              | none => cases c6
              | some u =>
                cases u with
                | ref D =>
                  have := of_decide_eq_true (show decide (D = ga K d.at_.1) = true from c6)
                  subst this
                  exact ⟨a1, a2, a4, rfl⟩
                | _ => cases c6
            | _ => cases c6
        · exact Option.isSome_iff_exists.mp b1
        · refine .all fun us hl => ?_
          have := hb n9 n10 n11 n12 (.ref cda) n14 [(("__class__" : Str), cc)] us hl
          rw [← g1, ← g2, ← g3, ← g5] at this
          exact this
       | _ => cases c
      | _ => cases c
    | _ => cases c
end DL
set_option Elab.async false
set_option linter.all false
set_option maxRecDepth 100000
set_option maxHeartbeats 4000000
/-! DL37: sorted(set(a list of ints)). set_lstI goes the road of HandS.SetFor (there: of a tuple), sorted_setN that of HandS.Set (there: fewer than 64). -/
namespace DL
open PySem PySem.Spec PyProof.Rows L2
section
variable {P : Program} {w : World} {A : Around} {E : Value → Shared → Prop} {s : Shared}
theorem set_lstI {l : Addr} {items : Array Value} (ns : List Int) {Q : Value → Shared → Prop} (hh : A.handled = none) (hl : s.heap.IsList l items) (hit : IntsAre items.toList ns) (hb : ns.length + 1 < scanBound)
    (h : ∀ (h' : Heap) (tk c : Nat), SetR w h' s.heap.objs.size (fun j => decide (j ∈ ns)) c → c ≤ ns.length → (∀ b o, s.heap.get? b = some o → h'.get? b = some o) → Q (.ref s.heap.objs.size) { s with heap := h', toks := tk }) :
    wpAny (model P w) A (call (.type "set") [.ref l]) Q E s := by
  have hisz : items.size = ns.length := by
    have q := IntsAre.length hit
    rw [Array.length_toList] at q
    exact q
  obtain ⟨c, tl, hmro⟩ := F.called_set.mro
  have hmade := F.called_set.made
  have hsub := F.called_set.sub
  refine wpAny_call (codeAny_of_tree ?_)
  show wpAny _ _ (callAny (.type "set") _) _ _ _
  refine wpAny_pure ⟨Code.quiet_builtin _ (by decide +kernel), codeAny_builtin F.entry_type_call ?_⟩
  rw [Around.under_plain (weight_type_call_type "set" [.ref l] []) rfl]
  have h1 := F.called_set.notType
  have h2 := F.called_set.canCreate
  have hct := F.typeCall_set_1 (.ref l)
  repeat (any_goals (first | assumption | wp_step))

  refine codeAny_mono (code_set_led1 (.ref l) (E := E) (Q₁ := fun obj s₁ => obj = .ref s.heap.objs.size ∧ s₁ = { s with heap := s.heap.push { cls := .type "set", dict := none, data := .set #[] 0 (.fresh 0 0 (!w.params.followText "set-order")) } }) ⟨rfl, rfl⟩) fun r s₁ hr => ?_
  cases r with
  | error e => exact hr
  | ok fl =>
    cases fl with
    | ret obj =>
      obtain ⟨rfl, rfl⟩ := hr
      have hS : (s.heap.push { cls := .type "set", dict := none, data := .set #[] 0 (.fresh 0 0 (!w.params.followText "set-order")) }).get? s.heap.objs.size = some { cls := .type "set", dict := none, data := .set #[] 0 (.fresh 0 0 (!w.params.followText "set-order")) } := Heap.get?_push_size _ rfl
      have hT : Shared.TypeIs { s with heap := s.heap.push { cls := .type "set", dict := none, data := .set #[] 0 (.fresh 0 0 (!w.params.followText "set-order")) } } (.ref s.heap.objs.size) "set" := ⟨_, hS, rfl⟩
      have hli := F.called_set.init.lookup
      have hbi := F.called_set.init.bind (.ref s.heap.objs.size)
      repeat (any_goals (first | assumption | wp_step))

      refine codeAny_mono (codeAny_call_builtin (R := wants (fun r s₂ => r = .none ∧ ∃ h' tk c, s₂ = { s with heap := h', toks := tk } ∧ SetR w h' s.heap.objs.size (fun j => decide (j ∈ ns)) c ∧ c ≤ ns.length ∧
          (∀ b o, s.heap.get? b = some o → h'.get? b = some o)) E) F.called_set.init.plain F.entry_set_init (check_set_init_1 hT ?_)) fun r₂ s₂ hr₂ => ?_
      · obtain ⟨ol, hol, hcl, nl, hdl⟩ := hl
        obtain ⟨ocls, odict, odata, oslots⟩ := ol
        simp only at hcl hdl
        subst hcl; subst hdl
        have hol' : (s.heap.push { cls := .type "set", dict := none, data := .set #[] 0 (.fresh 0 0 (!w.params.followText "set-order")) }).get? l = some { cls := .type "list", dict := odict, data := .seq items nl, slots := oslots } := Heap.get?_push_of_some _ hol
        have hsls := F.sub_list_set
        have hslf := F.sub_list_frozenset
        have hne : (Value.type "list" == Value.type "dict") = false := by decide
        have hl1 : (s.heap.push { cls := .type "set", dict := none, data := .set #[] 0 (.fresh 0 0 (!w.params.followText "set-order")) }).IsList l items := ⟨_, hol', rfl, nl, rfl⟩
        unfold Builtin.«set.__init__» noKeywords Builtin.Frozenset.updateFrom
        generalize hPI : pyIter = PI
        wp_walk
        subst hPI

        refine wpAny_pyIter_list hl1 ?_
        refine wpAny_bind (wpAny_runValue ?_)
        have hlS : l < s.heap.objs.size := Heap.lt_size hol
        have hh3 : A.in1.in1.in1.handled = none := by simp [hh]
        have hz1 : (s.heap.push { cls := .type "set", dict := none, data := .set #[] 0 (.fresh 0 0 (!w.params.followText "set-order")) }).objs.size = s.heap.objs.size + 1 := Heap.size_push ..
        have hneI : l ≠ (s.heap.push { cls := .type "set", dict := none, data := .set #[] 0 (.fresh 0 0 (!w.params.followText "set-order")) }).objs.size := by
          rw [Heap.size_push]; exact Nat.ne_of_lt (Nat.lt_succ_of_lt hlS)
        have hSf : s.heap.objs.size ∉ [(s.heap.push { cls := .type "set", dict := none, data := .set #[] 0 (.fresh 0 0 (!w.params.followText "set-order")) }).objs.size, l] := by
          rw [Heap.size_push]; simp only [List.mem_cons, List.mem_singleton, List.not_mem_nil, or_false, not_or]
          exact ⟨Nat.ne_of_lt (Nat.lt_succ_self _), Nat.ne_of_gt hlS⟩
        have hval : ∀ (i : Nat) (v : Value), items[i]? = some v → ∃ k t, ns[i]? = some k ∧ v = .int k t := fun i v hv => by
          have hi : i < ns.length := by rw [← hisz]; exact (Array.getElem?_eq_some_iff.mp hv).1
          obtain ⟨t, e⟩ := PyProof.Rows.IntsAre.int_at hit i v (by rw [Array.getElem?_toList]; exact hv)
          refine ⟨ns[i], t, List.getElem?_eq_getElem hi, ?_⟩
          rw [e, List.getD_eq_getElem?_getD, List.getElem?_eq_getElem hi] <;> rfl
        refine set_update_ints ((Walks.list hh3 _ l hneI items).toS) s.heap.objs.size
          hSf ns hisz hb hval (items.size - 0) 0 _ (by omega) (Nat.zero_le _)
          ⟨⟨_, Heap.get?_push_size _ rfl, rfl, rfl⟩, (hl1.push _)⟩ ?hS0 ?hR
        case hS0 =>
          have hget : ((s.heap.push { cls := .type "set", dict := none, data := .set #[] 0 (.fresh 0 0 (!w.params.followText "set-order")) }).push { cls := .type "list_iterator", data := .fields #[.ref l, .int 0 0] }).get? s.heap.objs.size
              = some { cls := .type "set", dict := none, data := .set #[] 0 (.fresh 0 0 (!w.params.followText "set-order")) } := Heap.get?_push_of_some _ hS
          exact ⟨0, Nat.le_refl 0, setR_new_at hget⟩
        case hR =>
          intro s' c' hm hc' hS'
          obtain ⟨h', g2, d', tk', os'⟩ := s'
          have eg : g2 = s.gens := hm.gens
          have ed : d' = s.drawn := hm.drawn
          have eo : os' = s.os := hm.os
          subst eg; subst ed; subst eo
          show wpAny _ _ _ _ _ _
          refine wpAny_pure ?_
          show wpAny _ _ (ret Value.none) _ _ _
          rw [hisz] at hc'
          refine wpAny_pure ⟨rfl, h', tk', c', rfl, hS', hc', fun b o e => ?_⟩
          have hb0 : b < s.heap.objs.size := Heap.lt_size e
          have hb1 : b ≠ s.heap.objs.size := Nat.ne_of_lt hb0
          have hb2 : b ≠ (s.heap.push { cls := .type "set", dict := none, data := .set #[] 0 (.fresh 0 0 (!w.params.followText "set-order")) }).objs.size := by
            rw [Heap.size_push]; exact Nat.ne_of_lt (Nat.lt_succ_of_lt hb0)
          exact hm.heap b o (by simp only [List.mem_cons, List.mem_singleton, List.not_mem_nil, or_false, not_or]; exact ⟨hb1, hb2⟩) (Heap.get?_push_of_some _ (Heap.get?_push_of_some _ e))

      · cases r₂ with
        | error e => exact hr₂
        | ok fl₂ =>
          cases fl₂ with
          | ret r =>
            obtain ⟨rfl, h', tk, c', rfl, hS', hc', hk'⟩ := hr₂
            repeat (any_goals (first | assumption | wp_step))
            exact h _ _ _ hS' hc' hk'
          | _ => exact hr₂.elim
    | _ => exact hr.elim
open SrtO in
theorem sorted_setN {a : Addr} {S : Int → Bool} {n : Nat} {Q : Value → Shared → Prop} (R : SetR w s.heap a S n) (hh : A.handled = none)
    (hQ : ∀ s' p (out : List Value) (c : Nat) (ns : List Int), (∀ b o, s.heap.get? b = some o → s'.heap.get? b = some o) → s'.gens = s.gens → s'.os = s.os → s.heap.objs.size ≤ p →
      s'.heap.get? p = some (seqObj "list" out.toArray c) → IntsAre out ns → ns.Pairwise (· < ·) → (∀ k, k ∈ ns ↔ S k = true) → ns.length ≤ sizeLine → Q (.ref p) s') :
    wpAny (model P w) A (call (.builtin "sorted") [.ref a]) Q E s := by
  obtain ⟨o, es, ep, t, ho, hex, hd, g, nd, hm, hb, hf, hn, hr, hl⟩ := R
  refine Calls.call_function_entry kind_sorted plain_sorted entry_sorted (args_sorted1 _) ?_
  unfold Builtin.«sorted»
  refine wpAny_bind (m := checkCount "sorted" 1 1 _) (wpAny_pure ?_)
  refine wpAny_bind (collect_set (A := A.in1) hh ⟨o, ho, hex.1, hd⟩ hf hb hr hl fun s1 vs k1 hz g1 o1 pm => ?_)
  have hvl : vs.length = es.size := by rw [pm.length_eq, List.length_map, Array.length_toList]
  have hvz : vs.length ≤ sizeLine := by rw [hvl]; exact fits_of_scanBound hb
  have hI : IntsAre vs (vs.map Builtin.Re.reRawOf) := ints_of vs fun v hv => by
    obtain ⟨e, he, q⟩ := List.mem_map.mp (pm.mem_iff.mp hv)
    obtain ⟨k, tk, h1, _⟩ := g e he
    exact ⟨k, tk, by rw [← q]; exact h1⟩
  have pk : (vs.map Builtin.Re.reRawOf).Perm (es.toList.map keyOf) := by
    have q := pm.map Builtin.Re.reRawOf
    rw [List.map_map] at q
    exact q
  refine wpAny_bind (wpAny_newList ?_ hvz)
  have hoL : (s1.heap.push (seqObj "list" vs.toArray 0)).get? s1.heap.objs.size = some (seqObj "list" vs.toArray 0) := Heap.get?_push_size _ rfl
  refine wpAny_bind (wpAny_holding (wpAny_call_entry slot_list_sort ⟨_, hoL, rfl⟩ entry_list_sort (list_sort_ord swo_int hoL hvz (fun h2 => ints_sortable hI h2) fun out h1 h2 => ⟨_, rfl, ?_⟩) (args_list_sort _)))
  obtain ⟨c, hc⟩ := sortedHeap_at (vs := vs) (out := out.toArray) hoL
  obtain ⟨a1, a2, a3⟩ := ints_out hI h1 h2
  have pn : (out.map iv).Perm (es.toList.map keyOf) := a2.trans pk
  refine wpAny_pure ⟨_, rfl, hQ _ s1.heap.objs.size out c (out.map iv) (fun b u e => ?_) g1 o1 hz hc a1 (lt_of_le_nodup _ a3 (pn.nodup_iff.mpr nd)) (fun k => by rw [pn.mem_iff, ← hm k]) ?_⟩
  · have q := k1 b u e
    have hlt := Heap.lt_size q
    show (sortedHeap (s1.heap.push (seqObj "list" vs.toArray 0)) s1.heap.objs.size vs out.toArray).get? b = some u
    rw [sortedHeap_old (Nat.ne_of_lt hlt) (by rw [size_push']; exact Nat.lt_succ_of_lt hlt)]
    exact Heap.get?_push_of_some _ q
  · rw [pn.length_eq, List.length_map, Array.length_toList]
    exact fits_of_scanBound hb
end
section
variable {X : Cx}
end
end DL
set_option Elab.async false
set_option linter.all false
set_option maxRecDepth 100000
set_option maxHeartbeats 1000000
/-! DL38: sorted(set(..)) as a rule; repr; a law that shows lists. -/
namespace DL
open PySem PySem.Spec PyProof.Rows L2
variable [Gh]
section
variable {X : Cx} {e : Expr} {t : DTA} {p q pos pos2 npos : Pos} {x : Str}
end
end DL
namespace DL
open PySem PySem.Spec PyProof.Rows L2
variable [Gh]
/-! ### repr of None, an int, a list of ints -/
inductive RpD : D → Prop
  | non : RpD .non
  | int {i : Int} (h : i.natAbs < 10 ^ 12) : RpD (.int i)
  | lsi {ns : List Int} (l : ns.length ≤ 1000) (h : ∀ i ∈ ns, i.natAbs < 10 ^ 12) : RpD (.lst (ns.map D.int))
section
variable {X : Cx}
end
end DL
namespace DL
open PySem PySem.Spec PyProof.Rows L2
/-! ### a law whose Around is known -/
section
variable {P : Program} {w : World} {K : PySem.W.Frag} {mg : Str → Option Value} {base : Heap} {x qual : Str} {params : Arguments} {body : List Stmt} {scope : Scope} {dvs : List V} {kws : List (Str × V)} {f : Addr} {fd : FuncData}
end
end DL
namespace DL
open PySem PySem.Spec PyProof.Rows L2
end DL
set_option Elab.async false
set_option linter.all false
set_option maxRecDepth 100000
set_option maxHeartbeats 1000000
/-! DL39: the places where a way can end: plain. -/
namespace DL
open PySem PySem.Spec PyProof.Rows L2
variable [Gh]

theorem Rt.head {R : Nat → Nat → Prop} {a b c : Nat} (h : R a b) (t : Rt R b c) : Rt R a c := by
  induction t with
  | refl => exact .step .refl h
  | step _ r ih => exact .step ih r
theorem leaf_le (l : List Nat) (v : WT) {a b : Nat} (h : a ≤ l.length) : (∃ t, tk l v a = some t ∧ b = a + t) → b ≤ l.length
  | ⟨t, e, z⟩ => by rw [z]; exact tk_le l v a t h e
mutual
theorem En_le (l : List Nat) : ∀ (v : WT) (a b : Nat), a ≤ l.length → En l v a b → b ≤ l.length
  | .nothing, a, b, h, e => by rw [En] at e; exact leaf_le l _ h e
  | .one, a, b, h, e => by rw [En] at e; exact leaf_le l _ h e
  | .letter s, a, b, h, e => by rw [En] at e; exact leaf_le l _ h e
  | .call s, a, b, h, e => by rw [En] at e; exact leaf_le l _ h e
  | .un .again w, a, b, h, e => by
    rw [En] at e
    have ih := En_le l w
    induction e with
    | refl => exact h
    | step _ r j => exact ih _ _ j r
  | .un .maybe w, a, b, h, e => by
    rw [En] at e
    rcases e with rfl | e
    · exact h
    · exact En_le l w a b h e
  | .un .ahead w, a, b, h, e => by rw [En] at e; exact leaf_le l _ h e
  | .un .unless w, a, b, h, e => by rw [En] at e; exact leaf_le l _ h e
  | .many true ws, a, b, h, e => by rw [En] at e; exact EnAny_le l ws a b h e
  | .many false ws, a, b, h, e => by rw [En] at e; exact EnRow_le l ws a b h e
theorem EnAny_le (l : List Nat) : ∀ (ws : List WT) (a b : Nat), a ≤ l.length → EnAny l ws a b → b ≤ l.length
  | [], a, b, h, e => by rw [EnAny] at e; exact e.elim
  | w :: ws, a, b, h, e => by
    rw [EnAny] at e
    rcases e with e | e
    · exact En_le l w a b h e
    · exact EnAny_le l ws a b h e
theorem EnRow_le (l : List Nat) : ∀ (ws : List WT) (a b : Nat), a ≤ l.length → EnRow l ws a b → b ≤ l.length
  | [], a, b, h, e => by rw [EnRow] at e; omega
  | w :: ws, a, b, h, e => by
    rw [EnRow] at e
    obtain ⟨m, e1, e2⟩ := e
    exact EnRow_le l ws m b (En_le l w a m h e1) e2
end
theorem tkAgain_rt {f : Nat → Option Nat} {R : Nat → Nat → Prop} (h : ∀ p t, f p = some t → R p (p + t)) : ∀ n p, Rt R p (p + tkAgain f n p)
  | 0, p => by rw [tkAgain, Nat.add_zero]; exact .refl
  | n + 1, p => by
    unfold tkAgain
    cases e : f p with
    | none => exact .refl
    | some t =>
      cases t with
      | zero => exact .refl
      | succ t =>
        have q := tkAgain_rt h n (p + (t + 1))
        rw [Nat.add_assoc] at q
        exact .head (h p (t + 1) e) q
mutual
/-- what is taken is among the ends -/
theorem tk_En (l : List Nat) : ∀ (v : WT) (p t : Nat), tk l v p = some t → En l v p (p + t)
  | .nothing, p, t, h => by rw [En]; exact ⟨t, h, rfl⟩
  | .one, p, t, h => by rw [En]; exact ⟨t, h, rfl⟩
  | .letter s, p, t, h => by rw [En]; exact ⟨t, h, rfl⟩
  | .call s, p, t, h => by rw [En]; exact ⟨t, h, rfl⟩
  | .un .again w, p, t, h => by
    rw [tk] at h
    cases h
    rw [En]
    exact tkAgain_rt (tk_En l w) _ p
  | .un .maybe w, p, t, h => by
    rw [tk] at h
    cases h
    rw [En]
    cases e : tk l w p with
    | none => exact .inl rfl
    | some t => exact .inr (tk_En l w p t e)
  | .un .ahead w, p, t, h => by rw [En]; exact ⟨t, h, rfl⟩
  | .un .unless w, p, t, h => by rw [En]; exact ⟨t, h, rfl⟩
  | .many true ws, p, t, h => by
    rw [tk] at h
    rw [En]
    exact tk_EnAny l ws p t h
  | .many false ws, p, t, h => by
    rw [tk] at h
    rw [En]
    exact tk_EnRow l ws p t h
theorem tk_EnAny (l : List Nat) : ∀ (ws : List WT) (p t : Nat), tkChoice l ws p = some t → EnAny l ws p (p + t)
  | [], p, t, h => by rw [tkChoice] at h; cases h
  | w :: ws, p, t, h => by
    rw [tkChoice] at h
    rw [EnAny]
    cases e : tk l w p with
    | none => rw [e] at h; exact .inr (tk_EnAny l ws p t h)
    | some u => rw [e] at h; cases h; exact .inl (tk_En l w p _ e)
theorem tk_EnRow (l : List Nat) : ∀ (ws : List WT) (p t : Nat), tkRow l ws p = some t → EnRow l ws p (p + t)
  | [], p, t, h => by rw [tkRow] at h; cases h; rw [EnRow, Nat.add_zero]
  | w :: ws, p, t, h => by
    rw [tkRow] at h
    rw [EnRow]
    cases e : tk l w p with
    | none => rw [e] at h; cases h
    | some u =>
      rw [e] at h
      cases e2 : tkRow l ws (p + u) with
      | none => simp only [e2, Option.map_none] at h; cases h
      | some r =>
        simp only [e2, Option.map_some] at h
        cases h
        have q := tk_EnRow l ws (p + u) r e2
        rw [Nat.add_assoc] at q
        exact ⟨p + u, tk_En l w p u e, q⟩
end

/-! ### ascending lists of places -/
theorem okEq_nat (k : Nat) : okEq (.int (k : Nat)) := okEq_flat rfl

/-! ### the closure, found round by round -/
theorem Clo.next {R : Nat → Nat → Prop} {L : Nat} {ps found latest further : List Nat} (c : Clo R L ps found latest) (hR : ∀ a b, a ≤ L → R a b → b ≤ L) (h : EndOf R latest further) :
    Clo R L ps (found ++ further.filter fun p => !decide (p ∈ found)) (further.filter fun p => !decide (p ∈ found)) := by
  have mf : ∀ b, b ∈ further.filter (fun p => !decide (p ∈ found)) ↔ b ∈ further ∧ b ∉ found := fun b => by
    rw [List.mem_filter, Bool.not_eq_true', decide_eq_false_iff_not]
  refine ⟨?_, fun b hb => ?_, fun p hp => List.mem_append_left _ (c.all_ p hp), fun b hb => ?_, fun b hb => List.mem_append_right _ hb, h.1.filter _, fun a ha hn b hb => ?_⟩
  · rw [List.nodup_append]
    refine ⟨c.nd, Asc.nodup (h.1.filter _), fun x hx y hy e => ?_⟩
    exact ((mf y).mp hy).2 (e ▸ hx)
  · rcases List.mem_append.mp hb with hb | hb
    · exact c.le b hb
    · obtain ⟨a, ha, r⟩ := (h.2 b).mp ((mf b).mp hb).1
      exact hR a b (c.le a (c.lt a ha)) r
  · rcases List.mem_append.mp hb with hb | hb
    · exact c.of b hb
    · obtain ⟨a, ha, r⟩ := (h.2 b).mp ((mf b).mp hb).1
      obtain ⟨p, hp, t⟩ := c.of a (c.lt a ha)
      exact ⟨p, hp, .step t r⟩
  · rcases List.mem_append.mp ha with ha | ha
    · by_cases hl : a ∈ latest
      · by_cases hf : b ∈ found
        · exact List.mem_append_left _ hf
        · exact List.mem_append_right _ ((mf b).mpr ⟨(h.2 b).mpr ⟨a, hl, hb⟩, hf⟩)
      · exact List.mem_append_left _ (c.cl a ha hl b hb)
    · exact absurd ha hn
theorem Clo.done {R : Nat → Nat → Prop} {L : Nat} {ps found : List Nat} (c : Clo R L ps found []) : ∀ b, b ∈ found ↔ ∃ a ∈ ps, Rt R a b := fun b => by
  refine ⟨c.of b, fun ⟨a, ha, t⟩ => ?_⟩
  have key : ∀ b, Rt R a b → b ∈ found := fun b t => by
    induction t with
    | refl => exact c.all_ a ha
    | step _ r ih => exact c.cl _ ih List.not_mem_nil _ r
  exact key b t
end DL
set_option Elab.async false
set_option linter.all false
set_option maxRecDepth 100000
set_option maxHeartbeats 1000000
/-! DL40: promises of the defs that look for ends; sorted(a list). -/
namespace DL
open PySem PySem.Spec PyProof.Rows L2
variable [Gh]
section
variable {X : Cx} {c a b : Expr} {pos : Pos} {tc : DTT} {ta tb : DTN}
end
section
variable {X : Cx} {e : Expr} {p pos : Pos} {te : DT}
end
section
variable {X : Cx}
end
mutual
theorem WT.cw_le : ∀ w : WT, w.cw ≤ w.size
  | .un _ v => by
    have := WT.cw_le v
    have := v.size_pos
    simp only [WT.cw, WT.size]
    omega
  | .many true ws => by
    have := WT.cws_le ws
    have := WT.len_le ws
    simp only [WT.cw, WT.size]
    omega
  | .many false ws => by
    have := WT.cws_le ws
    simp only [WT.cw, WT.size]
    omega
  | .nothing => Nat.zero_le _
  | .one => Nat.zero_le _
  | .letter _ => Nat.zero_le _
  | .call _ => Nat.zero_le _
theorem WT.cws_le : ∀ ws : List WT, WT.cws ws ≤ WT.sizes ws
  | [] => Nat.le_refl _
  | w :: ws => by
    have := WT.cw_le w
    have := WT.cws_le ws
    simp only [WT.cws, WT.sizes]
    omega
end
end DL
namespace DL
open PySem PySem.Spec PyProof.Rows L2
end DL
set_option Elab.async false
set_option linter.all false
set_option maxRecDepth 100000
set_option maxHeartbeats 1000000
/-! DL41: defs that show lists, called by a law. -/
namespace DL
open PySem PySem.Spec PyProof.Rows L2
section
variable {P : Program} {w : World} {K : PySem.W.Frag} {mg : Str → Option Value} {base : Heap} {x qual : Str} {params : Arguments} {body : List Stmt} {scope : Scope} {dvs : List V} {kws : List (Str × V)} {f : Addr} {fd : FuncData}
end
section
variable [Gh] {X : Cx} {k : Nat} {f : Addr} {fd : FuncData} {ps : List Str} {sp : Sp} {E : XK} {x : Str} {p pos : Pos} {e : Expr} {es : List Expr} {t : TA}
end
end DL
set_option Elab.async false
set_option linter.all false
set_option maxRecDepth 100000
set_option maxHeartbeats 1000000
/-! DL42: sums: plain. -/
namespace DL
open PySem PySem.Spec PyProof.Rows L2
variable [Gh]
section
variable {tt : List Nat} {c n : Nat}
/-! ### rounds -/
theorem SumsTo.next {ss : List Nat} (pos : ∀ s ∈ ss, 0 < s) {T : Nat} {qs : List Nat} (h : SumsTo n ss T qs) (hT : T + 1 ≤ n) : SumsTo n ss (T + 1) (qs ++ (if (∃ s ∈ ss, ∃ q ∈ qs, q + s = T + 1) then [T + 1] else [])) := by
  have key : Rt (Stp n ss) 0 (T + 1) ↔ ∃ s ∈ ss, ∃ q ∈ qs, q + s = T + 1 := by
    constructor
    · intro t
      cases t with
      | step t r =>
        obtain ⟨s, hs, e, z⟩ := r
        rename_i m
        have := pos s hs
        exact ⟨s, hs, m, (h.mem m).mpr ⟨by omega, t⟩, e.symm⟩
    · rintro ⟨s, hs, q, hq, e⟩
      exact .step ((h.mem q).mp hq).2 ⟨s, hs, e.symm, hT⟩
  by_cases g : ∃ s ∈ ss, ∃ q ∈ qs, q + s = T + 1
  · rw [if_pos g]
    refine ⟨List.pairwise_append.mpr ⟨h.asc, List.pairwise_singleton _ _, fun a ha b hb => ?_⟩, fun b => ?_⟩
    · rw [List.mem_singleton.mp hb]
      exact Nat.lt_succ_of_le ((h.mem a).mp ha).1
    · rw [List.mem_append, List.mem_singleton, h.mem b]
      constructor
      · rintro (⟨z1, z2⟩ | rfl)
        · exact ⟨by omega, z2⟩
        · exact ⟨Nat.le_refl _, key.mpr g⟩
      · rintro ⟨z1, z2⟩
        by_cases e : b = T + 1
        · exact .inr e
        · exact .inl ⟨by omega, z2⟩
  · rw [if_neg g, List.append_nil]
    refine ⟨h.asc, fun b => ?_⟩
    rw [h.mem b]
    constructor
    · rintro ⟨z1, z2⟩
      exact ⟨by omega, z2⟩
    · rintro ⟨z1, z2⟩
      by_cases e : b = T + 1
      · subst e
        exact absurd (key.mp z2) g
      · exact ⟨by omega, z2⟩
end
end DL
namespace DL
open PySem PySem.Spec PyProof.Rows L2
variable [Gh]
/-! ### a row of maybes -/
section
variable {tt : List Nat} {c n : Nat}
end
/-! ### sizes and widths -/
end DL
set_option Elab.async false
set_option linter.all false
set_option maxRecDepth 100000
set_option maxHeartbeats 1000000
/-! DL43: promises of the defs of k16. -/
namespace DL
open PySem PySem.Spec PyProof.Rows L2
variable [Gh]
section
variable {c n : Nat} {ss tt : List Nat}
end
end DL
set_option Elab.async false
set_option linter.all false
set_option maxRecDepth 100000
set_option maxHeartbeats 1000000
/-! DL44: texts of k16. -/
namespace DL
open PySem PySem.Spec PyProof.Rows L2
variable [Gh]
end DL
set_option Elab.async false
set_option linter.all false
set_option maxRecDepth 100000
set_option maxHeartbeats 1000000
/-! DL45: a mutable thing: o.f += e; C(..) that stays mutable; a def held in a field is called. -/
namespace DL
open PySem PySem.Spec PyProof.Rows L2
variable [Gh]
section
variable {X : Cx} {o value : Expr} {f : Str} {pos tpos : Pos} {ta tv : DT}
/-- o.f += e, ints -/
@[reducible] def sFAdd (K : PySem.W.Frag) (ta tv : DT) (f : Str) : DTS := fun E env M => ta env M fun d env1 M1 => match d with
  | .ref a => (match M1 a with
    | some (.ins C ns ds) => FldOk K C f ∧ ∃ i, fget f ns ds = some (.int i) ∧ tv env1 M1 fun y env2 M2 => ∃ j, y = .int j ∧ M2 a = some (.ins C ns ds) ∧ ns.length < 1000 ∧ E.nx env2 (mset M2 a (.ins C (fputN f ns) (fputD f (.int (i + j)) ns ds)))
    | _ => False)
  | _ => False
theorem s_fadd (ha : DE X o ta) (hv : DE X value tv) : DS X (.AugAssign (.Attribute o f tpos) .Add value pos) (sFAdd X.K ta tv f) := by
  refine ps_imp (ps_fldaug ha hv in_add) fun D σ H ⟨F, S, env, M, Ed, R, t, p⟩ => ⟨F, S, env, M, _, R, t, fun v H1 S1 env1 M1 d s1 R1 r1 q1 => ?_⟩
  cases d with
  | ref a =>
    cases r1
    cases e : M1 a with
    | none => simp only [e] at q1
    | some m =>
      cases m with
      | ins C ns ds =>
        simp only [e] at q1
        obtain ⟨c, i, hi, q1⟩ := q1
        obtain ⟨dx, xs, e1, lx, tx⟩ := (R1.c.mem a _ e).2
        obtain ⟨w0, hl, rw0⟩ := reps_fget tx hi
        obtain rfl : w0 = V.int i := rw0
        refine ⟨a, C, dx, _, _, rfl, e1, c.1, c.2, hl, F, S1, env1, M1, _, R1, q1, fun y H2 S2 env2 M2 d2 s2 R2 r2 q2 => ?_⟩
        obtain ⟨j, rfl, e2, ln, q2⟩ := q2
        obtain rfl : y = V.int j := r2
        obtain ⟨dx2, xs2, f1, lx2, tx2⟩ := (R2.c.mem a _ e2).2
        have z := putF_zip (f := f) (v := V.int (i + j)) lx2
        refine ⟨i, j, rfl, rfl, dx2, _, f1, by rw [List.length_zip, lx2, Nat.min_self]; exact ln, ?_⟩
        rw [z.1]
        exact p.nx σ _ S2 env2 _ (s1.trans s2) (R2.setM (m' := .ins C (fputN f ns) (fputD f (.int (i + j)) ns ds)) e2 ⟨dx2, _, upd_same, z.2, reps_fput (d := .int (i + j)) (v := V.int (i + j)) rfl tx2⟩) q2
      | _ => simp only [e] at q1
  | _ => exact q1.elim
end
/-- o.m(..) where m is a def held in a field of o -/
def tFldCall (K : PySem.W.Frag) (m : Str) (g : Addr) (sp : Sp) (E : XK) (ta : TE) (t : TA) : TE := fun σ H Q => ta σ H fun x H1 => ∃ a C dx fs, x = .ref a ∧ H1 a = some (.ins C dx fs) ∧ Cls K C ∧ NoAttr K C m ∧ fs.lookup m = some (.ref g) ∧
  t σ H1 fun vs H2 => sp vs H2 Q E
section
variable {X : Cx} {k : Nat} {g : Addr} {fd : FuncData} {ps : List Str} {sp : Sp} {E : XK} {m : Str} {pos apos : Pos} {e o : Expr} {es : List Expr} {ta : TE} {t : TA}
theorem pe_fldCall {pl : Sem Bool} (he : L2.PE X o ta) (G : FnOk X.prog X.w X.K X.mg X.base CX0 k g fd ps sp) (hk : PySem.W.keepIn X.K (.ref g) = true) (hr : Room k X.A) (hb : Binds X.K fd ps []) (hx : Passes CX0 X E) (ha : L2.PA X (e :: es) t)
    (hst : starEach (e :: es) X.env = (false, eval e X.env) :: starEach es X.env) (hpl : (backTo pos (starEach es X.env)).any (·.1) = false)
    (ht : eval (.Call (.Attribute o m apos) (e :: es) [] pos) X.env = (do
      let ov ← eval o X.env
      standAt apos.atName
      let (f, first) ← holding [ov] (getMethod ov m pl)
      callWith pos f first (backTo pos (starEach (e :: es) X.env)) (backToKw pos (keywordEach [] X.env)))) :
    L2.PE X (.Call (.Attribute o m apos) (e :: es) [] pos) (tFldCall X.K m g sp E ta t) := by
  refine ⟨fun pins s σ H Q I h => ?_⟩
  refine PySem.W.methodCall_KW (pl := pl) (thn (he.run pins s σ H _ I h) fun w0 z1 ⟨x, G1, J1, rx, a, C, dx, fs, ex, ea, c, hm, l, q⟩ => ?_) ht
  subst ex
  obtain rfl : w0 = Value.ref a := rx
  refine getmeth_fld J1 ea c hm l fun u z2 J2 ru => ?_
  obtain rfl : u = Value.ref g := ru
  refine PySem.W.callWith_K (first := []) (h₀ := X.base) I.ok.mod.kin hk (thn (ha.run pos pins z2 σ G1 _ J2 q) fun us z3 ⟨vs, G2, J3, r, q2⟩ => ⟨J3.kIn, ?_⟩) hst hpl
  exact run_fn (us := us) (vs := vs) G hr hb .nil hx J3 r (by rw [List.append_nil]; exact q2)
end
@[reducible] def dFldCall (K : PySem.W.Frag) (m : Str) (mg : Str → Option Value) (x : Str) (sp : DSp) (ta : DT) (t : DTA) : DT := fun env M Q => ta env M fun d env1 M1 => match insD d M1 with
  | some (C, ns, ds) => FldOk K C m ∧ (∃ g, fget m ns ds = some (.ref g) ∧ mg x = some (.ref g)) ∧ t env1 M1 fun es env2 M2 => sp es M2 (fun r M3 => Q r env2 M3) KX0
  | none => False
section
variable {X : Cx} {k : Nat} {ps : List Str} {sp : DSp} {m x : Str} {pos apos : Pos} {e o : Expr} {es : List Expr} {ta : DT} {t : DTA}
theorem d_fldCall {pl : Sem Bool} (h : Fn X.prog X.w X.K X.mg X.base k x ps sp) (hr : Room k X.A) (he : DE X o ta) (ha : DA X (e :: es) t)
    (hst : starEach (e :: es) X.env = (false, eval e X.env) :: starEach es X.env := by rfl) (hpl : (backTo pos (starEach es X.env)).any (·.1) = false := by rfl)
    (ht : eval (.Call (.Attribute o m apos) (e :: es) [] pos) X.env = (do
      let ov ← eval o X.env
      standAt apos.atName
      let (f, first) ← holding [ov] (getMethod ov m pl)
      callWith pos f first (backTo pos (starEach (e :: es) X.env)) (backToKw pos (keywordEach [] X.env))) := by rfl) :
    DE X (.Call (.Attribute o m apos) (e :: es) [] pos) (dFldCall X.K m X.mg x sp ta t) := by
  obtain ⟨g, fd, G, hm, hk, hb⟩ := h.ex
  refine pe_imp (pe_fldCall (pl := pl) he G hk hr hb pass0 ha hst hpl ht) fun σ H Q ⟨F, S, env, M, Qd, R, t, p⟩ => ⟨F, S, env, M, _, R, t, fun v H1 S1 env1 M1 d s1 R1 r1 q1 => ?_⟩
  cases hi : insD d M1 with
  | none => simp only [hi] at q1
  | some z =>
    obtain ⟨C, ns, ds⟩ := z
    simp only [hi] at q1
    obtain ⟨⟨c1, c2⟩, ⟨g', c3, c4⟩, q1⟩ := q1
    have eg : g' = g := by
      rw [hm] at c4
      cases c4
      rfl
    subst eg
    obtain ⟨a, dx, xs, rfl, e1, l, t1⟩ := insD_at R1.c hi r1
    obtain ⟨v', hl, rv⟩ := reps_fget t1 c3
    obtain rfl : v' = V.ref g' := rv
    exact ⟨a, C, dx, _, rfl, e1, c1, c2, hl, F, S1, env1, M1, _, R1, q1, fun vs H2 S2 env2 M2 es s2 R2 r2 q2 => sp_of R2 r2 q2 (p.up (s1.trans s2))⟩
end
end DL
set_option Elab.async false
set_option linter.all false
set_option maxRecDepth 100000
set_option maxHeartbeats 1000000
/-! DL46: C(..) that stays mutable; classmethods that may raise. -/
namespace DL
open PySem PySem.Spec PyProof.Rows L2 ClX
variable [Gh]
@[reducible] def dMakeM (C : Addr) (sp : DSp) (t : DTA) : DT := fun env M Q => t env M fun ds env1 M1 => ∀ y, M1 y = none → sp (.ref y :: ds) (mset M1 y (.ins C [] [])) (fun r M' => r = .non ∧ Q (.ref y) env1 M') KX0
section
variable {X : Cx} {k : Nat} {f C : Addr} {fd : FuncData} {ps : List Str} {sp : DSp} {x : Str} {p pos : Pos} {e : Expr} {es : List Expr} {t : DTA}
theorem d_makeM (mk : Mk X.K C f) (G : FnOk X.prog X.w X.K X.mg X.base CX0 k f fd ps (LSp X.K sp)) (hr : Room (k + 1) X.A) (hb : Binds X.K fd ps []) (hm : X.mg x = some (.ref C)) (ha : DA X (e :: es) t) (hg : Gl X x := by rfl)
    (hdb : (x == ("__debug__" : Str)) = false := by decide) (he : starEach (e :: es) X.env = (false, eval e X.env) :: starEach es X.env := by rfl) (hpl : (backTo pos (starEach es X.env)).any (·.1) = false := by rfl) :
    DE X (.Call (.Name x p) (e :: es) [] pos) (dMakeM C sp t) := by
  refine pe_imp (pe_make mk G hr hg hm hb .nil pass0 ha hdb he hpl) fun σ H Q ⟨F, S, env, M, Qd, R, t, p⟩ => ⟨F, S, env, M, _, R, t, fun vs H1 S1 env1 M1 ds s1 R1 r1 q => fun y dx hy hd ne => ?_⟩
  have hy1 : upd H1 dx (.own y) y = none := by rw [upd_ne (Ne.symm ne)]; exact hy
  have R2 : Rel X.K F S1 σ (upd H1 dx (.own y)) env1 M1 := R1.more fun b o e => by rw [upd_ne (ne_of_none e hd)]; exact e
  have R3 : Rel X.K F S1 σ (upd (upd H1 dx (.own y)) y (.ins C dx [])) env1 (mset M1 y (.ins C [] [])) := R2.newM hy1 ⟨dx, [], upd_same, rfl, trivial⟩
  have q := q y (R1.c.mfree hy)
  refine ⟨frOwn F env1 σ _, S1, .ref y :: ds, _, _, _, R3.toC, ⟨rfl, by rw [List.append_nil]; exact r1⟩, q, fun v H' S' M' d s' c' r' q' => ?_, fun _ _ _ _ _ _ _ _ _ _ z => z.elim⟩
  obtain ⟨rfl, q'⟩ := q'
  exact ⟨r', p (.ref y) H' S' env1 M' (.ref y) (s1.trans s') (R3.back c' s') rfl q'⟩
end
/-! ### classmethods -/
def tCMethS (C : Addr) (sp : Sp) (E : L2.St → XK) (ta : TE) (t : TA) : TE := fun σ H Q => ta σ H fun x H1 => x = .ref C ∧ t σ H1 fun vs H2 => sp (.ref C :: vs) H2 Q (E σ)
section
variable {X : Cx} {k : Nat} {C p g : Addr} {mc : Value} {fd : FuncData} {ps : List Str} {sp : Sp} {E : L2.St → XK} {o e : Expr} {es : List Expr} {m : Str} {pos apos : Pos} {ta : TE} {t : TA} {pl : Sem Bool}
theorem pe_cmethS (he : L2.PE X o ta) (r : CRead X.K C mc) (c : CMet X.K C mc m p g) (F : FnOk X.prog X.w X.K X.mg X.base (L2.CX X.prog X.w) k g fd ps sp) (hb : Binds X.K fd ps []) (hr : Room k X.A) (hx : ∀ σ, PassesAt (L2.CX X.prog X.w) X σ (E σ)) (ha : L2.PA X (e :: es) t)
    (hst : starEach (e :: es) X.env = (false, eval e X.env) :: starEach es X.env) (hpl : (backTo pos (starEach es X.env)).any (·.1) = false)
    (ht : eval (.Call (.Attribute o m apos) (e :: es) [] pos) X.env = (do
      let ov ← eval o X.env
      standAt apos.atName
      let (f, first) ← holding [ov] (getMethod ov m pl)
      callWith pos f first (backTo pos (starEach (e :: es) X.env)) (backToKw pos (keywordEach [] X.env)))) :
    L2.PE X (.Call (.Attribute o m apos) (e :: es) [] pos) (tCMethS C sp E ta t) := by
  refine ⟨fun pins s σ H Q I h => ?_⟩
  refine PySem.W.methodCall_KW (pl := pl) (thn (he.run pins s σ H _ I h) fun u s1 ⟨x, H1, I1, rx, ex, q⟩ => ?_) ht
  subst ex
  obtain rfl : u = Value.ref C := rx
  refine getmethcm_ok I1 r c fun s2 I2 => ?_
  refine callwith_cm I2 (base_none I1 (Nat.le_refl _)) c.fi (thn (ha.run pos _ s2 σ H1 _ I2 q) fun us s3 ⟨vs, H2, I3, rv, q2⟩ => ⟨⟨pin_at I3, I3.kIn⟩, ?_⟩) hst hpl
  have rv2 : Vals (.ref C :: vs) (.ref C :: us) := .cons rfl rv
  have hl : (Value.ref C :: us).length = ps.length := by rw [← rv2.length]; exact F.len _ _ _ _ q2
  have b := hb s3 (.ref C :: us) I3.kIn (by rw [List.append_nil]; exact hl)
  rw [List.append_nil] at b
  have z : wpAny (model X.prog X.w) X.A (call (.ref s1.heap.objs.size) us) (EP X ((s1.heap.objs.size, PySem.W.methodObj (.ref g) (.ref C)) :: pins) σ Q) X.xe s3 :=
    wpAny_call (PySem.W.method_call (pin_at I3) (codeAny_mono (F.run X.A X.stack s3 H2 ⟨.ref C :: us, []⟩ (.ref C :: us) (.ref C :: vs) Q (E σ) hr I3.env0 b rv2 q2) fun r s' hq => by
      cases r with
      | error e => exact hx σ _ H2 s3 e s' I3 hq
      | ok fl =>
        cases fl with
        | ret u => exact I3.after hq
        | next => exact False.elim hq
        | brk => exact False.elim hq
        | cont => exact False.elim hq))
  exact thn z fun _ _ y => unpinE y
end
@[reducible] def dCMeth (C : Addr) (Wd : KW) (sp : DSp) (ta : DT) (t : DTA) : DT := fun env M Q => ta env M fun d env1 M1 => d = .ref C ∧ t env1 M1 fun es env2 M2 => sp (.ref C :: es) M2 (fun r M3 => Q r env2 M3) (fun C ns es M3 => Wd C ns es env2 M3)
section
variable {X : Cx} {k : Nat} {C p g : Addr} {mc : Value} {fd : FuncData} {ps : List Str} {sp : DSp} {o e : Expr} {es : List Expr} {m : Str} {pos apos : Pos} {ta : DT} {t : DTA} {Wd : KW}
theorem d_cmeth {pl : Sem Bool} (tk : TakesD X Wd) (he : DE X o ta) (r : CRead X.K C mc) (c : CMet X.K C mc m p g) (F : FnOk X.prog X.w X.K X.mg X.base (L2.CX X.prog X.w) k g fd ps (LSp X.K sp)) (hb : Binds X.K fd ps []) (hr : Room k X.A) (ha : DA X (e :: es) t)
    (hst : starEach (e :: es) X.env = (false, eval e X.env) :: starEach es X.env := by rfl) (hpl : (backTo pos (starEach es X.env)).any (·.1) = false := by rfl)
    (ht : eval (.Call (.Attribute o m apos) (e :: es) [] pos) X.env = (do
      let ov ← eval o X.env
      standAt apos.atName
      let (f, first) ← holding [ov] (getMethod ov m pl)
      callWith pos f first (backTo pos (starEach (e :: es) X.env)) (backToKw pos (keywordEach [] X.env))) := by rfl) :
    DE X (.Call (.Attribute o m apos) (e :: es) [] pos) (dCMeth C Wd sp ta t) := by
  refine pe_imp (pe_cmethS (pl := pl) he r c F hb hr (fun σ => passAt tk σ) ha hst hpl ht) fun σ H Q ⟨F', S, env, M, Qd, R, t, p⟩ => ⟨F', S, env, M, _, R, t, fun v H1 S1 env1 M1 d s1 R1 r1 q1 => ?_⟩
  obtain ⟨rfl, q1⟩ := q1
  obtain rfl : v = V.ref C := r1
  exact ⟨rfl, F', S1, env1, M1, _, R1, q1, fun vs H2 S2 env2 M2 es s2 R2 r2 q2 => sp_ofX R2 (show Reps X.K S2 (.ref C :: es) (V.ref C :: vs) from ⟨rfl, r2⟩) q2 (p.up (s1.trans s2))⟩
end
end DL
set_option Elab.async false
set_option linter.all false
set_option maxRecDepth 100000
set_option maxHeartbeats 1000000
/-! DL47: a sign in a text; how texts of ways are read: plain. -/
namespace DL
open PySem PySem.Spec PyProof.Rows L2
variable [Gh]
section
variable {X : Cx}
/-- one sign in a text -/
@[reducible] def rdInS : RD2 := fun d e env M Q => ∃ (c : Nat) (z : Str), d = .str (tx [c]) ∧ e = .str z ∧ Q (.bl (decide (c ∈ z.cps.toList))) env M
@[reducible] def rdNinS : RD2 := fun d e env M Q => ∃ (c : Nat) (z : Str), d = .str (tx [c]) ∧ e = .str z ∧ Q (.bl (!decide (c ∈ z.cps.toList))) env M
theorem od_inS : OpD X (compareOp .In) rdInS := by
  refine ⟨⟨_, op_in_sign, fun F S σ H env M x y d e Qd Q R r1 r2 q p => ?_⟩⟩
  obtain ⟨c, z, rfl, rfl, q⟩ := q
  obtain rfl := r1
  obtain rfl := r2
  exact ⟨c, z, rfl, rfl, p _ H S env M (.bl (decide (c ∈ z.cps.toList))) (Same.refl _) R rfl q⟩
theorem od_ninS : OpD X (compareOp .NotIn) rdNinS := by
  refine ⟨⟨_, op_notIn_sign, fun F S σ H env M x y d e Qd Q R r1 r2 q p => ?_⟩⟩
  obtain ⟨c, z, rfl, rfl, q⟩ := q
  obtain rfl := r1
  obtain rfl := r2
  exact ⟨c, z, rfl, rfl, p _ H S env M (.bl (!decide (c ∈ z.cps.toList))) (Same.refl _) R rfl q⟩
end
/-! ### reading -/
theorem sk_step {t : List Nat} {p : Nat} (h : t[p]? = some 32) : sk t p = sk t (p + 1) := by
  unfold sk
  have hp := (List.getElem?_eq_some_iff.mp h).1
  rw [List.drop_eq_getElem_cons hp, (List.getElem?_eq_some_iff.mp h).2, List.takeWhile_cons]
  simp only [decide_true, if_true, List.length_cons]
  omega
theorem sk_stop {t : List Nat} {p : Nat} (h : t[p]? ≠ some 32) : sk t p = p := by
  unfold sk
  cases e : t[p]? with
  | none =>
    rw [List.drop_eq_nil_of_le (List.getElem?_eq_none_iff.mp e)]
    rfl
  | some c =>
    have hp := (List.getElem?_eq_some_iff.mp e).1
    have hc : c ≠ 32 := fun z => h (by rw [e, z])
    rw [List.drop_eq_getElem_cons hp, (List.getElem?_eq_some_iff.mp e).2, List.takeWhile_cons]
    simp [hc]
theorem sk_le {t : List Nat} {p : Nat} (h : p ≤ t.length) : sk t p ≤ t.length := by
  unfold sk
  have := (List.takeWhile_sublist (fun c => decide (c = 32)) (l := t.drop p)).length_le
  rw [List.length_drop] at this
  omega
theorem sk_ge (t : List Nat) (p : Nat) : p ≤ sk t p := Nat.le_add_right _ _
theorem sk_not (t : List Nat) : ∀ (k p : Nat), t.length - p = k → t[sk t p]? ≠ some 32
  | 0, p, h => by
    have e : t[p]? = none := List.getElem?_eq_none (by omega)
    rw [sk_stop (by rw [e]; intro z; cases z), e]
    intro z
    cases z
  | k + 1, p, h => by
    by_cases hs : t[p]? = some 32
    · rw [sk_step hs]
      exact sk_not t k (p + 1) (by omega)
    · rw [sk_stop hs]
      exact hs
inductive Res where
  | bad (p : Nat)
  | ok (w : WT) (p : Nat)
/-- the codes of the signs: / & ! * ? . < > ( ) -/
abbrev cSlash : Nat := 47
abbrev cStar : Nat := 42
abbrev cQuest : Nat := 63
abbrev cGt : Nat := 62
abbrev cClose : Nat := 41
def isLet (t : List Nat) (p : Nat) : Bool := match t[p]? with
  | some c => decide (c ∈ lettersN)
  | none => false
def nameEnd (t : List Nat) : Nat → Nat → Nat
  | 0, p => p
  | k + 1, p => if isLet t p then nameEnd t k (p + 1) else p
/-- .. at most twelve letters from p; none: the place where it is refused -/
def pName (t : List Nat) (p : Nat) : Option Nat × Nat :=
  let s := sk t p
  let e := nameEnd t 12 s
  if e = s ∨ isLet t e = true then (none, e) else (some s, e)
def pStep (t : List Nat) (c p : Nat) : Option Nat := if t[sk t p]? = some c then some (sk t p + 1) else none
def pOne (t : List Nat) (choice : Nat → Res) (p : Nat) : Res :=
  let s := sk t p
  match t[s]? with
  | none => .bad s
  | some c =>
    if !begC c || decide (c = cAmp) || decide (c = cBang) then .bad s
    else if c ∈ lettersN then .ok (.letter (tx [c])) (s + 1)
    else if c = cDot then .ok .one (s + 1)
    else if c = cLt then match pName t (s + 1) with
      | (none, e) => .bad e
      | (some b, e) => match pStep t cGt e with
        | none => .bad (sk t e)
        | some q => .ok (.call (tx ((t.drop b).take (e - b)))) q
    else if t[sk t (s + 1)]? = some cClose then .ok .nothing (sk t (s + 1) + 1)
    else match choice (sk t (s + 1)) with
      | .bad q => .bad q
      | .ok w q => match pStep t cClose q with
        | none => .bad (sk t q)
        | some r => .ok w r
def pReps (t : List Nat) : Nat → WT → Nat → WT × Nat
  | 0, w, p => (w, p)
  | k + 1, w, p => match t[sk t p]? with
    | some c => if c = cStar then pReps t k (.un .again w) (sk t p + 1) else if c = cQuest then pReps t k (.un .maybe w) (sk t p + 1) else (w, sk t p)
    | none => (w, sk t p)
def pRepeat (t : List Nat) (choice : Nat → Res) (p : Nat) : Res := match pOne t choice p with
  | .bad q => .bad q
  | .ok w q => let r := pReps t (t.length + 1) w q; .ok r.1 r.2
def mkW (c : Bool) (ws : List WT) : WT := match ws with
  | [w] => w
  | _ => .many c ws
def pRows (t : List Nat) (look : Nat → Res) : Nat → List WT → Nat → Res
  | 0, _, p => .bad p
  | k + 1, ws, p => if begins t p then match look (sk t p) with
      | .bad q => .bad q
      | .ok w q => pRows t look k (ws ++ [w]) q
    else .ok (mkW false ws) (sk t p)
def pRow (t : List Nat) (look : Nat → Res) (p : Nat) : Res := match look p with
  | .bad q => .bad q
  | .ok w q => pRows t look (t.length + 1) [w] q
def pAlts (t : List Nat) (row : Nat → Res) : Nat → List WT → Nat → Res
  | 0, _, p => .bad p
  | k + 1, ws, p => if t[sk t p]? = some cSlash then match row (sk t p + 1) with
      | .bad q => .bad q
      | .ok w q => pAlts t row k (ws ++ [w]) q
    else .ok (mkW true ws) (sk t p)
def pChoice (t : List Nat) (look : Nat → Res) (p : Nat) : Res := match pRow t look p with
  | .bad q => .bad q
  | .ok w q => pAlts t (pRow t look) (t.length + 1) [w] q
def pLook (t : List Nat) : Nat → Nat → Res
  | 0, p => .bad p
  | n + 1, p => match t[sk t p]? with
    | some c => if c = cAmp ∨ c = cBang then match pLook t n (sk t p + 1) with
        | .bad q => .bad q
        | .ok w q => .ok (.un (if c = cAmp then .ahead else .unless) w) q
      else pRepeat t (pChoice t (pLook t n)) (sk t p)
    | none => pRepeat t (pChoice t (pLook t n)) (sk t p)
/-- how deep it can go -/
def deepC (t : List Nat) : Nat := (t.filter fun c => decide (c ∈ [cOpen, cAmp, cBang])).length
def pWay (t : List Nat) : Res := match pChoice t (pLook t (deepC t + 1)) 0 with
  | .bad q => .bad q
  | .ok w q => if sk t q = t.length then .ok w (sk t q) else .bad (sk t q)
end DL
set_option Elab.async false
set_option linter.all false
set_option maxRecDepth 100000
set_option maxHeartbeats 1000000
/-! DL48: methods of one class, that do not raise (RM) or may raise (RX). -/
namespace DL
open PySem PySem.Spec PyProof.Rows L2
section
variable {P : Program} {w : World} {K : PySem.W.Frag} {mg : Str → Option Value} {base : Heap}
theorem RX.vac {k : Nat} {RC f : Addr} {m qual : Str} {ps : List Str} {st : Stmt} {sp : DSp} (G : MethAt K m qual ps st f) (c : Cls K RC) (hm : Meth K RC m f) (h : ∀ ds M Q E, ¬ sp ds M Q E) : RX P w K mg base k RC m ps sp := by
  obtain ⟨fd, F, hb⟩ := G.ex
  exact ⟨⟨f, fd, ⟨fun vs H Q E ⟨_, _, ds, M, _, _, _, _, q, _⟩ => (h _ _ _ _ q).elim, fun A outer s H args us vs Q E _ _ _ _ ⟨_, _, ds, M, _, _, _, _, q, _⟩ => (h _ _ _ _ q).elim⟩, hb, c, hm⟩⟩
theorem okRM {k : Nat} {RC f : Addr} {m qual : Str} {N ps : List Str} {st : Stmt} {sp : DSp} (G : MethAt K m qual ps st f) (c : Cls K RC) (hm : Meth K RC m f) (S : FnScope N ps (defScope st)) (len : ∀ ds M Q E, sp ds M Q E → ds.length = ps.length)
    (hbody : ∀ (cdv : Value) (A : Around) (outer : List Env) (s : Shared) (H : Hp) (E : XK), Room k (A.deeper (envOfC qual (defScope st) s.heap.objs.size f cdv)) →
      ∃ t, DSs (cxOf CX0 P w K mg base N qual (defScope st) f cdv A outer s H E).nox (defBody st) t ∧ ∀ ds M Q Ed, sp ds M Q Ed → t { nx := fun _ M' => Q .non M', rt := Q } (startD N ds) M) : RM P w K mg base (k + 1) RC m ps sp := by
  obtain ⟨fd, F, hb⟩ := G.ex
  exact ⟨⟨f, fd, okD F S len hbody, hb, c, hm⟩⟩
theorem okRX {k : Nat} {RC f : Addr} {m qual : Str} {N ps : List Str} {st : Stmt} {sp : DSp} (G : MethAt K m qual ps st f) (c : Cls K RC) (hm : Meth K RC m f) (S : FnScope N ps (defScope st)) (len : ∀ ds M Q E, sp ds M Q E → ds.length = ps.length)
    (hbody : ∀ [Gh] (cdv : Value) (A : Around) (outer : List Env) (s : Shared) (H : Hp) (E : XK) (Ed : KX), Room k (A.deeper (envOfC qual (defScope st) s.heap.objs.size f cdv)) → TakesD (cxOf (L2.CX P w) P w K mg base N qual (defScope st) f cdv A outer s H E) (kwOf Ed) →
      ∃ t, DSs (cxOf (L2.CX P w) P w K mg base N qual (defScope st) f cdv A outer s H E) (defBody st) t ∧ ∀ ds M Q, sp ds M Q Ed → t { nx := fun _ M' => Q .non M', rt := Q } (startD N ds) M) : RX P w K mg base (k + 1) RC m ps sp := by
  obtain ⟨fd, F, hb⟩ := G.ex
  exact ⟨⟨f, fd, okDX F S len (fun {_} cdv A outer s H E Ed hr tk => hbody cdv A outer s H E Ed hr tk), hb, c, hm⟩⟩
end
/-- a thing of the class at RC, its name m free for the class -/
@[reducible] def dRM (RC : Addr) (m : Str) (sp : DSp) (ta : DT) (t : DTA) : DT := fun env M Q => ta env M fun d env1 M1 => match insD d M1 with
  | some (C, ns, ds) => C = RC ∧ fget m ns ds = none ∧ t env1 M1 fun es env2 M2 => sp (d :: es) M2 (fun r M3 => Q r env2 M3) KX0
  | none => False
@[reducible] def dRX (RC : Addr) (m : Str) (Wd : KW) (sp : DSp) (ta : DT) (t : DTA) : DT := fun env M Q => ta env M fun d env1 M1 => match insD d M1 with
  | some (C, ns, ds) => C = RC ∧ fget m ns ds = none ∧ t env1 M1 fun es env2 M2 => sp (d :: es) M2 (fun r M3 => Q r env2 M3) (fun C ns es M3 => Wd C ns es env2 M3)
  | none => False
section
variable [Gh] {X : Cx} {k : Nat} {RC : Addr} {ps : List Str} {sp : DSp} {m : Str} {pos apos : Pos} {e o : Expr} {es : List Expr} {ta : DT} {t : DTA} {Wd : KW}
theorem d_rm0 {pl : Sem Bool} (h : RM X.prog X.w X.K X.mg X.base k RC m ps sp) (hr : Room k X.A) (he : DE X o ta)
    (ht : eval (.Call (.Attribute o m apos) [] [] pos) X.env = (do
      let ov ← eval o X.env
      standAt apos.atName
      let (f, first) ← holding [ov] (getMethod ov m pl)
      callWith pos f first (backTo pos (starEach [] X.env)) (backToKw pos (keywordEach [] X.env))) := by rfl) :
    DE X (.Call (.Attribute o m apos) [] [] pos) (dRM RC m sp ta dNil) := by
  obtain ⟨f, fd, G, hb, c, hm⟩ := h.ex
  refine pe_imp (pe_methG0 (pl := pl) he G hr hb .nil pass0 ht) fun σ H Q ⟨F, S, env, M, Qd, R, t, p⟩ => ⟨F, S, env, M, _, R, t, fun v H1 S1 env1 M1 d s1 R1 r1 q1 => ?_⟩
  cases hi : insD d M1 with
  | none => simp only [hi] at q1
  | some z =>
    obtain ⟨C, ns, ds⟩ := z
    simp only [hi] at q1
    obtain ⟨rfl, c3, q1⟩ := q1
    obtain ⟨a, dx, xs, rfl, e1, l, t1⟩ := insD_at R1.c hi r1
    exact ⟨a, C, dx, _, rfl, e1, c, hm, reps_fget_none t1 c3, sp_of R1 (show Reps X.K S1 (d :: []) (V.ref a :: ([] ++ [])) from ⟨r1, trivial⟩) q1 (p.up s1)⟩
theorem d_rx {pl : Sem Bool} (tk : TakesD X Wd) (h : RX X.prog X.w X.K X.mg X.base k RC m ps sp) (hr : Room k X.A) (he : DE X o ta) (ha : DA X (e :: es) t)
    (hst : starEach (e :: es) X.env = (false, eval e X.env) :: starEach es X.env := by rfl) (hpl : (backTo pos (starEach es X.env)).any (·.1) = false := by rfl)
    (ht : eval (.Call (.Attribute o m apos) (e :: es) [] pos) X.env = (do
      let ov ← eval o X.env
      standAt apos.atName
      let (f, first) ← holding [ov] (getMethod ov m pl)
      callWith pos f first (backTo pos (starEach (e :: es) X.env)) (backToKw pos (keywordEach [] X.env))) := by rfl) :
    DE X (.Call (.Attribute o m apos) (e :: es) [] pos) (dRX RC m Wd sp ta t) := by
  obtain ⟨f, fd, G, hb, c, hm⟩ := h.ex
  refine pe_imp (pe_methS' (pl := pl) he G hr hb (fun σ => passAt tk σ) ha hst hpl ht) fun σ H Q ⟨F, S, env, M, Qd, R, t, p⟩ => ⟨F, S, env, M, _, R, t, fun v H1 S1 env1 M1 d s1 R1 r1 q1 => ?_⟩
  cases hi : insD d M1 with
  | none => simp only [hi] at q1
  | some z =>
    obtain ⟨C, ns, ds⟩ := z
    simp only [hi] at q1
    obtain ⟨rfl, c3, q1⟩ := q1
    obtain ⟨a, dx, xs, rfl, e1, l, t1⟩ := insD_at R1.c hi r1
    exact ⟨a, C, dx, _, rfl, e1, c, hm, reps_fget_none t1 c3, F, S1, env1, M1, _, R1, q1, fun vs H2 S2 env2 M2 es s2 R2 r2 q2 => sp_ofX R2 (show Reps X.K S2 (d :: es) (V.ref a :: vs) from ⟨r1.mono s2, r2⟩) q2 (p.up (s1.trans s2))⟩
theorem d_rx0 {pl : Sem Bool} (tk : TakesD X Wd) (h : RX X.prog X.w X.K X.mg X.base k RC m ps sp) (hr : Room k X.A) (he : DE X o ta)
    (ht : eval (.Call (.Attribute o m apos) [] [] pos) X.env = (do
      let ov ← eval o X.env
      standAt apos.atName
      let (f, first) ← holding [ov] (getMethod ov m pl)
      callWith pos f first (backTo pos (starEach [] X.env)) (backToKw pos (keywordEach [] X.env))) := by rfl) :
    DE X (.Call (.Attribute o m apos) [] [] pos) (dRX RC m Wd sp ta dNil) := by
  obtain ⟨f, fd, G, hb, c, hm⟩ := h.ex
  refine pe_imp (pe_methS0' (pl := pl) he G hr hb (fun σ => passAt tk σ) ht) fun σ H Q ⟨F, S, env, M, Qd, R, t, p⟩ => ⟨F, S, env, M, _, R, t, fun v H1 S1 env1 M1 d s1 R1 r1 q1 => ?_⟩
  cases hi : insD d M1 with
  | none => simp only [hi] at q1
  | some z =>
    obtain ⟨C, ns, ds⟩ := z
    simp only [hi] at q1
    obtain ⟨rfl, c3, q1⟩ := q1
    obtain ⟨a, dx, xs, rfl, e1, l, t1⟩ := insD_at R1.c hi r1
    exact ⟨a, C, dx, _, rfl, e1, c, hm, reps_fget_none t1 c3, sp_ofX R1 (show Reps X.K S1 (d :: []) (V.ref a :: []) from ⟨r1, trivial⟩) q1 (p.up s1)⟩
end
end DL
set_option Elab.async false
set_option linter.all false
set_option maxRecDepth 100000
set_option maxHeartbeats 1000000
/-! DL49: promises of Reader's methods. -/
namespace DL
open PySem PySem.Spec PyProof.Rows L2
@[reducible] def rdMO (RC mk : Addr) (t : List Nat) (n p : Nat) : MO := .ins RC rdN [.str (tx t), .int (n : Nat), .ref mk, .int (p : Nat)]
@[reducible] def sgnAt (t : List Nat) (p : Nat) : D := .str (tx (match t[p]? with
  | some c => [c]
  | none => []))
def spNext (RC : Addr) : DSp := fun ds M Q _ => ∃ (a mk : Addr) (t : List Nat) (n p : Nat), ds = [.ref a] ∧ M a = some (rdMO RC mk t n p) ∧ p ≤ t.length ∧ t.length < 100000 ∧ CpOk t ∧ Q (sgnAt t (sk t p)) (mset M a (rdMO RC mk t n (sk t p)))
def spIsLet (RC : Addr) : DSp := fun ds M Q _ => ∃ (a mk : Addr) (t : List Nat) (n p : Nat), ds = [.ref a] ∧ M a = some (rdMO RC mk t n p) ∧ p ≤ t.length ∧ t.length < 100000 ∧ CpOk t ∧ Q (.bl (isLet t p)) M
def spRefuse (RC BT : Addr) : DSp := fun ds M Q E => ∃ (a mk : Addr) (t : List Nat) (n p : Nat), ds = [.ref a] ∧ M a = some (rdMO RC mk t n p) ∧ E BT ["place", "line"] [.int (p : Nat), .int (n : Nat)] M
def spStep (RC BT : Addr) : DSp := fun ds M Q E => ∃ (a mk : Addr) (t : List Nat) (n p c : Nat), ds = [.ref a, .str (tx [c])] ∧ M a = some (rdMO RC mk t n p) ∧ p ≤ t.length ∧ t.length < 100000 ∧ CpOk t ∧ c < 1114112 ∧
  (match pStep t c p with
  | some q => Q .non (mset M a (rdMO RC mk t n q))
  | none => E BT ["place", "line"] [.int ((sk t p : Nat)), .int (n : Nat)] (mset M a (rdMO RC mk t n (sk t p))))
def spBegins (RC : Addr) : DSp := fun ds M Q _ => ∃ (a mk : Addr) (t : List Nat) (n p : Nat), ds = [.ref a] ∧ M a = some (rdMO RC mk t n p) ∧ p ≤ t.length ∧ t.length < 100000 ∧ CpOk t ∧ Q (.bl (begins t p)) (mset M a (rdMO RC mk t n (sk t p)))
def spName' (RC BT : Addr) : DSp := fun ds M Q E => ∃ (a mk : Addr) (t : List Nat) (n p : Nat), ds = [.ref a] ∧ M a = some (rdMO RC mk t n p) ∧ p ≤ t.length ∧ t.length < 100000 ∧ CpOk t ∧
  (match pName t p with
  | (some b, e) => Q (.str (tx ((t.drop b).take (e - b)))) (mset M a (rdMO RC mk t n e))
  | (none, e) => E BT ["place", "line"] [.int (e : Nat), .int (n : Nat)] (mset M a (rdMO RC mk t n e)))
theorem sgnAt_ok {t : List Nat} (hc : CpOk t) (p : Nat) : okEq (sgnAt t p) := by
  unfold sgnAt
  cases ht : t[p]? with
  | none => exact okEq_tx fun x hx => by cases hx
  | some c => exact okEq_tx fun x hx => by rw [List.mem_singleton.mp hx]; exact hc c (List.mem_of_getElem? ht)
theorem sgnAt_some {t : List Nat} {p c : Nat} (h : t[p]? = some c) : sgnAt t p = .str (tx [c]) := by
  unfold sgnAt
  rw [h]
theorem nameEnd_succ (t : List Nat) (k x : Nat) : nameEnd t (k + 1) x = if isLet t x = true then nameEnd t k (x + 1) else x := rfl
theorem nameEnd_zero (t : List Nat) (x : Nat) : nameEnd t 0 x = x := rfl
theorem pName_eq (t : List Nat) (p : Nat) : pName t p = if nameEnd t 12 (sk t p) = sk t p ∨ isLet t (nameEnd t 12 (sk t p)) = true then (none, nameEnd t 12 (sk t p)) else (some (sk t p), nameEnd t 12 (sk t p)) := rfl
end DL
local macro_rules | `(tactic| walk_at "rd") => `(tactic| ((first | rw [DL.insD_set] | rw [DL.insD_ref (by assumption)]); walk_at "dl"; refine And.intro (by assumption) ?_; (first | rw [DL.fg_text] | rw [DL.fg_place] | rw [DL.fg_line] | rw [DL.fg_make]); walk_at "dl"))
local macro_rules | `(tactic| walk_at "rm") => `(tactic| ((first | rw [DL.insD_set] | rw [DL.insD_ref (by assumption)]); walk_at "dl"; refine And.intro rfl (And.intro (DL.fg_no (by decide +kernel) (by decide +kernel) (by decide +kernel) (by decide +kernel)) ?_); walk_at "dl"))
local macro_rules | `(tactic| walk_at "fa") => `(tactic| ((first | rw [DL.mset_same] | (rw [show _ = some _ from by assumption])); walk_at "dl"; refine And.intro (by assumption) (Exists.intro _ (And.intro DL.fg_place ?_)); walk_at "dl"; refine Exists.intro 1 (And.intro rfl (And.intro (by first | exact DL.mset_same | assumption) (And.intro (by decide) ?_))); walk_at "dl"; rw [DL.fp_N, DL.fp_D, DL.mset_mset]))
set_option Elab.async false
set_option linter.all false
set_option maxRecDepth 100000
set_option maxHeartbeats 1000000
/-! DL50: what is read goes on: bounds of the places. -/
namespace DL
open PySem PySem.Spec PyProof.Rows L2
/-- from p on a reading ends behind p, in the text -/
def Goes (t : List Nat) (f : Nat → Res) : Prop := ∀ p w q, p ≤ t.length → f p = .ok w q → p < q ∧ q ≤ t.length
theorem nameEnd_le (t : List Nat) : ∀ (k x : Nat), x ≤ t.length → x ≤ nameEnd t k x ∧ nameEnd t k x ≤ t.length
  | 0, x, h => ⟨Nat.le_refl _, h⟩
  | k + 1, x, h => by
    rw [nameEnd_succ]
    cases hb : isLet t x
    · rw [if_neg (by intro z; cases z)]
      exact ⟨Nat.le_refl _, h⟩
    · rw [if_pos rfl]
      have hlt : x < t.length := by
        unfold isLet at hb
        cases ht : t[x]? with
        | none => rw [ht] at hb; cases hb
        | some d => exact (List.getElem?_eq_some_iff.mp ht).1
      have := nameEnd_le t k (x + 1) hlt
      exact ⟨by omega, this.2⟩
theorem pStep_le {t : List Nat} {c p q : Nat} (h : pStep t c p = some q) : p < q ∧ q ≤ t.length := by
  unfold pStep at h
  split at h
  · rename_i g
    cases h
    have := (List.getElem?_eq_some_iff.mp g).1
    have := sk_ge t p
    exact ⟨by omega, by omega⟩
  · cases h
theorem pName_le {t : List Nat} {p b e : Nat} (hp : p ≤ t.length) (h : pName t p = (some b, e)) : b = sk t p ∧ p ≤ e ∧ e ≤ t.length := by
  rw [pName_eq] at h
  have := nameEnd_le t 12 (sk t p) (sk_le hp)
  have := sk_ge t p
  split at h
  · cases h
  · cases h
    exact ⟨rfl, by omega, by omega⟩
theorem goes_one {t : List Nat} {choice : Nat → Res} (hc : Goes t choice) : Goes t (pOne t choice) := fun p w q hp h => by
  have g := sk_ge t p
  unfold pOne at h
  dsimp only at h
  cases hs : t[sk t p]? with
  | none => rw [hs] at h; cases h
  | some c =>
    rw [hs] at h
    have hl := (List.getElem?_eq_some_iff.mp hs).1
    dsimp only at h
    split at h
    · cases h
    · split at h
      · cases h; exact ⟨by omega, by omega⟩
      · split at h
        · cases h; exact ⟨by omega, by omega⟩
        · split at h
          · cases hn : pName t (sk t p + 1) with
            | mk b e =>
              rw [hn] at h
              cases b with
              | none => cases h
              | some b =>
                obtain ⟨_, h1, h2⟩ := pName_le hl hn
                dsimp only at h
                cases hq : pStep t cGt e with
                | none => rw [hq] at h; cases h
                | some r =>
                  rw [hq] at h
                  cases h
                  have := pStep_le hq
                  exact ⟨by omega, this.2⟩
          · split at h
            · rename_i hcl
              cases h
              have := (List.getElem?_eq_some_iff.mp hcl).1
              have := sk_ge t (sk t p + 1)
              exact ⟨by omega, by omega⟩
            · cases hr : choice (sk t (sk t p + 1)) with
              | bad r => rw [hr] at h; cases h
              | ok w' r =>
                rw [hr] at h
                dsimp only at h
                have h3 : sk t (sk t p + 1) < r ∧ r ≤ t.length := hc (sk t (sk t p + 1)) w' r (sk_le hl) hr
                have := sk_ge t (sk t p + 1)
                cases hq : pStep t cClose r with
                | none => rw [hq] at h; cases h
                | some r' =>
                  rw [hq] at h
                  cases h
                  have := pStep_le hq
                  exact ⟨by omega, this.2⟩
theorem pReps_le (t : List Nat) : ∀ (k : Nat) (w : WT) (p : Nat), p ≤ t.length → p ≤ (pReps t k w p).2 ∧ (pReps t k w p).2 ≤ t.length
  | 0, w, p, h => ⟨Nat.le_refl _, h⟩
  | k + 1, w, p, h => by
    have g := sk_ge t p
    have g2 := sk_le h
    unfold pReps
    cases hs : t[sk t p]? with
    | none => exact ⟨g, g2⟩
    | some c =>
      have hl := (List.getElem?_eq_some_iff.mp hs).1
      dsimp only
      split
      · have := pReps_le t k (.un .again w) (sk t p + 1) hl
        exact ⟨by omega, this.2⟩
      · split
        · have := pReps_le t k (.un .maybe w) (sk t p + 1) hl
          exact ⟨by omega, this.2⟩
        · exact ⟨g, g2⟩
theorem goes_repeat {t : List Nat} {choice : Nat → Res} (hc : Goes t choice) : Goes t (pRepeat t choice) := fun p w q hp h => by
  unfold pRepeat at h
  cases ho : pOne t choice p with
  | bad r => rw [ho] at h; cases h
  | ok w' r =>
    rw [ho] at h
    have h1 := goes_one hc p w' r hp ho
    have h2 := pReps_le t (t.length + 1) w' r h1.2
    cases h
    exact ⟨by omega, h2.2⟩
theorem pRows_le {t : List Nat} {look : Nat → Res} (hl : Goes t look) : ∀ (k : Nat) (ws : List WT) (p : Nat) (w : WT) (q : Nat), p ≤ t.length → pRows t look k ws p = .ok w q → p ≤ q ∧ q ≤ t.length
  | 0, _, _, _, _, _, h => by cases h
  | k + 1, ws, p, w, q, hp, h => by
    have g := sk_ge t p
    have g2 := sk_le hp
    unfold pRows at h
    split at h
    · cases hr : look (sk t p) with
      | bad r => rw [hr] at h; cases h
      | ok w' r =>
        rw [hr] at h
        have h1 := hl _ _ _ g2 hr
        have h2 := pRows_le hl k _ r w q h1.2 h
        exact ⟨by omega, h2.2⟩
    · cases h
      exact ⟨g, g2⟩
theorem goes_row {t : List Nat} {look : Nat → Res} (hl : Goes t look) : Goes t (pRow t look) := fun p w q hp h => by
  unfold pRow at h
  cases hr : look p with
  | bad r => rw [hr] at h; cases h
  | ok w' r =>
    rw [hr] at h
    have h1 := hl _ _ _ hp hr
    have h2 := pRows_le hl _ _ r w q h1.2 h
    exact ⟨by omega, h2.2⟩
theorem pAlts_le {t : List Nat} {row : Nat → Res} (hl : Goes t row) : ∀ (k : Nat) (ws : List WT) (p : Nat) (w : WT) (q : Nat), p ≤ t.length → pAlts t row k ws p = .ok w q → p ≤ q ∧ q ≤ t.length
  | 0, _, _, _, _, _, h => by cases h
  | k + 1, ws, p, w, q, hp, h => by
    have g := sk_ge t p
    have g2 := sk_le hp
    unfold pAlts at h
    split at h
    · rename_i hs
      have hlt := (List.getElem?_eq_some_iff.mp hs).1
      cases hr : row (sk t p + 1) with
      | bad r => rw [hr] at h; cases h
      | ok w' r =>
        rw [hr] at h
        have h1 := hl _ _ _ hlt hr
        have h2 := pAlts_le hl k _ r w q h1.2 h
        exact ⟨by omega, h2.2⟩
    · cases h
      exact ⟨g, g2⟩
theorem goes_choice {t : List Nat} {look : Nat → Res} (hl : Goes t look) : Goes t (pChoice t look) := fun p w q hp h => by
  unfold pChoice at h
  cases hr : pRow t look p with
  | bad r => rw [hr] at h; cases h
  | ok w' r =>
    rw [hr] at h
    have h1 := goes_row hl _ _ _ hp hr
    have h2 := pAlts_le (goes_row hl) _ _ r w q h1.2 h
    exact ⟨by omega, h2.2⟩
theorem goes_look (t : List Nat) : ∀ n, Goes t (pLook t n)
  | 0 => fun p w q hp h => by cases h
  | n + 1 => fun p w q hp h => by
    have ih := goes_look t n
    have g := sk_ge t p
    have g2 := sk_le hp
    unfold pLook at h
    cases hs : t[sk t p]? with
    | none =>
      rw [hs] at h
      have := goes_repeat (goes_choice ih) _ _ _ g2 h
      exact ⟨by omega, this.2⟩
    | some c =>
      rw [hs] at h
      have hl := (List.getElem?_eq_some_iff.mp hs).1
      dsimp only at h
      split at h
      · cases hr : pLook t n (sk t p + 1) with
        | bad r => rw [hr] at h; cases h
        | ok w' r =>
          rw [hr] at h
          cases h
          have := ih _ _ _ hl hr
          exact ⟨by omega, this.2⟩
      · have := goes_repeat (goes_choice ih) _ _ _ g2 h
        exact ⟨by omega, this.2⟩
/-- how deep it can go from p on -/
def dc (t : List Nat) (p : Nat) : Nat := ((t.drop p).filter fun c => decide (c ∈ [cOpen, cAmp, cBang])).length
theorem dc_mono {t : List Nat} {p q : Nat} (h : p ≤ q) : dc t q ≤ dc t p := by
  unfold dc
  obtain ⟨k, rfl⟩ : ∃ k, q = p + k := ⟨q - p, by omega⟩
  rw [← List.drop_drop]
  exact ((List.drop_sublist k (t.drop p)).filter _).length_le
theorem dc_step {t : List Nat} {p c : Nat} (h : t[p]? = some c) (hc : c ∈ [cOpen, cAmp, cBang]) : dc t (p + 1) + 1 = dc t p := by
  unfold dc
  obtain ⟨hp, he⟩ := List.getElem?_eq_some_iff.mp h
  rw [List.drop_eq_getElem_cons hp, he, List.filter_cons, if_pos (by rw [decide_eq_true hc]), List.length_cons]
end DL
set_option Elab.async false
set_option linter.all false
set_option maxRecDepth 100000
set_option maxHeartbeats 1000000
/-! DL51: promises of the reading methods. -/
namespace DL
open PySem PySem.Spec PyProof.Rows L2
def spWayMake (W : WA) : DSp := fun ds M Q _ => ∃ v : WT, ds = [.str v.word, .str v.sign, .lst (v.inner.map (WT.o W))] ∧ v.inner.length < 1000000 ∧ Q (v.o W) M
/-- a reading: the way, the reader behind it; or the error at its place -/
def rdEnd (W : WA) (RC BT mk : Addr) (a : Addr) (t : List Nat) (n : Nat) (M : Mem) (Q : KR) (E : KX) : Res → Prop
  | .ok w q => Q (w.o W) (mset M a (rdMO RC mk t n q))
  | .bad q => E BT ["place", "line"] [.int (q : Nat), .int (n : Nat)] (mset M a (rdMO RC mk t n q))
def spRd (W : WA) (RC BT mk : Addr) (n : Nat) (g : List Nat → Nat → Res) : DSp := fun ds M Q E => ∃ (a : Addr) (t : List Nat) (ln p : Nat), ds = [.ref a] ∧ M a = some (rdMO RC mk t ln p) ∧ p ≤ t.length ∧ t.length < 100000 ∧ CpOk t ∧ dc t p < n ∧ rdEnd W RC BT mk a t ln M Q E (g t p)
def wrdsK : List (Str × D) := [("*", .str "again"), ("?", .str "maybe"), ("&", .str "ahead"), ("!", .str "unless")]
theorem word_star : wrdsK.lookup (tx [cStar]) = some (.str "again") := by
  rw [show tx [cStar] = (("*" : String) : Str) from by decide +kernel]
  unfold wrdsK
  rw [List.lookup_cons_self]
theorem word_quest : wrdsK.lookup (tx [cQuest]) = some (.str "maybe") := by
  rw [show tx [cQuest] = (("?" : String) : Str) from by decide +kernel]
  unfold wrdsK
  rw [lk_ne (by decide +kernel), List.lookup_cons_self]
theorem word_amp : wrdsK.lookup (tx [cAmp]) = some (.str "ahead") := by
  rw [show tx [cAmp] = (("&" : String) : Str) from by decide +kernel]
  unfold wrdsK
  rw [lk_ne (by decide +kernel), lk_ne (by decide +kernel), List.lookup_cons_self]
theorem word_bang : wrdsK.lookup (tx [cBang]) = some (.str "unless") := by
  rw [show tx [cBang] = (("!" : String) : Str) from by decide +kernel]
  unfold wrdsK
  rw [lk_ne (by decide +kernel), lk_ne (by decide +kernel), lk_ne (by decide +kernel), List.lookup_cons_self]
theorem amp_txt : (("&!" : String) : Str) = tx [cAmp, cBang] := by decide +kernel
theorem rep_txt : (("*?" : String) : Str) = tx [cStar, cQuest] := by decide +kernel
theorem dc_sk {t : List Nat} {p n : Nat} (h : dc t p < n) : dc t (sk t p) < n := Nat.lt_of_le_of_lt (dc_mono (sk_ge t p)) h
def pBr (t : List Nat) (choice : Nat → Res) (p : Nat) : Res :=
  if t[sk t p]? = some cClose then .ok .nothing (sk t p + 1)
  else match choice (sk t p) with
    | .bad q => .bad q
    | .ok w q => match pStep t cClose q with
      | none => .bad (sk t q)
      | some r => .ok w r
def spEndR (RC BT : Addr) : DSp := fun ds M Q E => ∃ (a mk : Addr) (t : List Nat) (n p : Nat), ds = [.ref a] ∧ M a = some (rdMO RC mk t n p) ∧ p ≤ t.length ∧ t.length < 100000 ∧ CpOk t ∧
  (if sk t p = t.length then Q .non (mset M a (rdMO RC mk t n (sk t p))) else E BT ["place", "line"] [.int ((sk t p : Nat)), .int (n : Nat)] (mset M a (rdMO RC mk t n (sk t p))))
def spRInit (RC : Addr) : DSp := fun ds M Q _ => ∃ (y mk : Addr) (t : List Nat) (n : Nat), ds = [.ref y, .str (tx t), .int (n : Nat), .ref mk] ∧ M y = some (.ins RC [] []) ∧ Q .non (mset M y (rdMO RC mk t n 0))
theorem ri1 {RC : Addr} {x : D} : MO.ins RC (fputN "text" []) (fputD "text" x [] []) = .ins RC ["text"] [x] := rfl
theorem ri2 {x y : D} : fputN "line" [("text" : Str)] = [("text" : Str), "line"] ∧ fputD "line" y [("text" : Str)] [x] = [x, y] := by
  constructor
  · unfold fputN
    rw [if_neg (rne (by decide +kernel))]
    rfl
  · unfold fputD
    rw [if_neg (rne (by decide +kernel))]
    rfl
theorem ri3 {x y z : D} : fputN "make" [("text" : Str), "line"] = [("text" : Str), "line", "make"] ∧ fputD "make" z [("text" : Str), "line"] [x, y] = [x, y, z] := by
  constructor
  · unfold fputN
    rw [if_neg (rne (by decide +kernel))]
    unfold fputN
    rw [if_neg (rne (by decide +kernel))]
    rfl
  · unfold fputD
    rw [if_neg (rne (by decide +kernel))]
    unfold fputD
    rw [if_neg (rne (by decide +kernel))]
    rfl
theorem ri4 {x y z u : D} : fputN "place" [("text" : Str), "line", "make"] = rdN ∧ fputD "place" u [("text" : Str), "line", "make"] [x, y, z] = [x, y, z, u] := by
  constructor
  · unfold fputN
    rw [if_neg (rne (by decide +kernel))]
    unfold fputN
    rw [if_neg (rne (by decide +kernel))]
    unfold fputN
    rw [if_neg (rne (by decide +kernel))]
    rfl
  · unfold fputD
    rw [if_neg (rne (by decide +kernel))]
    unfold fputD
    rw [if_neg (rne (by decide +kernel))]
    unfold fputD
    rw [if_neg (rne (by decide +kernel))]
    rfl
end DL
set_option Elab.async false
set_option linter.all false
set_option maxRecDepth 100000
set_option maxHeartbeats 1000000
/-! DL52: loose texts; the words of ways. -/
namespace DL
open PySem PySem.Spec PyProof.Rows L2
/-! ### loose texts -/
def At (t : List Nat) (p : Nat) (ws : List (List Nat)) : Prop := p ≤ t.length ∧ Lo ws (t.drop p)
theorem sk_sk {t : List Nat} {p : Nat} : sk t (sk t p) = sk t p := sk_stop (sk_not t _ p rfl)
/-! ### the words of a way -/
def isep (sep : List (List Nat)) : List (List (List Nat)) → List (List Nat)
  | [] => []
  | [t] => t
  | t :: u :: r => t ++ sep ++ isep sep (u :: r)
def itk (v : WT) (k : Nat) (ts : List (List Nat)) : List (List Nat) := match brkK v k with
  | true => [40] :: (ts ++ [[41]])
  | false => ts
mutual
/-- .. without those for spaces -/
def toks : WT → List (List Nat)
  | .nothing => [[40], [41]]
  | .one => [[46]]
  | .letter s => [s.cps.toList]
  | .call s => [[60], s.cps.toList, [62]]
  | .un .again w => itk w 4 (toks w) ++ [[42]]
  | .un .maybe w => itk w 5 (toks w) ++ [[63]]
  | .un .ahead w => [38] :: itk w 6 (toks w)
  | .un .unless w => [33] :: itk w 7 (toks w)
  | .many false ws => isep [] (tokss 8 ws)
  | .many true ws => isep [[47]] (tokss 9 ws)
def tokss (k : Nat) : List WT → List (List (List Nat))
  | [] => []
  | w :: ws => itk w k (toks w) :: tokss k ws
end
mutual
/-- ways that can be written and read -/
def WT.rdb : WT → Prop
  | .letter s => ∃ c, s = tx [c] ∧ c ∈ lettersN
  | .call s => ∃ l, s = tx l ∧ 1 ≤ l.length ∧ l.length ≤ 12 ∧ ∀ c ∈ l, c ∈ lettersN
  | .un _ w => w.rdb
  | .many _ ws => 2 ≤ ws.length ∧ WT.rdbs ws
  | _ => True
def WT.rdbs : List WT → Prop
  | [] => True
  | w :: ws => w.rdb ∧ WT.rdbs ws
end
theorem WT.rdbs_mem : ∀ {ws : List WT} {w : WT}, WT.rdbs ws → w ∈ ws → w.rdb
  | [], _, _, h => by cases h
  | u :: ws, w, h, hm => by
    rcases List.mem_cons.mp hm with rfl | hm
    · exact h.1
    · exact WT.rdbs_mem h.2 hm
theorem let_ne {c : Nat} (h : c ∈ lettersN) : 97 ≤ c ∧ c ≤ 122 := by
  have : ∀ x ∈ lettersN, 97 ≤ x ∧ x ≤ 122 := by decide
  exact this c h
/-- the first sign of a way's words -/
structure Fst (v : WT) : Prop where
  ex : ∃ c w r, toks v = (c :: w) :: r ∧ begC c = true ∧ (v.tag ≠ 6 → v.tag ≠ 7 → v.tag ≠ 8 → v.tag ≠ 9 → c ≠ 38 ∧ c ≠ 33)
  wd : Wd (toks v)
theorem WT.size_mem : ∀ {ws : List WT} {w : WT}, w ∈ ws → w.size ≤ WT.sizes ws
  | [], _, h => by cases h
  | u :: ws, w, h => by
    rw [WT.sizes]
    rcases List.mem_cons.mp h with rfl | h
    · omega
    · have := WT.size_mem h
      omega
end DL
set_option Elab.async false
set_option linter.all false
set_option maxRecDepth 100000
set_option maxHeartbeats 1000000
/-! DL53: what is written is read: plain. -/
namespace DL
open PySem PySem.Spec PyProof.Rows L2
/-! ### what is written is read -/
def okR (o : Option Nat) : Prop := o ≠ some 42 ∧ o ≠ some 63
def okB (o : Option Nat) : Prop := ∀ c, o = some c → begC c = false
def okS (o : Option Nat) : Prop := o ≠ some 47
structure PP (t : List Nat) (v : WT) : Prop where
  ch : ∀ n p rest, Wd rest → At t p (toks v ++ rest) → dc t p < n → okR (hd rest) → okB (hd rest) → okS (hd rest) → ∃ q, pChoice t (pLook t n) p = .ok v q ∧ At t q rest
  row : v.tag ≠ 9 → ∀ n p rest, Wd rest → At t p (toks v ++ rest) → dc t p < n → okR (hd rest) → okB (hd rest) → ∃ q, pRow t (pLook t n) p = .ok v q ∧ At t q rest
  look : v.tag ≠ 9 → v.tag ≠ 8 → ∀ n p rest, Wd rest → At t p (toks v ++ rest) → dc t p < n → okR (hd rest) → ∃ q, pLook t n p = .ok v q ∧ At t q rest
  rep : v.tag ≠ 9 → v.tag ≠ 8 → v.tag ≠ 7 → v.tag ≠ 6 → ∀ m p rest, Wd rest → At t p (toks v ++ rest) → dc t p < m + 1 →
    ∃ w0 q0 j q, pOne t (pChoice t (pLook t m)) p = .ok w0 q0 ∧ (∀ f, pReps t (f + j) w0 q0 = pReps t f v q) ∧ j ≤ q ∧ At t q rest
theorem dc_deep (t : List Nat) : dc t 0 = deepC t := rfl
/-! ### the words with those for spaces -/
mutual
/-- as the law writes them: [95] is a space that is due -/
def wrds : WT → List (List Nat)
  | .nothing => [[40], [41]]
  | .one => [[46]]
  | .letter s => [s.cps.toList]
  | .call s => [[60], s.cps.toList, [62]]
  | .un .again w => itk w 4 (wrds w) ++ [[42]]
  | .un .maybe w => itk w 5 (wrds w) ++ [[63]]
  | .un .ahead w => [38] :: itk w 6 (wrds w)
  | .un .unless w => [33] :: itk w 7 (wrds w)
  | .many false ws => isep [[95]] (wrdss 8 ws)
  | .many true ws => isep [[95], [47], [95]] (wrdss 9 ws)
def wrdss (k : Nat) : List WT → List (List (List Nat))
  | [] => []
  | w :: ws => itk w k (wrds w) :: wrdss k ws
end
theorem wrdss_map (k : Nat) (ws : List WT) : wrdss k ws = ws.map fun w => itk w k (wrds w) := by
  induction ws with
  | nil => rfl
  | cons w ws ih => rw [wrdss, ih, List.map_cons]
/-- a word as it is written -/
def wsg (w : List Nat) : List Nat := if w = [95] then [32] else w
/-- .. told apart from a space that is due -/
def nsp (w : List Nat) : Bool := !decide (w = [95])
theorem let_nsp {l : List Nat} (h : ∀ c ∈ l, c ∈ lettersN) (h1 : 1 ≤ l.length) : nsp l = true := by
  unfold nsp
  rw [decide_eq_false]
  · rfl
  · intro z
    have := let_ne (h 95 (by rw [z]; exact List.mem_cons_self))
    omega
/-! ### the text of a way is what the law writes -/
theorem flat_isep (sep : List (List Nat)) : ∀ ts : List (List (List Nat)), (isep sep ts).flatMap wsg = sepJ (sep.flatMap wsg) (ts.map fun t => t.flatMap wsg)
  | [] => rfl
  | [t] => rfl
  | t :: u :: r => by
    rw [isep, List.flatMap_append, List.flatMap_append, flat_isep sep (u :: r)]
    rfl
theorem flat_itk (v : WT) (k : Nat) (ts : List (List Nat)) : (itk v k ts).flatMap wsg = ibr v k (ts.flatMap wsg) := by
  unfold itk ibr
  cases brkK v k
  · rfl
  · rw [List.flatMap_cons, List.flatMap_append]
    rfl
theorem wsg_let {l : List Nat} (h : ∀ c ∈ l, c ∈ lettersN) (h1 : 1 ≤ l.length) : wsg l = l := by
  have := let_nsp h h1
  unfold nsp at this
  unfold wsg
  rw [if_neg]
  intro z
  rw [decide_eq_true z] at this
  cases this
theorem wrds_text : ∀ (k : Nat) (v : WT), v.size ≤ k → v.rdb → (wrds v).flatMap wsg = wtx v
  | 0, v, h, _ => by cases v <;> simp [WT.size] at h
  | k + 1, v, h, hv => by
    cases v with
    | nothing => rfl
    | one => rfl
    | letter s =>
      obtain ⟨c, rfl, hc⟩ := hv
      rw [wrds, wtx, List.flatMap_cons, wsg_let (l := (tx [c]).cps.toList) (fun x hx => by rw [tx_cps] at hx; rw [List.mem_singleton.mp hx]; exact hc) (Nat.le_refl _)]
      simp
    | call s =>
      obtain ⟨l, rfl, h1, h2, h3⟩ := hv
      rw [wrds, wtx, List.flatMap_cons, List.flatMap_cons, tx_cps, wsg_let h3 h1]
      rfl
    | un u w =>
      have ih := wrds_text k w (by simp only [WT.size] at h; omega) hv
      cases u with
      | again => rw [wrds, wtx, List.flatMap_append, flat_itk, ih]; rfl
      | maybe => rw [wrds, wtx, List.flatMap_append, flat_itk, ih]; rfl
      | ahead => rw [wrds, wtx, List.flatMap_cons, flat_itk, ih]; rfl
      | «unless» => rw [wrds, wtx, List.flatMap_cons, flat_itk, ih]; rfl
    | many c ws =>
      obtain ⟨h2, hr⟩ := hv
      have ih : ∀ kk, (wrdss kk ws).map (fun t => t.flatMap wsg) = wtxs kk ws := fun kk => by
        rw [wrdss_map, wtxs_map, List.map_map]
        refine List.map_congr_left fun w hw => ?_
        show (itk w kk (wrds w)).flatMap wsg = _
        rw [flat_itk, wrds_text k w (by have := WT.size_mem hw; simp only [WT.size] at h; omega) (WT.rdbs_mem hr hw)]
      cases c
      · rw [wrds, wtx, flat_isep, ih]; rfl
      · rw [wrds, wtx, flat_isep, ih]; rfl
/-! ### fuel enough is enough -/
theorem pRows_congr {t : List Nat} {f g : Nat → Res} {p0 : Nat} (h : ∀ x, p0 ≤ x → x ≤ t.length → f x = g x) (hf : Goes t f) : ∀ (k : Nat) (ws : List WT) (p : Nat), p0 ≤ p → p ≤ t.length → pRows t f k ws p = pRows t g k ws p
  | 0, _, _, _, _ => rfl
  | k + 1, ws, p, h1, h2 => by
    have a := sk_ge t p
    have b := sk_le h2
    unfold pRows
    rw [h (sk t p) (by omega) b]
    split
    · cases e : g (sk t p) with
      | bad q => rfl
      | ok w q =>
        have := hf (sk t p) w q b (by rw [h _ (by omega) b]; exact e)
        exact pRows_congr h hf k _ q (by omega) this.2
    · rfl
theorem pRow_congr {t : List Nat} {f g : Nat → Res} {p0 : Nat} (h : ∀ x, p0 ≤ x → x ≤ t.length → f x = g x) (hf : Goes t f) {p : Nat} (h1 : p0 ≤ p) (h2 : p ≤ t.length) : pRow t f p = pRow t g p := by
  unfold pRow
  rw [h p h1 h2]
  cases e : g p with
  | bad q => rfl
  | ok w q =>
    have := hf p w q h2 (by rw [h _ h1 h2]; exact e)
    exact pRows_congr h hf _ _ q (by omega) this.2
theorem pAlts_congr {t : List Nat} {f g : Nat → Res} {p0 : Nat} (h : ∀ x, p0 ≤ x → x ≤ t.length → f x = g x) (hf : Goes t f) : ∀ (k : Nat) (ws : List WT) (p : Nat), p0 ≤ p → p ≤ t.length → pAlts t f k ws p = pAlts t g k ws p
  | 0, _, _, _, _ => rfl
  | k + 1, ws, p, h1, h2 => by
    have a := sk_ge t p
    unfold pAlts
    split
    · rename_i hs
      have b := (List.getElem?_eq_some_iff.mp hs).1
      rw [h (sk t p + 1) (by omega) b]
      cases e : g (sk t p + 1) with
      | bad q => rfl
      | ok w q =>
        have := hf (sk t p + 1) w q b (by rw [h _ (by omega) b]; exact e)
        exact pAlts_congr h hf k _ q (by omega) this.2
    · rfl
theorem pChoice_congr {t : List Nat} {f g : Nat → Res} {p0 : Nat} (h : ∀ x, p0 ≤ x → x ≤ t.length → f x = g x) (hf : Goes t f) {p : Nat} (h1 : p0 ≤ p) (h2 : p ≤ t.length) : pChoice t f p = pChoice t g p := by
  have hr : ∀ x, p0 ≤ x → x ≤ t.length → pRow t f x = pRow t g x := fun x a b => pRow_congr h hf a b
  unfold pChoice
  rw [hr p h1 h2]
  cases e : pRow t g p with
  | bad q => rfl
  | ok w q =>
    have := goes_row hf p w q h2 (by rw [hr _ h1 h2]; exact e)
    exact pAlts_congr hr (goes_row hf) _ _ q (by omega) this.2
theorem pOne_congr {t : List Nat} {f g : Nat → Res} {p : Nat} (hp : p ≤ t.length) (h : t[sk t p]? = some cOpen → ∀ x, sk t p + 1 ≤ x → x ≤ t.length → f x = g x) : pOne t f p = pOne t g p := by
  unfold pOne
  dsimp only
  cases e : t[sk t p]? with
  | none => rfl
  | some c =>
    dsimp only
    split
    · rfl
    · rename_i n1
      split
      · rfl
      · rename_i n2
        split
        · rfl
        · rename_i n3
          split
          · rfl
          · rename_i n4
            have hc : c = cOpen := by
              cases hb : begC c with
              | false => rw [hb] at n1; simp at n1
              | true =>
                rw [hb] at n1
                unfold begC at hb
                simp at n1
                simp [n2, n3, n4, n1.1, n1.2] at hb
                exact hb
            have hl := (List.getElem?_eq_some_iff.mp e).1
            have := sk_ge t (sk t p + 1)
            rw [h (by rw [e, hc]) (sk t (sk t p + 1)) this (sk_le hl)]
theorem pLook_fuel (t : List Nat) : ∀ (n m p : Nat), p ≤ t.length → dc t p < n → dc t p < m → pLook t n p = pLook t m p
  | 0, _, _, _, h, _ => absurd h (Nat.not_lt_zero _)
  | _ + 1, 0, _, _, _, h => absurd h (Nat.not_lt_zero _)
  | n + 1, m + 1, p, hp, h1, h2 => by
    have a := sk_ge t p
    have am := dc_mono (t := t) a
    have one : t[sk t p]? ≠ some cAmp → t[sk t p]? ≠ some cBang → pRepeat t (pChoice t (pLook t n)) (sk t p) = pRepeat t (pChoice t (pLook t m)) (sk t p) := fun _ _ => by
      unfold pRepeat
      rw [pOne_congr (g := pChoice t (pLook t m)) (sk_le hp) fun hs x hx hl => ?_]
      rw [sk_sk] at hs hx
      have hd := dc_step hs (by decide)
      refine pChoice_congr (p0 := sk t p + 1) (fun y hy hyl => pLook_fuel t n m y hyl ?_ ?_) (goes_look t n) hx hl
      · have := dc_mono (t := t) hy
        omega
      · have := dc_mono (t := t) hy
        omega
    unfold pLook
    cases e : t[sk t p]? with
    | none => exact one (by rw [e]; simp) (by rw [e]; simp)
    | some c =>
      dsimp only
      split
      · rename_i hc
        have hd := dc_step e (by rcases hc with rfl | rfl <;> decide)
        have hl := (List.getElem?_eq_some_iff.mp e).1
        rw [pLook_fuel t n m (sk t p + 1) hl (by omega) (by omega)]
      · rename_i hc
        exact one (by rw [e]; intro z; cases z; exact hc (.inl rfl)) (by rw [e]; intro z; cases z; exact hc (.inr rfl))
theorem pWay_fuel {t : List Nat} {n : Nat} (h : deepC t < n) : pChoice t (pLook t (deepC t + 1)) 0 = pChoice t (pLook t n) 0 :=
  pChoice_congr (p0 := 0) (fun x _ hx => by
    have := dc_mono (t := t) (Nat.zero_le x)
    rw [dc_deep] at this
    exact pLook_fuel t _ _ x hx (by omega) (by omega)) (goes_look t _) (Nat.le_refl _) (Nat.zero_le _)
theorem isep_len_le (sep : List (List Nat)) : ∀ ts : List (List (List Nat)), (isep sep ts).length ≤ (ts.map fun t => t.length + sep.length).sum
  | [] => Nat.zero_le _
  | [t] => by simp [isep]
  | t :: u :: r => by
    have := isep_len_le sep (u :: r)
    rw [isep, List.length_append, List.length_append, List.map_cons, List.sum_cons]
    omega
theorem itk_len (v : WT) (k : Nat) (ts : List (List Nat)) : (itk v k ts).length ≤ ts.length + 2 := by
  unfold itk
  split
  · rw [List.length_cons, List.length_append, List.length_singleton]; omega
  · omega
theorem sizes_eq_sum : ∀ ws : List WT, WT.sizes ws = (ws.map WT.size).sum
  | [] => rfl
  | w :: ws => by rw [WT.sizes, sizes_eq_sum ws, List.map_cons, List.sum_cons]
theorem sum_le_sum {α : Type} {f g : α → Nat} : ∀ (l : List α), (∀ a ∈ l, f a ≤ g a) → (l.map f).sum ≤ (l.map g).sum
  | [], _ => Nat.le_refl _
  | a :: l, h => by
    have := h a List.mem_cons_self
    have := sum_le_sum l fun b hb => h b (List.mem_cons_of_mem _ hb)
    rw [List.map_cons, List.map_cons, List.sum_cons, List.sum_cons]
    omega
theorem sum_mul8 : ∀ l : List Nat, (l.map fun s => 8 * s).sum = 8 * l.sum
  | [] => rfl
  | a :: l => by rw [List.map_cons, List.sum_cons, List.sum_cons, sum_mul8 l]; omega
theorem wrds_len : ∀ (k : Nat) (v : WT), v.size ≤ k → v.rdb → (wrds v).length + 5 ≤ 8 * v.size
  | 0, v, h, _ => by cases v <;> simp [WT.size] at h
  | k + 1, v, h, hv => by
    cases v with
    | nothing => decide
    | one => decide
    | letter s => show 1 + 5 ≤ 8 * 1; decide
    | call s => show 3 + 5 ≤ 8 * 1; decide
    | un u w =>
      have ih := wrds_len k w (by simp only [WT.size] at h; omega) hv
      have e : (WT.un u w).size = w.size + 1 := rfl
      rw [e]
      cases u with
      | again => have := itk_len w 4 (wrds w); rw [wrds, List.length_append, List.length_singleton]; omega
      | maybe => have := itk_len w 5 (wrds w); rw [wrds, List.length_append, List.length_singleton]; omega
      | ahead => have := itk_len w 6 (wrds w); rw [wrds, List.length_cons]; omega
      | «unless» => have := itk_len w 7 (wrds w); rw [wrds, List.length_cons]; omega
    | many c ws =>
      obtain ⟨h2, hr⟩ := hv
      have e : (WT.many c ws).size = WT.sizes ws + 1 := rfl
      have ih : ∀ (kk : Nat) (sep : List (List Nat)), sep.length ≤ 3 → (isep sep (wrdss kk ws)).length ≤ 8 * WT.sizes ws := fun kk sep hs => by
        refine Nat.le_trans (isep_len_le sep _) ?_
        rw [wrdss_map, List.map_map, sizes_eq_sum, ← sum_mul8, List.map_map]
        refine sum_le_sum ws fun w hw => ?_
        show (itk w kk (wrds w)).length + sep.length ≤ 8 * w.size
        have := itk_len w kk (wrds w)
        have := wrds_len k w (by have := WT.size_mem hw; simp only [WT.size] at h; omega) (WT.rdbs_mem hr hw)
        omega
      rw [e]
      cases c with
      | false => have := ih 8 [[95]] (by decide); rw [wrds]; omega
      | true => have := ih 9 [[95], [47], [95]] (by decide); rw [wrds]; omega
/-- short words of plain signs -/
def Wsm (w : List Nat) : Prop := w.length ≤ 12 ∧ ∀ c ∈ w, c < 123
theorem itk_wok {v : WT} {k : Nat} {ts : List (List Nat)} (h : ∀ w ∈ ts, Wsm w) : ∀ w ∈ itk v k ts, Wsm w := fun w hw => by
  unfold itk at hw
  split at hw
  · rcases List.mem_cons.mp hw with rfl | hw
    · exact ⟨by decide, by decide⟩
    · rcases List.mem_append.mp hw with hw | hw
      · exact h w hw
      · rw [List.mem_singleton.mp hw]; exact ⟨by decide, by decide⟩
  · exact h w hw
theorem isep_mem {sep : List (List Nat)} {w : List Nat} : ∀ {ts : List (List (List Nat))}, w ∈ isep sep ts → w ∈ sep ∨ ∃ t ∈ ts, w ∈ t
  | [], h => by cases h
  | [t], h => .inr ⟨t, List.mem_cons_self, h⟩
  | t :: u :: r, h => by
    rw [isep] at h
    rcases List.mem_append.mp h with h | h
    · rcases List.mem_append.mp h with h | h
      · exact .inr ⟨t, List.mem_cons_self, h⟩
      · exact .inl h
    · rcases isep_mem h with h | ⟨x, hx, h⟩
      · exact .inl h
      · exact .inr ⟨x, List.mem_cons_of_mem _ hx, h⟩
theorem wrds_ok : ∀ (k : Nat) (v : WT), v.size ≤ k → v.rdb → ∀ w ∈ wrds v, Wsm w
  | 0, v, h, _ => by cases v <;> simp [WT.size] at h
  | k + 1, v, h, hv => by
    cases v with
    | nothing => intro w hw; rw [wrds] at hw; simp at hw; rcases hw with rfl | rfl <;> exact ⟨by decide, by decide⟩
    | one => intro w hw; rw [wrds] at hw; simp at hw; subst hw; exact ⟨by decide, by decide⟩
    | letter s =>
      obtain ⟨c, rfl, hc⟩ := hv
      intro w hw
      rw [wrds, tx_cps] at hw
      rw [List.mem_singleton.mp hw]
      have := let_ne hc
      exact ⟨by simp, fun x hx => by rw [List.mem_singleton.mp hx]; omega⟩
    | call s =>
      obtain ⟨l, rfl, h1, h2, h3⟩ := hv
      intro w hw
      rw [wrds, tx_cps] at hw
      simp at hw
      rcases hw with rfl | rfl | rfl
      · exact ⟨by decide, by decide⟩
      · exact ⟨h2, fun x hx => by have := let_ne (h3 x hx); omega⟩
      · exact ⟨by decide, by decide⟩
    | un u w =>
      have ih := wrds_ok k w (by simp only [WT.size] at h; omega) hv
      have one : ∀ (kk c : Nat), c < 123 → ∀ x ∈ itk w kk (wrds w) ++ [[c]], Wsm x := fun kk c hc x hx => by
        rcases List.mem_append.mp hx with hx | hx
        · exact itk_wok ih x hx
        · rw [List.mem_singleton.mp hx]; exact ⟨by simp, fun y hy => by rw [List.mem_singleton.mp hy]; exact hc⟩
      have two : ∀ (kk c : Nat), c < 123 → ∀ x ∈ [c] :: itk w kk (wrds w), Wsm x := fun kk c hc x hx => by
        rcases List.mem_cons.mp hx with rfl | hx
        · exact ⟨by simp, fun y hy => by rw [List.mem_singleton.mp hy]; exact hc⟩
        · exact itk_wok ih x hx
      cases u with
      | again => rw [wrds]; exact one 4 42 (by decide)
      | maybe => rw [wrds]; exact one 5 63 (by decide)
      | ahead => rw [wrds]; exact two 6 38 (by decide)
      | «unless» => rw [wrds]; exact two 7 33 (by decide)
    | many c ws =>
      obtain ⟨h2, hr⟩ := hv
      have ih : ∀ (kk : Nat) (sep : List (List Nat)), (∀ x ∈ sep, Wsm x) → ∀ x ∈ isep sep (wrdss kk ws), Wsm x := fun kk sep hs x hx => by
        rcases isep_mem hx with hx | ⟨t, ht, hx⟩
        · exact hs x hx
        · rw [wrdss_map] at ht
          obtain ⟨u, hu, rfl⟩ := List.mem_map.mp ht
          exact itk_wok (wrds_ok k u (by have := WT.size_mem hu; simp only [WT.size] at h; omega) (WT.rdbs_mem hr hu)) x hx
      cases c with
      | false => rw [wrds]; exact ih 8 [[95]] (fun x hx => by rw [List.mem_singleton.mp hx]; exact ⟨by decide, by decide⟩)
      | true => rw [wrds]; exact ih 9 _ (fun x hx => by simp at hx; rcases hx with rfl | rfl | rfl <;> exact ⟨by decide, by decide⟩)
theorem flat_len : ∀ {ws : List (List Nat)}, (∀ w ∈ ws, Wsm w) → (ws.flatMap wsg).length ≤ 12 * ws.length ∧ ∀ c ∈ ws.flatMap wsg, c < 123
  | [], _ => ⟨Nat.zero_le _, fun c hc => by cases hc⟩
  | w :: ws, h => by
    obtain ⟨h1, h2⟩ := flat_len (ws := ws) fun x hx => h x (List.mem_cons_of_mem _ hx)
    obtain ⟨g1, g2⟩ := h w List.mem_cons_self
    rw [List.flatMap_cons, List.length_append, List.length_cons]
    unfold wsg at *
    constructor
    · split
      · rw [List.length_singleton]; omega
      · omega
    · intro c hc
      rcases List.mem_append.mp hc with hc | hc
      · split at hc
        · rw [List.mem_singleton.mp hc]; decide
        · exact g2 c hc
      · exact h2 c hc
end DL
set_option Elab.async false
set_option linter.all false
set_option maxRecDepth 100000
set_option maxHeartbeats 1000000
/-! DL54: classmethods that may raise, as promises; ways read from a text. -/
namespace DL
open PySem PySem.Spec PyProof.Rows L2 ClX
/-- garbage of the calls is forgotten -/
theorem FnX.forget {P : Program} {w : World} {K : PySem.W.Frag} {mg : Str → Option Value} {base : Heap} {k : Nat} {x : Str} {ps : List Str} {sp : DSp} (h : FnX P w K mg base k x ps sp) :
    FnX P w K mg base k x ps (fun ds M Q E => sp ds M (fun d M' => ∃ M0 : Mem, (∀ a o, M0 a = some o → M' a = some o) ∧ Q d M0) (fun C ns es M' => ∃ M0 : Mem, (∀ a o, M0 a = some o → M' a = some o) ∧ E C ns es M0)) := by
  obtain ⟨f, fd, G, r⟩ := h.ex
  refine ⟨⟨f, fd, G.imp fun vs H Q E ⟨F, S, ds, M, Qd, Ed, c, rr, q, p, px⟩ => ⟨F, S, ds, M, _, _, c, rr, q, fun v H' S' M' d s' c' r' ⟨M0, hm, q'⟩ => p v H' S' M0 d s' (c'.less hm) r' q', fun C d H' S' M' ns es s' c' xr ⟨M0, hm, q'⟩ => px C d H' S' M0 ns es s' (c'.less hm) xr q'⟩, r⟩⟩
/-- .. as the top leaves it -/
structure CMAt (K : PySem.W.Frag) (C : Addr) (m qual : Str) (ps : List Str) (st : Stmt) : Prop where
  ex : ∃ mc p g fd, CRead K C mc ∧ CMet K C mc m p g ∧ FunD K m qual (defArgs st) (defBody st) (defScope st) [] [] g fd ∧ Binds K fd ps []
section
variable {P : Program} {w : World} {K : PySem.W.Frag} {mg : Str → Option Value} {base : Heap}
theorem okCMX {k : Nat} {C : Addr} {m qual : Str} {N ps : List Str} {st : Stmt} {sp : DSp} (G : CMAt K C m qual ps st) (S : FnScope N ps (defScope st)) (len : ∀ ds M Q E, sp ds M Q E → ds.length = ps.length)
    (hbody : ∀ [Gh] (f : Addr) (cdv : Value) (A : Around) (outer : List Env) (s : Shared) (H : Hp) (E : XK) (Ed : KX), Room k (A.deeper (envOfC qual (defScope st) s.heap.objs.size f cdv)) → TakesD (cxOf (L2.CX P w) P w K mg base N qual (defScope st) f cdv A outer s H E) (kwOf Ed) →
      ∃ t, DSs (cxOf (L2.CX P w) P w K mg base N qual (defScope st) f cdv A outer s H E) (defBody st) t ∧ ∀ ds M Q, sp ds M Q Ed → t { nx := fun _ M' => Q .non M', rt := Q } (startD N ds) M) : CMX P w K mg base (k + 1) C m ps sp := by
  obtain ⟨mc, p, g, fd, h1, h2, F, hb⟩ := G.ex
  exact ⟨⟨mc, p, g, fd, h1, h2, okDX F S len (fun {_} cdv A outer s H E Ed hr tk => hbody g cdv A outer s H E Ed hr tk), hb⟩⟩
end
section
variable [Gh] {X : Cx} {k : Nat} {C : Addr} {ps : List Str} {sp : DSp} {o e : Expr} {es : List Expr} {m : Str} {pos apos : Pos} {ta : DT} {t : DTA} {Wd : KW}
theorem d_cmx {pl : Sem Bool} (tk : TakesD X Wd) (h : CMX X.prog X.w X.K X.mg X.base k C m ps sp) (hr : Room k X.A) (he : DE X o ta) (ha : DA X (e :: es) t)
    (hst : starEach (e :: es) X.env = (false, eval e X.env) :: starEach es X.env := by rfl) (hpl : (backTo pos (starEach es X.env)).any (·.1) = false := by rfl)
    (ht : eval (.Call (.Attribute o m apos) (e :: es) [] pos) X.env = (do
      let ov ← eval o X.env
      standAt apos.atName
      let (f, first) ← holding [ov] (getMethod ov m pl)
      callWith pos f first (backTo pos (starEach (e :: es) X.env)) (backToKw pos (keywordEach [] X.env))) := by rfl) :
    DE X (.Call (.Attribute o m apos) (e :: es) [] pos) (dCMeth C Wd sp ta t) := by
  obtain ⟨mc, p, g, fd, h1, h2, G, hb⟩ := h.ex
  exact d_cmeth (pl := pl) tk he h1 h2 G hb hr ha hst hpl ht
end
/-! C(..) that stays mutable, its __init__ a method RM -/
section
variable [Gh] {X : Cx} {k : Nat} {f C : Addr} {ps : List Str} {sp : DSp} {x : Str} {p pos : Pos} {e : Expr} {es : List Expr} {t : DTA}
theorem d_makeRM (h : RM X.prog X.w X.K X.mg X.base k C "__init__" ps sp) (mk : ∀ f, Meth X.K C "__init__" f → Mk X.K C f) (hr : Room (k + 1) X.A) (hm : X.mg x = some (.ref C)) (ha : DA X (e :: es) t) (hg : Gl X x := by rfl)
    (hdb : (x == ("__debug__" : Str)) = false := by decide) (he : starEach (e :: es) X.env = (false, eval e X.env) :: starEach es X.env := by rfl) (hpl : (backTo pos (starEach es X.env)).any (·.1) = false := by rfl) :
    DE X (.Call (.Name x p) (e :: es) [] pos) (dMakeM C sp t) := by
  obtain ⟨f, fd, G, hb, c, hm2⟩ := h.ex
  exact d_makeM (mk f hm2) G hr hb hm ha hg hdb he hpl
end
/-- a way of a text -/
def wayEnd (W : WA) (BT : Addr) (M : Mem) (Q : KR) (E : KX) : Res → Prop
  | .ok w _ => Q (w.o W) M
  | .bad q => E BT ["place", "line"] [.int (q : Nat), .int ((1 : Nat) : Int)] M
def spReadWay (W : WA) (BT mk : Addr) (n : Nat) : DSp := fun ds M Q E => ∃ t : List Nat, ds = [.str (tx t), .ref mk] ∧ t.length < 100000 ∧ CpOk t ∧ deepC t < n ∧ wayEnd W BT M Q E (pWay t)
def spWayRead (W : WA) (C BT : Addr) (n : Nat) : DSp := fun ds M Q E => ∃ t : List Nat, ds = [.ref C, .str (tx t)] ∧ t.length < 100000 ∧ CpOk t ∧ deepC t < n ∧ wayEnd W BT M Q E (pWay t)
end DL
namespace DL
open PySem PySem.Spec PyProof.Rows L2 ClX
def spReadWayG (W : WA) (BT mk : Addr) (n : Nat) : DSp := fun ds M Q E => ∃ t : List Nat, ds = [.str (tx t), .ref mk] ∧ t.length < 100000 ∧ CpOk t ∧ deepC t < n ∧ ∀ M' : Mem, (∀ a o, M a = some o → M' a = some o) → wayEnd W BT M' Q E (pWay t)
theorem readWay_of {P : Program} {w : World} {K : PySem.W.Frag} {mg : Str → Option Value} {base : Heap} {k n : Nat} {W : WA} {BT mk : Addr} {x : Str} {ps : List Str} (h : FnX P w K mg base k x ps (spReadWayG W BT mk n)) : FnX P w K mg base k x ps (spReadWay W BT mk n) :=
  h.forget.imp fun ds M Q E ⟨t, h1, h2, h3, h4, h5⟩ => ⟨t, h1, h2, h3, h4, fun M' hm => by
    cases hr : pWay t with
    | ok w q => rw [hr] at h5; exact ⟨M, hm, h5⟩
    | bad q => rw [hr] at h5; exact ⟨M, hm, h5⟩⟩
end DL
set_option Elab.async false
set_option linter.all false
set_option maxRecDepth 100000
set_option maxHeartbeats 1000000
/-! DL55: promises of the laws about texts of ways. -/
namespace DL
open PySem PySem.Spec PyProof.Rows L2
theorem sgn_rdb {l : List Nat} {s : Str} (hl : ∀ c ∈ l, c ∈ lettersN) (h : Sgn l s) : ∃ c, s = tx [c] ∧ c ∈ lettersN := by
  obtain ⟨c, hc, rfl⟩ := h
  exact ⟨c, rfl, hl c hc⟩
theorem tx_sl : (("/" : String) : Str) = tx [47] := by decide +kernel
end DL
set_option Elab.async false
set_option linter.all false
set_option maxRecDepth 100000
set_option maxHeartbeats 1000000
/-! DL56: a Hook that looks at a written list of addresses, proved part by part (less memory); classmethods' defs. -/
namespace DL
open PySem PySem.Spec PyProof.Rows L2 He
section
variable {fa fa2 : List Fa} {fn sn : List DefD} {ex : PySem.W.Frag → Bool} {cs : List He5.DefA} {ts : List Tab} {w : World} {K : PySem.W.Frag}
theorem SaysP.cm (c : SaysP fa fa2 fn sn ex cs ts w K) (i : Nat) {d : He5.DefA} (h : cs[i]? = some d := by rfl) : He5.fnA K (d.at_ K) = d.val := by
  have e2 : (cs.map fun d => He5.fnA K (d.at_ K))[i]? = (cs.map He5.DefA.val)[i]? := by rw [c.cv]
  rw [List.getElem?_map, List.getElem?_map, h] at e2
  exact Option.some.inj e2
end
theorem cread_of {K : PySem.W.Frag} {C : Addr} (h : PySem.W.readsIn K C (.type "type") = true) : ClX.CRead K C (.type "type") := by
  refine ⟨h, ?_⟩
  unfold PySem.W.readsIn at h
  obtain ⟨h, _⟩ := ba h
  obtain ⟨h, _⟩ := ba h
  obtain ⟨h, h3⟩ := ba h
  obtain ⟨_, h2⟩ := ba h
  unfold PySem.W.specialIn
  rw [beq_iff_eq.mp h2, Option.bind_some]
  exact beq_iff_eq.mp h3
theorem cmAt_of {K : PySem.W.Frag} {C m : Str} {d : He5.DefA} {ps : List Str} {st : Stmt} (c : cmB K C m d = true) (e : He5.fnA K (d.at_ K) = d.val) (h0 : d.name = m) (h1 : d.params = defArgs st) (h2 : d.body = defBody st) (h3 : d.scope = defScope st) (h4 : d.dfl = []) (h5 : d.kwd = [])
    (hb : ∀ (kV doc pm : Value) (an : Option Addr) (cdv ct : Value) (us : List Value), us.length = ps.length → bindArgs (PySem.W.fnX d.name d.qual d.params d.body d.scope [] .none kV doc pm an cdv ct) ⟨us, []⟩ = pure (ps.zip us)) :
    CMAt K (ga K C) m d.qual ps st := by
  obtain ⟨c1, c⟩ := ba c
  obtain ⟨c2, c⟩ := ba c
  obtain ⟨c3, c⟩ := ba c
  obtain ⟨c4, c5⟩ := ba c
  obtain ⟨fd, F⟩ := He5.DefA.funD e c5
  subst h0
  have hdv : d.dvs K = [] := by unfold He5.DefA.dvs; rw [h4]; rfl
  have hkw : d.kws K = [] := by unfold He5.DefA.kws; rw [h5]; rfl
  rw [hdv, hkw] at F
  have c4 := of_decide_eq_true c4
  refine ⟨_, _, _, fd, cread_of c1, He5.cmet_of c2 c3, by rw [← h1, ← h2, ← h3, ← c4]; exact F, F.bindsN hb⟩
theorem words_tab {w : World} {K : PySem.W.Frag} {a : Addr} (h : ∃ es n, KDict K w a es n) (hv : valsB K a wordsV = true) : TabK K w a wrdsK := by
  obtain ⟨es, n, h⟩ := h
  have key : ∀ (z : Str) (s : Str), (z, Dv.str s) ∈ wordsV → ∃ v, KDct K w a z v ∧ ∀ S, Rep K S (.str s) v := fun z s hm => by
    obtain ⟨u, e, r⟩ := valsB_ok hv hm
    exact ⟨.str s, ⟨es, n, u, h.at_, h.lit, e, r⟩, fun _ => rfl⟩
  refine ⟨fun z r hz => ?_⟩
  have hmem : (z, r) ∈ wrdsK := lookup_mem hz
  simp only [wrdsK, List.mem_cons, List.not_mem_nil, or_false, Prod.mk.injEq] at hmem
  rcases hmem with ⟨rfl, rfl⟩ | ⟨rfl, rfl⟩ | ⟨rfl, rfl⟩ | ⟨rfl, rfl⟩
  · exact key _ _ (by simp [wordsV])
  · exact key _ _ (by simp [wordsV])
  · exact key _ _ (by simp [wordsV])
  · exact key _ _ (by simp [wordsV])
theorem mk_of {K : PySem.W.Frag} {C f0 : Addr} (m : Mk K C f0) : ∀ f, Meth K C "__init__" f → Mk K C f := fun f h => by
  have e := h.at_.symm.trans m.init
  cases e
  exact m
end DL
set_option Elab.async false
set_option linter.all false
set_option maxRecDepth 100000
set_option maxHeartbeats 1000000
/-! DL57: the law's own reading of texts of ways. -/
namespace DL
open PySem PySem.Spec PyProof.Rows L2
/-- a place in a text -/
def PlD (ds : List D) (t : List Nat) (p : Nat) : Prop := ds = [.str (tx t), .int (p : Nat)] ∧ p ≤ t.length ∧ t.length < 100000 ∧ CpOk t
def spSkip : DSp := fun ds M Q _ => ∃ (t : List Nat) (p : Nat), PlD ds t p ∧ Q (.int ((sk t p : Nat))) M
def spBeg5 : DSp := fun ds M Q _ => ∃ (t : List Nat) (p : Nat), ds = [sgnAt t p] ∧ CpOk t ∧ Q (.bl (match t[p]? with
  | some c => begC c
  | none => false)) M
/-- what is read, as data: at a place that may be ahead of spaces -/
def rL5 (Q : KR) (M : Mem) (t : List Nat) (lo : Nat) : Res → Prop
  | .ok w q => ∀ q' : Nat, lo ≤ q' → q' ≤ t.length → sk t q' = q → Q (.tup [w.d, .int (q' : Nat)]) M
  | .bad q => Q (.tup [.non, .int (q : Nat)]) M
/-- .. just there -/
def rE5 (Q : KR) (M : Mem) : Res → Prop
  | .ok w q => Q (.tup [w.d, .int (q : Nat)]) M
  | .bad q => Q (.tup [.non, .int (q : Nat)]) M
def spLChoice (n : Nat) : DSp := fun ds M Q _ => ∃ (t : List Nat) (p : Nat), PlD ds t p ∧ dc t p < n ∧ rE5 Q M (pChoice t (pLook t n) p)
def spLRow (n : Nat) : DSp := fun ds M Q _ => ∃ (t : List Nat) (p : Nat), PlD ds t p ∧ dc t p < n ∧ rE5 Q M (pRow t (pLook t n) p)
def spLLook (n : Nat) : DSp := fun ds M Q _ => ∃ (t : List Nat) (p : Nat), PlD ds t p ∧ dc t p < n ∧ rL5 Q M t (p + 1) (pLook t n p)
def spLOne (n : Nat) : DSp := fun ds M Q _ => ∃ (t : List Nat) (p : Nat), PlD ds t p ∧ sk t p = p ∧ dc t p < n + 1 ∧ (t[p]? ≠ some cAmp ∧ t[p]? ≠ some cBang) ∧ rE5 Q M (pOne t (pChoice t (pLook t n)) p)
/-- a call, from its name on -/
def pCall (t : List Nat) (p : Nat) : Res := match pName t p with
  | (none, e) => .bad e
  | (some b, e) => match pStep t cGt e with
    | none => .bad (sk t e)
    | some q => .ok (.call (tx ((t.drop b).take (e - b)))) q
def spLCall : DSp := fun ds M Q _ => ∃ (t : List Nat) (p : Nat), PlD ds t p ∧ sk t p = p ∧ rE5 Q M (pCall t p)
theorem pLook_sk (t : List Nat) {n : Nat} (p : Nat) (h : 0 < n) : pLook t n (sk t p) = pLook t n p := by
  cases n with
  | zero => cases h
  | succ n =>
    unfold pLook
    rw [sk_sk]
theorem pName_sk (t : List Nat) (p : Nat) : pName t (sk t p) = pName t p := by rw [pName_eq, pName_eq, sk_sk]
theorem pCall_sk (t : List Nat) (p : Nat) : pCall t (sk t p) = pCall t p := by
  unfold pCall
  rw [pName_sk]
theorem begins_sk (t : List Nat) (p : Nat) : begins t (sk t p) = begins t p := by
  unfold begins
  rw [sk_sk]
theorem pRows_sk (t : List Nat) (look : Nat → Res) (k : Nat) (ws : List WT) (p : Nat) (h : 0 < k) : pRows t look k ws (sk t p) = pRows t look k ws p := by
  cases k with
  | zero => cases h
  | succ k =>
    unfold pRows
    rw [begins_sk, sk_sk]
theorem begins_at {t : List Nat} {p : Nat} : (match t[sk t p]? with
  | some c => begC c
  | none => false) = begins t p := rfl
/-! ### xs != [] of any items -/
def rNe0 : R2 := fun x y H Q => ∃ a b xs, x = .ref a ∧ y = .ref b ∧ H a = some (.lst xs) ∧ H b = some (.lst []) ∧ Q (.bl (!xs.isEmpty)) H
theorem op_ne0 {X : Cx} (hu : X.A.units + 64 < cLine) : OpR X (compareOp .NotEq) rNe0 := by
  intro pins s σ H x y v u Q I rx ry h
  obtain ⟨a, b, xs, rfl, rfl, ha, hb, q⟩ := h
  cases xs with
  | nil =>
    refine op_neD hu pins s σ H _ _ v u Q I rx ry ⟨.list [], .list [], .lst (SqL.of ha) .nil, .lst (SqL.of hb) .nil, by decide, by decide, ?_⟩
    exact q
  | cons z zs =>
    obtain rfl : v = Value.ref a := rx
    obtain rfl : u = Value.ref b := ry
    obtain ⟨_, its, n, rv, ea⟩ := I.hok a _ ha
    obtain ⟨_, its2, n2, rv2, eb⟩ := I.hok b _ hb
    have hl : its.length = (z :: zs).length := rv.length.symm
    have hl2 : its2.length = 0 := rv2.length.symm
    have r := PySem.SeqAt.RcNeAt.lists_lengths (A := X.A) (s := s) (l := a) (b := b) (items := its.toArray) (items2 := its2.toArray) ⟨_, ea, rfl, n, rfl⟩ ⟨_, eb, rfl, n2, rfl⟩ (by simp [hl, hl2]) (by omega)
    exact r _ _ _ _ ⟨.bl true, H, I, rfl, q⟩
section
variable [Gh] {X : Cx} {e : Expr} {te : DT} {pos npos : Pos} {x : Str}
@[reducible] def dNeO0 (i : Nat) : DT := fun env M Q => match look env i with
  | .own ds => Q (.bl (nb ds.isEmpty)) env M
  | _ => False
theorem d_tneO0 {k : Nat} {lpos : Pos} (hr : Room k X.A) (i : Nat) (hN : X.N[i]? = some x := by rfl) (hv : Vis X.env.scope x := by first | exact Or.inl rfl | exact Or.inr (Or.inl rfl) | exact Or.inr (Or.inr rfl)) (hd : (x == ("__debug__" : Str)) = false := by decide) (hcd : (x == ("__classdict__" : Str)) = false := by decide) :
    DTst X (.Compare (.Name x npos) [.NotEq] [.List [] lpos] pos) (dTst (dNeO0 i)) := by
  refine pt_imp (pt_cmpR (op_ne0 hr.units) (pv i hN hv hd hcd) (pe_lst pa_nil) (nomark _)) fun σ H Q ⟨F, S, env, M, Qd, R, t, p⟩ => ?_
  unfold dTst dNeO0 at t
  cases hl : look env i with
  | own ds =>
    simp only [hl] at t
    obtain ⟨a, xs, e1, e2, rs⟩ := pv_own R hl
    refine ⟨_, e1, Nat.zero_le _, fun u hu => ?_⟩
    obtain ⟨R2, s2⟩ := R.new (o := .lst []) hu
    have hne : a ≠ u := fun z => by rw [z, hu] at e2; cases e2
    refine ⟨a, u, xs, rfl, rfl, by rw [upd_ne hne]; exact e2, upd_same, ?_⟩
    have hb : (!xs.isEmpty) = nb ds.isEmpty := by
      cases ds with
      | nil => rw [Reps.nil_inv rs]; rfl
      | cons d r => obtain ⟨v, us, rfl, _, _⟩ := Reps.cons_inv rs; rfl
    rw [hb]
    exact ⟨_, rfl, p _ _ _ env M s2 R2 t⟩
  | val _ => simp only [hl] at t
  | no => simp only [hl] at t
end
/-! ### how great what is read can be -/
/-- signs that parts begin or end with -/
def rlvC (c : Nat) : Bool := decide (c ∈ lettersN) || decide (c ∈ [cDot, cOpen, cLt, cStar, cQuest, cAmp, cBang])
def nC (t : List Nat) : Nat := (t.filter rlvC).length
def nD (t : List Nat) (p : Nat) : Nat := nC (t.drop p)
theorem nD_mono {t : List Nat} {p q : Nat} (h : p ≤ q) : nD t q ≤ nD t p := by
  unfold nD nC
  obtain ⟨k, rfl⟩ : ∃ k, q = p + k := ⟨q - p, by omega⟩
  rw [← List.drop_drop]
  exact ((List.drop_sublist k (t.drop p)).filter _).length_le
theorem nD_step {t : List Nat} {p c : Nat} (h : t[p]? = some c) (hc : rlvC c = true) : nD t (p + 1) + 1 = nD t p := by
  unfold nD nC
  obtain ⟨hp, he⟩ := List.getElem?_eq_some_iff.mp h
  rw [List.drop_eq_getElem_cons hp, he, List.filter_cons, if_pos hc, List.length_cons]
/-- what is read is no greater than what it is read of -/
def Smal (t : List Nat) (f : Nat → Res) : Prop := ∀ p w q, p ≤ t.length → f p = .ok w q → w.size + 1 + 2 * nD t q ≤ 2 * nD t p
theorem smal_one {t : List Nat} {choice : Nat → Res} (hc : Smal t choice) : Smal t (pOne t choice) := fun p w q hp h => by
  have g := sk_ge t p
  have gm := nD_mono (t := t) g
  unfold pOne at h
  dsimp only at h
  cases hs : t[sk t p]? with
  | none => rw [hs] at h; cases h
  | some c =>
    rw [hs] at h
    have hl := (List.getElem?_eq_some_iff.mp hs).1
    dsimp only at h
    split at h
    · cases h
    · rename_i nb
      have hrel : rlvC c = true := by
        cases hb : begC c with
        | false => rw [hb] at nb; simp at nb
        | true =>
          unfold begC at hb
          unfold rlvC
          rcases Bool.or_eq_true_iff.mp hb with z | z
          · rw [z, Bool.true_or]
          · have z := of_decide_eq_true z
            rw [decide_eq_true (p := c ∈ [cDot, cOpen, cLt, cStar, cQuest, cAmp, cBang]) (by
              simp only [List.mem_cons, List.not_mem_nil, or_false] at z ⊢
              rcases z with z | z | z | z | z <;> simp [z]), Bool.or_true]
      have hst := nD_step hs hrel
      split at h
      · cases h; show 1 + 1 + _ ≤ _; omega
      · split at h
        · cases h; show 1 + 1 + _ ≤ _; omega
        · split at h
          · cases hn : pName t (sk t p + 1) with
            | mk b e =>
              rw [hn] at h
              cases b with
              | none => cases h
              | some b =>
                obtain ⟨_, h1, h2⟩ := pName_le hl hn
                dsimp only at h
                cases hq : pStep t cGt e with
                | none => rw [hq] at h; cases h
                | some r =>
                  rw [hq] at h
                  cases h
                  have := pStep_le hq
                  have := nD_mono (t := t) (show sk t p + 1 ≤ q by omega)
                  show 1 + 1 + _ ≤ _
                  omega
          · split at h
            · cases h
              have := sk_ge t (sk t p + 1)
              have := nD_mono (t := t) (show sk t p + 1 ≤ sk t (sk t p + 1) + 1 by omega)
              show 1 + 1 + _ ≤ _
              omega
            · cases hr : choice (sk t (sk t p + 1)) with
              | bad r => rw [hr] at h; cases h
              | ok w' r =>
                rw [hr] at h
                dsimp only at h
                have h3 := hc (sk t (sk t p + 1)) w' r (sk_le hl) hr
                have := nD_mono (t := t) (sk_ge t (sk t p + 1))
                cases hq : pStep t cClose r with
                | none => rw [hq] at h; cases h
                | some r' =>
                  rw [hq] at h
                  cases h
                  have := pStep_le hq
                  have := nD_mono (t := t) (show r ≤ q by omega)
                  omega
theorem smal_reps (t : List Nat) : ∀ (k : Nat) (w : WT) (p : Nat), p ≤ t.length → (pReps t k w p).1.size + 2 * nD t (pReps t k w p).2 ≤ w.size + 2 * nD t p
  | 0, w, p, h => Nat.le_refl _
  | k + 1, w, p, h => by
    have g := nD_mono (t := t) (sk_ge t p)
    unfold pReps
    cases hs : t[sk t p]? with
    | none => dsimp only; omega
    | some c =>
      have hl := (List.getElem?_eq_some_iff.mp hs).1
      dsimp only
      split
      · rename_i hc
        have := nD_step hs (by rw [hc]; decide)
        have := smal_reps t k (.un .again w) (sk t p + 1) hl
        have e : (WT.un .again w).size = w.size + 1 := rfl
        omega
      · split
        · rename_i hc
          have := nD_step hs (by rw [hc]; decide)
          have := smal_reps t k (.un .maybe w) (sk t p + 1) hl
          have e : (WT.un .maybe w).size = w.size + 1 := rfl
          omega
        · dsimp only; omega
theorem smal_repeat {t : List Nat} {choice : Nat → Res} (hg : Goes t choice) (hc : Smal t choice) : Smal t (pRepeat t choice) := fun p w q hp h => by
  unfold pRepeat at h
  cases ho : pOne t choice p with
  | bad r => rw [ho] at h; cases h
  | ok w' r =>
    rw [ho] at h
    have h1 := smal_one hc p w' r hp ho
    have h2 := smal_reps t (t.length + 1) w' r (goes_one hg p w' r hp ho).2
    cases h
    omega
theorem sizes_app (a b : List WT) : WT.sizes (a ++ b) = WT.sizes a + WT.sizes b := by
  induction a with
  | nil => simp [WT.sizes]
  | cons x a ih => rw [List.cons_append, WT.sizes, WT.sizes, ih]; omega
theorem mkW_size (c : Bool) {ws : List WT} (h : ws ≠ []) : (mkW c ws).size + 1 ≤ WT.sizes ws + ws.length := by
  match ws, h with
  | [w], _ => show w.size + 1 ≤ w.size + 0 + 1; omega
  | w :: u :: r, _ =>
    show WT.sizes (w :: u :: r) + 1 + 1 ≤ _
    rw [List.length_cons, List.length_cons]
    omega
theorem smal_rows {t : List Nat} {look : Nat → Res} (hg : Goes t look) (hl : Smal t look) : ∀ (k : Nat) (ws : List WT) (p : Nat) (w : WT) (q : Nat), ws ≠ [] → p ≤ t.length → pRows t look k ws p = .ok w q → w.size + 1 + 2 * nD t q ≤ WT.sizes ws + ws.length + 2 * nD t p
  | 0, _, _, _, _, _, _, h => by cases h
  | k + 1, ws, p, w, q, hne, hp, h => by
    have g := nD_mono (t := t) (sk_ge t p)
    have g2 := sk_le hp
    unfold pRows at h
    split at h
    · cases hr : look (sk t p) with
      | bad r => rw [hr] at h; cases h
      | ok w' r =>
        rw [hr] at h
        have h1 := hl _ _ _ g2 hr
        have h2 := smal_rows hg hl k _ r w q (by simp) (hg _ _ _ g2 hr).2 h
        rw [sizes_app, List.length_append, List.length_singleton, show WT.sizes [w'] = w'.size from by rw [WT.sizes, WT.sizes, Nat.add_zero]] at h2
        omega
    · cases h
      have := mkW_size false hne
      omega
theorem smal_row {t : List Nat} {look : Nat → Res} (hg : Goes t look) (hl : Smal t look) : Smal t (pRow t look) := fun p w q hp h => by
  unfold pRow at h
  cases hr : look p with
  | bad r => rw [hr] at h; cases h
  | ok w' r =>
    rw [hr] at h
    have h1 := hl _ _ _ hp hr
    have h2 := smal_rows hg hl _ _ r w q (by simp) (hg _ _ _ hp hr).2 h
    rw [show WT.sizes [w'] = w'.size from by rw [WT.sizes, WT.sizes, Nat.add_zero], List.length_singleton] at h2
    omega
theorem smal_alts {t : List Nat} {row : Nat → Res} (hg : Goes t row) (hl : Smal t row) : ∀ (k : Nat) (ws : List WT) (p : Nat) (w : WT) (q : Nat), ws ≠ [] → p ≤ t.length → pAlts t row k ws p = .ok w q → w.size + 1 + 2 * nD t q ≤ WT.sizes ws + ws.length + 2 * nD t p
  | 0, _, _, _, _, _, _, h => by cases h
  | k + 1, ws, p, w, q, hne, hp, h => by
    have g := nD_mono (t := t) (sk_ge t p)
    have gk := sk_ge t p
    unfold pAlts at h
    split at h
    · rename_i hs
      have hlt := (List.getElem?_eq_some_iff.mp hs).1
      cases hr : row (sk t p + 1) with
      | bad r => rw [hr] at h; cases h
      | ok w' r =>
        rw [hr] at h
        have h1 : w'.size + 1 + 2 * nD t r ≤ 2 * nD t (sk t p + 1) := hl _ _ _ hlt hr
        have h2 := smal_alts hg hl k _ r w q (by simp) (hg _ _ _ hlt hr).2 h
        have := nD_mono (t := t) (show sk t p ≤ sk t p + 1 by omega)
        rw [sizes_app, List.length_append, List.length_singleton, show WT.sizes [w'] = w'.size from by rw [WT.sizes, WT.sizes, Nat.add_zero]] at h2
        omega
    · cases h
      have := mkW_size true hne
      omega
theorem smal_choice {t : List Nat} {look : Nat → Res} (hg : Goes t look) (hl : Smal t look) : Smal t (pChoice t look) := fun p w q hp h => by
  unfold pChoice at h
  cases hr : pRow t look p with
  | bad r => rw [hr] at h; cases h
  | ok w' r =>
    rw [hr] at h
    have h1 := smal_row hg hl _ _ _ hp hr
    have h2 := smal_alts (goes_row hg) (smal_row hg hl) _ _ r w q (by simp) (goes_row hg _ _ _ hp hr).2 h
    rw [show WT.sizes [w'] = w'.size from by rw [WT.sizes, WT.sizes, Nat.add_zero], List.length_singleton] at h2
    omega
theorem smal_look (t : List Nat) : ∀ n, Smal t (pLook t n)
  | 0 => fun p w q hp h => by cases h
  | n + 1 => fun p w q hp h => by
    have ih := smal_look t n
    have ig := goes_look t n
    have g := nD_mono (t := t) (sk_ge t p)
    have g2 := sk_le hp
    have hrep := smal_repeat (goes_choice ig) (smal_choice ig ih)
    unfold pLook at h
    cases hs : t[sk t p]? with
    | none =>
      rw [hs] at h
      have := hrep _ _ _ g2 h
      omega
    | some c =>
      rw [hs] at h
      have hl := (List.getElem?_eq_some_iff.mp hs).1
      dsimp only at h
      split at h
      · rename_i hc
        cases hr : pLook t n (sk t p + 1) with
        | bad r => rw [hr] at h; cases h
        | ok w' r =>
          rw [hr] at h
          cases h
          have h1 : w'.size + 1 + 2 * nD t q ≤ 2 * nD t (sk t p + 1) := ih _ _ _ hl hr
          have := nD_step hs (by rcases hc with rfl | rfl <;> decide)
          show w'.size + 1 + 1 + _ ≤ _
          omega
      · have := hrep _ _ _ g2 h
        omega
theorem pWay_size {t : List Nat} {w : WT} {q : Nat} (h : pWay t = .ok w q) : w.size + 1 ≤ 2 * nC t := by
  unfold pWay at h
  cases hr : pChoice t (pLook t (deepC t + 1)) 0 with
  | bad r => rw [hr] at h; cases h
  | ok w' r =>
    rw [hr] at h
    dsimp only at h
    have := smal_choice (goes_look t _) (smal_look t _) 0 w' r (Nat.zero_le _) hr
    split at h
    · cases h
      have e : nD t 0 = nC t := rfl
      omega
    · cases h
theorem deep_nC (t : List Nat) : deepC t ≤ nC t := by
  unfold deepC nC
  induction t with
  | nil => exact Nat.le_refl _
  | cons c t ih =>
    rw [List.filter_cons, List.filter_cons]
    by_cases h : decide (c ∈ [cOpen, cAmp, cBang]) = true
    · have hr : rlvC c = true := by
        have z := of_decide_eq_true h
        simp only [List.mem_cons, List.not_mem_nil, or_false] at z
        rcases z with rfl | rfl | rfl <;> decide
      rw [if_pos h, if_pos hr, List.length_cons, List.length_cons]
      omega
    · rw [if_neg h]
      split
      · rw [List.length_cons]; omega
      · exact ih
theorem nC_app (a b : List Nat) : nC (a ++ b) = nC a + nC b := by
  unfold nC
  rw [List.filter_append, List.length_append]
theorem nC_take_drop (t : List Nat) {a b : Nat} (h : a ≤ b) : nC (t.take a) + nC (t.drop b) ≤ nC t := by
  have e : nC t = nC (t.take a) + nC (t.drop a) := by rw [← nC_app, List.take_append_drop]
  have := nD_mono (t := t) h
  unfold nD at this
  omega
theorem nC_dbl (t : List Nat) (a : Nat) : nC (t.take a) + nC (t.drop (a - 1)) ≤ nC t + 1 := by
  cases a with
  | zero => rw [List.take_zero]; show 0 + nC t ≤ _; omega
  | succ a =>
    have e : nC t = nC (t.take (a + 1)) + nC (t.drop (a + 1)) := by rw [← nC_app, List.take_append_drop]
    have h : nC (t.drop a) ≤ nC (t.drop (a + 1)) + 1 := by
      by_cases ha : a < t.length
      · rw [List.drop_eq_getElem_cons ha]
        unfold nC
        rw [List.filter_cons]
        split
        · rw [List.length_cons]; exact Nat.le_refl _
        · omega
      · rw [List.drop_eq_nil_of_le (by omega), List.drop_eq_nil_of_le (by omega)]
        omega
    show nC (t.take (a + 1)) + nC (t.drop a) ≤ _
    omega
theorem nC_le (t : List Nat) : nC t ≤ t.length := (List.filter_sublist).length_le
/-- what words count -/
def nW (ws : List (List Nat)) : Nat := (ws.map fun w => nC (wsg w)).sum
theorem nW_flat (ws : List (List Nat)) : nC (ws.flatMap wsg) = nW ws := by
  induction ws with
  | nil => rfl
  | cons w ws ih =>
    rw [List.flatMap_cons, nC_app, ih]
    unfold nW
    rw [List.map_cons, List.sum_cons]
theorem nW_app (a b : List (List Nat)) : nW (a ++ b) = nW a + nW b := by
  unfold nW
  rw [List.map_append, List.sum_append]
theorem nW_cons (a : List Nat) (b : List (List Nat)) : nW (a :: b) = nC (wsg a) + nW b := by
  unfold nW
  rw [List.map_cons, List.sum_cons]
theorem itk_nW (v : WT) (k : Nat) (ts : List (List Nat)) : nW (itk v k ts) ≤ nW ts + 1 := by
  unfold itk
  split
  · rw [nW_cons, nW_app, show nC (wsg [40]) = 1 from rfl, show nW [[41]] = 0 from rfl]; omega
  · omega
theorem isep_nW {sep : List (List Nat)} (hs : nW sep = 0) : ∀ ts : List (List (List Nat)), nW (isep sep ts) = (ts.map nW).sum
  | [] => rfl
  | [t] => by simp [isep]
  | t :: u :: r => by
    rw [isep, nW_app, nW_app, hs, isep_nW hs (u :: r), Nat.add_zero]
    rfl
mutual
/-- ways without calls -/
def WT.noc : WT → Prop
  | .call _ => False
  | .un _ w => w.noc
  | .many _ ws => WT.nocs ws
  | _ => True
def WT.nocs : List WT → Prop
  | [] => True
  | w :: ws => w.noc ∧ WT.nocs ws
end
theorem WT.nocs_mem : ∀ {ws : List WT} {w : WT}, WT.nocs ws → w ∈ ws → w.noc
  | [], _, _, h => by cases h
  | u :: ws, w, h, hm => by
    rcases List.mem_cons.mp hm with rfl | hm
    · exact h.1
    · exact WT.nocs_mem h.2 hm
theorem wrds_nW : ∀ (k : Nat) (v : WT), v.size ≤ k → v.rdb → v.noc → nW (wrds v) + 1 ≤ 2 * v.size
  | 0, v, h, _, _ => by cases v <;> simp [WT.size] at h
  | k + 1, v, h, hv, hn => by
    cases v with
    | nothing => decide
    | one => decide
    | letter s =>
      obtain ⟨c, rfl, hc⟩ := hv
      rw [wrds, tx_cps, nW_cons, wsg_let (fun x hx => by rw [List.mem_singleton.mp hx]; exact hc) (Nat.le_refl _)]
      have : nC [c] ≤ 1 := nC_le _
      show nC [c] + 0 + 1 ≤ 2 * 1
      omega
    | call s => exact hn.elim
    | un u w =>
      have ih := wrds_nW k w (by simp only [WT.size] at h; omega) hv hn
      have e : (WT.un u w).size = w.size + 1 := rfl
      rw [e]
      cases u with
      | again => have := itk_nW w 4 (wrds w); rw [wrds, nW_app, show nW [[42]] = 1 from rfl]; omega
      | maybe => have := itk_nW w 5 (wrds w); rw [wrds, nW_app, show nW [[63]] = 1 from rfl]; omega
      | ahead => have := itk_nW w 6 (wrds w); rw [wrds, nW_cons, show nC (wsg [38]) = 1 from rfl]; omega
      | «unless» => have := itk_nW w 7 (wrds w); rw [wrds, nW_cons, show nC (wsg [33]) = 1 from rfl]; omega
    | many c ws =>
      obtain ⟨h2, hr⟩ := hv
      have e : (WT.many c ws).size = WT.sizes ws + 1 := rfl
      have ih : ∀ (kk : Nat) (sep : List (List Nat)), nW sep = 0 → nW (isep sep (wrdss kk ws)) ≤ (ws.map fun w => 2 * w.size).sum := fun kk sep hs => by
        rw [isep_nW hs, wrdss_map, List.map_map]
        refine sum_le_sum ws fun w hw => ?_
        show nW (itk w kk (wrds w)) ≤ 2 * w.size
        have := itk_nW w kk (wrds w)
        have := wrds_nW k w (by have := WT.size_mem hw; simp only [WT.size] at h; omega) (WT.rdbs_mem hr hw) (WT.nocs_mem hn hw)
        omega
      have e2 : ∀ l : List WT, (l.map fun w => 2 * w.size).sum = 2 * WT.sizes l := fun l => by
        induction l with
        | nil => rfl
        | cons a l ihl => rw [List.map_cons, List.sum_cons, WT.sizes, ihl]; omega
      rw [e2] at ih
      rw [e]
      cases c with
      | false => have := ih 8 [[95]] rfl; rw [wrds]; omega
      | true => have := ih 9 [[95], [47], [95]] rfl; rw [wrds]; omega
/-- the way that a text tells, or the wrong place -/
def resD (W : WA) : Res → D
  | .ok w _ => w.o W
  | .bad q => .int (q : Nat)
def spDue5 (W : WA) (n S : Nat) : DSp := fun ds M Q _ => ∃ t : List Nat, ds = [.str (tx t)] ∧ t.length < 100000 ∧ CpOk t ∧ deepC t < n ∧ 2 * nC t ≤ S ∧ 2 * nC t ≤ 1000 ∧ Q (resD W (pWay t)) M
def spTold5 (W : WA) (n : Nat) : DSp := fun ds M Q _ => ∃ t : List Nat, ds = [.str (tx t)] ∧ t.length < 100000 ∧ CpOk t ∧ deepC t < n ∧ Q (resD W (pWay t)) M
def spBent5 : DSp := fun ds M Q _ => ∃ (p : Addr) (t : List Nat) (n : Int) (o : MO), ds = [.ref p, .str (tx t)] ∧ t.length < 100000 ∧ CpOk t ∧ n + 3 < 2 ^ 38 ∧ M p = some o ∧ PenO o n ∧
  ∀ (u : List Nat) (o' : MO), u.length ≤ t.length + 4 → CpOk u → nC u ≤ nC t + 3 → PenO o' (n + 3) → Q (.str (tx u)) (mset M p o')
theorem od_eqU [Gh] {X : Cx} (hu : X.A.units + 64 < cLine) : OpD X (compareOp .Eq) rdEq :=
  ⟨⟨_, op_eqD hu, fun F S σ H env M x y d e Qd Q R r1 r2 ⟨h1, h2, q⟩ p =>
    ⟨pd d, pd e, Dp.mono R.c.same (r1.dp h1.1), Dp.mono R.c.same (r2.dp h2.1), h1.shaped, h2.shaped, p _ H S env M (.bl _) (Same.refl _) R rfl q⟩⟩⟩
theorem fx_line {x y : D} : fget "line" [("place" : Str), "line"] [x, y] = some y := by
  show List.lookup _ ((("place" : Str), x) :: ((("line" : Str)), y) :: []) = _
  rw [lk_ne (by decide +kernel), List.lookup_cons_self]
theorem fx_place {x y : D} : fget "place" [("place" : Str), "line"] [x, y] = some x := by
  show List.lookup _ ((("place" : Str), x) :: _) = _
  rw [List.lookup_cons_self]
theorem od_or [Gh] {X : Cx} {f : Value → Value → Sem Value} {r1 r2 : RD2} (h1 : OpD X f r1) (h2 : OpD X f r2) : OpD X f (fun d e env M Q => r1 d e env M Q ∨ r2 d e env M Q) := by
  obtain ⟨a, a1, a2⟩ := h1.ex
  obtain ⟨b, b1, b2⟩ := h2.ex
  refine ⟨⟨fun x y H Q => a x y H Q ∨ b x y H Q, fun pins s σ H x y v u Q I rx ry h => ?_, fun F S σ H env M x y d e Qd Q R r1 r2 h p => ?_⟩⟩
  · rcases h with h | h
    · exact a1 pins s σ H x y v u Q I rx ry h
    · exact b1 pins s σ H x y v u Q I rx ry h
  · rcases h with h | h
    · exact .inl (a2 F S σ H env M x y d e Qd Q R r1 r2 h p)
    · exact .inr (b2 F S σ H env M x y d e Qd Q R r1 r2 h p)
/-- what was read, by two roads -/
@[reducible] def rdEq5 (W : WA) (S : Nat) : RD2 := fun d e env M Q => rdEqW W S d e env M Q ∨ rdEq d e env M Q
theorem od_eq5 [Gh] {X : Cx} {W : WA} {S n : Nat} (h : EqM X.prog X.w X.K X.mg X.base W S n) (hr : Room n X.A) : OpD X (compareOp .Eq) (rdEq5 W S) := od_or (od_eqW h hr) (od_eq hr)
theorem rd5_self [Gh] {W : WA} {S : Nat} {r : Res} {env : List Sl} {M : Mem} {Q : D → List Sl → Mem → Prop} (h : ∀ w q, r = .ok w q → w.size ≤ S) (q : Q (.bl true) env M) : rdEq5 W S (resD W r) (resD W r) env M Q := by
  cases r with
  | ok w p =>
    refine .inl ⟨_, rdW_ways (h w p rfl), ?_⟩
    rw [wEq_self]
    exact q
  | bad p =>
    refine .inr ⟨okEq_flat rfl, okEq_flat rfl, ?_⟩
    show Q (.bl (deq (.int _) (.int _))) env M
    rw [deq_int, decide_eq_true rfl]
    exact q
def resB : Res → Bool
  | .ok _ _ => true
  | .bad _ => false
theorem isI_res [Gh] {K : PySem.W.Frag} {W : WA} {Wy f : Addr} (G : WEq K W Wy f) (hI : PySem.W.kitOne K (.type "int") (.ref Wy) = some false) (r : Res) : IsI K (resD W r) (.ref Wy) (resB r) := by
  cases r with
  | ok w p =>
    obtain ⟨C, ns, ds, ho, hC⟩ := WT.o_obj W w
    exact ⟨.ref C, .ref Wy, by show TyD K (w.o W) _; rw [ho]; exact ⟨rfl, G.is_ _ hC⟩, rfl, G.isi _ hC⟩
  | bad p => exact ⟨.type "int", .ref Wy, rfl, rfl, hI⟩
theorem WT.oks_mem5 {P : Str → Prop} : ∀ {ws : List WT} {w : WT}, WT.oks P ws → w ∈ ws → w.ok P
  | [], _, _, h => by cases h
  | u :: ws, w, h, hm => by
    rcases List.mem_cons.mp hm with rfl | hm
    · exact h.1
    · exact WT.oks_mem5 h.2 hm
theorem WT.rdbs_of5 : ∀ {ws : List WT}, (∀ w ∈ ws, w.rdb) → WT.rdbs ws
  | [], _ => trivial
  | w :: ws, h => ⟨h w List.mem_cons_self, WT.rdbs_of5 fun x hx => h x (List.mem_cons_of_mem _ hx)⟩
theorem WT.nocs_of5 : ∀ {ws : List WT}, (∀ w ∈ ws, w.noc) → WT.nocs ws
  | [], _ => trivial
  | w :: ws, h => ⟨h w List.mem_cons_self, WT.nocs_of5 fun x hx => h x (List.mem_cons_of_mem _ hx)⟩
theorem WT.ok_rdb {l : List Nat} (hl : ∀ c ∈ l, c ∈ lettersN) : ∀ (k : Nat) (v : WT), v.size ≤ k → v.ok (Sgn l) → v.rdb ∧ v.noc
  | 0, v, h, _ => by cases v <;> simp [WT.size] at h
  | k + 1, v, h, ho => by
    cases v with
    | nothing => exact ⟨trivial, trivial⟩
    | one => exact ⟨trivial, trivial⟩
    | letter s => exact ⟨sgn_rdb hl ho, trivial⟩
    | call s => exact ho.elim
    | un _ w => exact WT.ok_rdb hl k w (by simp only [WT.size] at h; omega) ho
    | many c ws =>
      have ih : ∀ w ∈ ws, w.rdb ∧ w.noc := fun w hw => WT.ok_rdb hl k w (by have := WT.size_mem hw; simp only [WT.size] at h; omega) (WT.oks_mem5 ho.2 hw)
      exact ⟨⟨ho.1, WT.rdbs_of5 fun w hw => (ih w hw).1⟩, WT.nocs_of5 fun w hw => (ih w hw).2⟩
/-- what is known of a drawn way's text -/
theorem drawn_text {l : List Nat} {w : WT} {S : Nat} (hl : ∀ c ∈ l, c ∈ lettersN) (ho : w.ok (Sgn l)) (hS : w.size ≤ S) : (wtx w).length ≤ 96 * S ∧ CpOk (wtx w) ∧ nC (wtx w) + 1 ≤ 2 * S := by
  obtain ⟨h1, h2⟩ := WT.ok_rdb hl _ w (Nat.le_refl _) ho
  have hwl := wrds_len _ w (Nat.le_refl _) h1
  have hwo := wrds_ok _ w (Nat.le_refl _) h1
  have hwt := wrds_text _ w (Nat.le_refl _) h1
  obtain ⟨hf1, hf2⟩ := flat_len hwo
  rw [hwt] at hf1 hf2
  have hn := wrds_nW _ w (Nat.le_refl _) h1 h2
  rw [← nW_flat, hwt] at hn
  exact ⟨by omega, fun c hc => by have := hf2 c hc; omega, by omega⟩
end DL

set_option Elab.async false
set_option linter.all false
set_option maxRecDepth 100000
set_option maxHeartbeats 4000000
namespace K05
open PySem PySem.Spec PyProof.Rows L2 DL

local macro_rules | `(tactic| walk_at "dl") => `(tactic| with_reducible conv => whnf)
local macro_rules | `(tactic| walk_at "pen") => `(tactic| (walk_at "dl"; repeat (first | rw [mset_same] | rw [pen_cells] | rw [pen_at] | rw [pen_left] | rw [penN_at, penD_at] | rw [penN_left, penD_left]); walk_at "dl"))
local macro_rules | `(tactic| walk_at "c") => `(tactic| (refine And.intro (by first | decide | assumption | omega | rfl | (show 1 ≤ sizeLine; decide) | (show 2 ≤ sizeLine; decide) | (show 3 ≤ sizeLine; decide) | (show 4 ≤ sizeLine; decide) | (show 5 ≤ sizeLine; decide) | (show 6 ≤ sizeLine; decide) | (show 7 ≤ sizeLine; decide)) ?_; walk_at "dl"))
local macro_rules | `(tactic| walk_at "q") => `(tactic| (refine And.intro (by first | assumption | exact okEq_flat rfl | exact okEq_flat (by decide +kernel)) (And.intro (by first | assumption | exact okEq_flat rfl | exact okEq_flat (by decide +kernel)) ?_); walk_at "dl"; try (first | rw [deq_int] | rw [deq_NI] | rw [deq_IN] | rw [deq_NN] | (rw [deq_str, lit_beq]; conv in (_ == _) => simp only [String.reduceBEq]) | rw [deq_str] | (conv in deq _ _ => simp only [String.reduceBEq, deq_bf, deq_bt])); walk_at "dl"))
local macro_rules | `(tactic| walk_at "in") => `(tactic| (refine And.intro rfl (And.intro rfl ?_); walk_at "dl"; (conv in inF _ _ => simp only [inF_cons, inF_nil, eqF_lit, String.reduceBEq, Bool.or_false, Bool.or_true, Bool.false_or, Bool.true_or]); walk_at "dl"))
local macro_rules | `(tactic| walk_at "a") => `(tactic| (walk_at "dl"; repeat (first | walk_at "in" | walk_at "q" | walk_at "c")))

section
variable {P : Program} {w : World} {K : PySem.W.Frag} {mg : Str → Option Value} {base : Heap}

theorem sc_s__law_draw : FnScope N_s__law_draw ["_law_pen_here", "_law_many"] (defScope s__law_draw) := ⟨rfl, rfl, rfl, by decide +kernel, rfl, by decide +kernel, by decide +kernel⟩
local macro_rules | `(tactic| walk_at "tail") => `(tactic| (walk_at "c"; refine ⟨mulW (by omega) (by decide), ?_⟩; walk_at "dl"; refine ⟨mulW (by decide) (by omega), ?_⟩; walk_at "dl"; refine ⟨mulW (by omega) (by omega), ?_⟩; walk_at "dl"; refine ⟨mulW (by decide) (by omega), ?_⟩; walk_at "dl"; walk_at "c"; refine ⟨mulW (by omega) (by omega), ?_⟩; walk_at "dl"; walk_at "c"; refine ⟨mulW (by omega) (by omega), ?_⟩; walk_at "dl"; walk_at "c"; refine ⟨wide_div (b := 64) (by decide) (by decide) (by decide) (by decide), ?_⟩; walk_at "dl"; refine ⟨by assumption, ?_⟩; walk_at "dl"))
theorem ok_draw (T : TxtP mg) (Df : DefAt K mg "_law_draw" ["_law_pen_here", "_law_many"] s__law_draw) : Fn P w K mg base 1 "_law_draw" ["_law_pen_here", "_law_many"] spDraw := by
  refine okF Df sc_s__law_draw (fun ds M Q E h => ?_) fun f cdv A outer s H E hr => ⟨_, (ss_cons (s_if (d_tcmp od_ge (d_dget (hu_of hr) (d_var 0) d_str) (d_var 1) (nomark _))
    (ss_cons (s_set (i := 2) sc_s__law_draw.nd (d_op od_mod (d_callTy cd_int rfl T.z_int (by decide +kernel) (a_cons (d_dget (hu_of hr) (d_var 0) d_str) a_nil)) (d_var 1)))
    (ss_cons (s_dput (hu_of hr) (d_var 0) d_str (d_op od_fdiv (d_dget (hu_of hr) (d_var 0) d_str) (d_var 1)))
    (ss_one (s_ret (d_var 2)))))
    ss_nil)
    (ss_cons (s_set (i := 3) sc_s__law_draw.nd (d_dget (hu_of hr) (d_var 0) d_str))
    (ss_cons (s_dput (hu_of hr) (d_var 0) d_str (d_op od_add (d_var 3) d_int))
    (ss_cons (s_set (i := 4) sc_s__law_draw.nd (d_op od_add (d_op od_mul d_int (d_var 3)) d_int))
    (ss_cons (s_if (d_tcmp (od_ne hr) (d_dget (hu_of hr) (d_var 0) d_str) (d_lst a_nil) (nomark _))
    (ss_one (s_set (i := 4) sc_s__law_draw.nd (d_ix (d_dget (hu_of hr) (d_var 0) d_str) (d_op od_mod (d_callTy cd_int rfl T.z_int (by decide +kernel) (a_cons (d_var 3) a_nil)) (d_callB cd_len rfl T.z_len PySem.boot_len (a_cons (d_dget (hu_of hr) (d_var 0) d_str) a_nil))))))
    ss_nil)
    (ss_cons (s_if (d_wt (w_and (d_tcmp od_lt (d_var 3) (d_callB cd_len rfl T.z_len PySem.boot_len (a_cons (d_dget (hu_of hr) (d_var 0) d_str) a_nil)) (nomark _)) (w_and1 (d_tcmp od_ge (d_var 4) (d_op od_pow d_int d_int) (nomark _)))))
    (ss_cons (s_dput (hu_of hr) (d_var 0) d_str (d_op od_fdiv (d_op od_sub (d_var 4) (d_op od_pow d_int d_int)) (d_var 1)))
    (ss_one (s_ret (d_op od_mod (d_callTy cd_int rfl T.z_int (by decide +kernel) (a_cons (d_op od_sub (d_var 4) (d_op od_pow d_int d_int)) a_nil)) (d_var 1)))))
    ss_nil)
    (ss_cons (s_set (i := 5) sc_s__law_draw.nd (d_op od_add (d_op od_add (d_op od_add (d_op od_mul (d_op od_mod (d_callTy cd_int rfl T.z_int (by decide +kernel) (a_cons (d_var 4) a_nil)) d_int) d_int) (d_op od_mul (d_op od_mul d_int (d_var 3)) (d_var 3))) (d_op od_mul d_int (d_var 3))) d_int))
    (ss_cons (s_set (i := 5) sc_s__law_draw.nd (d_op od_mod (d_callTy cd_int rfl T.z_int (by decide +kernel) (a_cons (d_var 5) a_nil)) d_int))
    (ss_cons (s_set (i := 5) sc_s__law_draw.nd (d_op od_mod (d_callTy cd_int rfl T.z_int (by decide +kernel) (a_cons (d_op od_mul (d_var 5) (d_op od_add (d_var 5) d_int)) a_nil)) d_int))
    (ss_one (s_ret (d_op od_mod (d_callTy cd_int rfl T.z_int (by decide +kernel) (a_cons (d_op od_fdiv (d_op od_mod (d_callTy cd_int rfl T.z_int (by decide +kernel) (a_cons (d_op od_mul (d_var 5) (d_var 5)) a_nil)) d_int) d_int) a_nil)) (d_var 1))))))))))))), fun ds M Q Ed h => ?_⟩
  · obtain ⟨p, m, n, o, rfl, _⟩ := h
    rfl
  · obtain ⟨p, m, n, o, rfl, h1, h2, h3, h4, ⟨c, a, l, rfl, h5, h6, h7⟩, k⟩ := h
    have e : startD N_s__law_draw [.ref p, .int m] = [.val (.ref p), .val (.int m), Sl.no, Sl.no, Sl.no, Sl.no] := rfl
    rw [e]
    walk_at "dl"
    have hb : m.natAbs < 2 ^ 200 := by omega
    have fin : ∀ (x l' : Int), 0 ≤ a → ∀ a', 0 ≤ a' → a' ≤ n + 1 → Q (.int (x % m)) (mset M p (penMO c a' l')) := fun x l' _ a' h8 h9 => k _ _ (Int.emod_nonneg _ (by omega)) (Int.emod_lt_of_pos _ h1) ⟨c, a', _, rfl, h5, h8, h9⟩
    rw [h4]
    walk_at "pen"
    walk_at "pen"
    by_cases c1 : m ≤ l
    · rw [decide_eq_true c1]
      walk_at "dl"
      rw [h4]
      walk_at "pen"
      walk_at "c"
      rw [h4]
      walk_at "pen"
      refine ⟨wide_div h1 hb (by decide) (by decide), ?_⟩
      walk_at "dl"
      rw [h4]
      walk_at "dl"
      walk_at "c"
      walk_at "pen"
      exact fin _ _ h6 a h6 (by omega)
    · rw [decide_eq_false c1]
      walk_at "dl"
      rw [h4]
      walk_at "pen"
      rw [h4]
      walk_at "dl"
      walk_at "c"
      walk_at "pen"
      refine ⟨mulW (by decide) (by omega), ?_⟩
      walk_at "pen"
      walk_at "pen"
      walk_at "c"
      refine ⟨okEq_ints c, ?_⟩
      refine ⟨okEq_nil, ?_⟩
      walk_at "dl"
      rw [deq_nil]
      have e18 : (10 : Int) ^ Int.toNat 18 = 1000000000000000000 := by decide
      -- behind the cell: any number
      by_cases hc : c = []
      · have e0 : (c.map D.int).isEmpty = true := by rw [hc]; rfl
        rw [e0]
        walk_at "dl"
        walk_at "pen"
        walk_at "pen"
        have e1 : decide (a < ((c.map D.int).length : Int)) = false := decide_eq_false (by rw [hc]; show ¬ a < 0; omega)
        rw [e1]
        walk_at "dl"
        walk_at "tail"
        exact fin _ _ h6 _ (by omega) (by omega)
      · have e0 : (c.map D.int).isEmpty = false := by
          cases c with
          | nil => exact absurd rfl hc
          | cons _ _ => rfl
        rw [e0]
        have hn : 0 < ((c.map D.int).length : Int) := by
          cases c with
          | nil => exact absurd rfl hc
          | cons _ _ => rw [List.map_cons, List.length_cons]; omega
        walk_at "dl"
        walk_at "pen"
        walk_at "pen"
        refine ⟨hn, ?_⟩
        obtain ⟨x, hx⟩ := atI_ints (c := c) (i := a % ((c.map D.int).length : Int)) (Int.emod_nonneg _ (by omega)) (by
          have := Int.emod_lt_of_pos a hn
          rw [List.length_map] at this ⊢
          exact this)
        walk_at "dl"
        rw [hx]
        walk_at "dl"
        walk_at "pen"
        walk_at "pen"
        by_cases c2 : a < ((c.map D.int).length : Int)
        · rw [decide_eq_true c2]
          walk_at "dl"
          refine ⟨⟨by decide, by decide, by decide⟩, ?_⟩
          walk_at "dl"
          by_cases c3 : (10 : Int) ^ Int.toNat 18 ≤ x
          · rw [decide_eq_true c3]
            walk_at "dl"
            refine ⟨⟨by decide, by decide, by decide⟩, ?_⟩
            walk_at "dl"
            refine ⟨wide_div h1 hb (by decide) (by decide), ?_⟩
            walk_at "pen"
            walk_at "c"
            walk_at "pen"
            refine ⟨⟨by decide, by decide, by decide⟩, ?_⟩
            walk_at "dl"
            walk_at "c"
            rw [mset_mset]
            exact fin _ _ h6 _ (by omega) (by omega)
          · rw [decide_eq_false c3]
            walk_at "dl"
            walk_at "tail"
            exact fin _ _ h6 _ (by omega) (by omega)
        · rw [decide_eq_false c2]
          walk_at "dl"
          walk_at "tail"
          exact fin _ _ h6 _ (by omega) (by omega)


theorem sc_s__law_pen : FnScope N_s__law_pen ["_law_script"] (defScope s__law_pen) := ⟨rfl, rfl, rfl, by decide +kernel, rfl, by decide +kernel, by decide +kernel⟩
theorem ok_pen (T : TxtP mg) (Df : DefAt K mg "_law_pen" ["_law_script"] s__law_pen) : Fn P w K mg base 1 "_law_pen" ["_law_script"] spPen := by
  refine okF Df sc_s__law_pen (fun ds M Q E h => ?_) fun f cdv A outer s H E hr => ⟨_, (ss_one (s_ret (d_pen (d_callTy cd_list rfl T.z_list (by decide +kernel) (a_cons (d_slice (d_var 0) o_none (o_some d_int)) a_nil)) d_int d_int))), fun ds M Q Ed h => ?_⟩
  · obtain ⟨ns, rfl, _⟩ := h
    rfl
  · obtain ⟨ns, rfl, h1, k⟩ := h
    have e : startD N_s__law_pen [.lstK (ns.map D.int)] = [.val (.lstK (ns.map D.int))] := rfl
    rw [e]
    walk_at "dl"
    intro p hp
    walk_at "dl"
    refine k p _ hp ⟨(ns.take 63), 0, 0, ?_, by rw [List.length_take]; omega, by decide, by decide⟩
    have e1 : HT.sIx (ns.map D.int).length 0 Option.none = 0 := rfl
    have e2 : HT.sIx (ns.map D.int).length (ns.map D.int).length (some 63) = min 63 (ns.map D.int).length := HT.sIx_nat _ _ 63
    rw [e1, e2, List.drop_zero, Nat.sub_zero, List.length_map]
    show MO.dK penK _ = MO.dK penK _
    rw [List.map_take]
    rcases Nat.le_total 63 ns.length with g | g
    · rw [Nat.min_eq_left g]
    · rw [Nat.min_eq_right g, List.take_of_length_le (by rw [List.length_map]; omega), List.take_of_length_le (by rw [List.length_map]; omega)]


theorem sc_s__law_pick : FnScope N_s__law_pick ["_law_pen_here", "_law_items"] (defScope s__law_pick) := ⟨rfl, rfl, rfl, by decide +kernel, rfl, by decide +kernel, by decide +kernel⟩
theorem ok_pickM (T : TxtP mg) (h__law_draw : Fn P w K mg base 1 "_law_draw" ["_law_pen_here", "_law_many"] spDraw) (Df : DefAt K mg "_law_pick" ["_law_pen_here", "_law_items"] s__law_pick) : Fn P w K mg base 2 "_law_pick" ["_law_pen_here", "_law_items"] spPickM := by
  refine okF Df sc_s__law_pick (fun ds M Q E h => ?_) fun f cdv A outer s H E hr => ⟨_, (ss_one (s_ret (d_ixM (d_var 1) (d_callF h__law_draw (hr.mono (by first | decide | omega)) (a_cons (d_var 0) (a_cons (d_callB (cd_mem cd_len) rfl T.z_len (by decide +kernel) (a_cons (d_var 1) a_nil)) a_nil)))))), fun ds M Q Ed h => ?_⟩
  · obtain ⟨p, it, es, n, o, rfl, _⟩ := h
    rfl
  · obtain ⟨p, it, es, n, o, rfl, h1, h2, h3, h4, h5, h6, k⟩ := h
    have e : startD N_s__law_pick [.ref p, it] = [.val (.ref p), .val it] := rfl
    rw [e]
    have fin : ∀ (i : Int) (o' : MO), 0 ≤ i → i < es.length → PenO o' (n + 1) → ∃ r, atI es i = some r ∧ Q r (mset M p o') := fun i o' g1 g2 g3 => by
      obtain ⟨e1, r, er⟩ := atI_of g1 g2
      exact ⟨r, e1.trans er, k r o' (List.mem_of_getElem? er) g3⟩
    cases it with
    | str z =>
      have e1 : es = strD z := (Option.some.inj h1).symm
      have e2 : (es.length : Int) = z.length := by rw [e1]; unfold strD; rw [List.length_map, Array.length_toList]; rfl
      walk_at "dl"
      have hz : z.length ≤ sizeLine := by rw [sizeLine_eq]; omega
      refine ⟨hz, rfl, ?_⟩
      walk_at "dl"
      refine ⟨p, z.length, n, o, rfl, by omega, by omega, h4, h5, h6, fun i o' g1 g2 g3 => ?_⟩
      walk_at "dl"
      refine ⟨hz, ?_⟩
      obtain ⟨r, e3, q⟩ := fin i o' g1 (by omega) g3
      rw [e1] at e3
      unfold strD at e3
      cases e4 : atI z.cps.toList i with
      | none =>
        unfold atI at e3 e4
        rw [List.length_map] at e3
        cases e5 : ixN z.cps.toList.length i with
        | none => rw [e5] at e3; cases e3
        | some j =>
          rw [e5] at e3 e4
          have e6 : (z.cps.toList.map fun c => D.str ⟨#[c]⟩)[j]? = some r := e3
          rw [List.getElem?_map, show z.cps.toList[j]? = none from e4] at e6
          cases e6
      | some c =>
        walk_at "dl"
        have e7 : r = .str ⟨#[c]⟩ := by
          unfold atI at e3 e4
          rw [List.length_map] at e3
          cases e5 : ixN z.cps.toList.length i with
          | none => rw [e5] at e3; cases e3
          | some j =>
            rw [e5] at e3 e4
            have e6 : (z.cps.toList.map fun c => D.str ⟨#[c]⟩)[j]? = some r := e3
            rw [List.getElem?_map, show z.cps.toList[j]? = some c from e4] at e6
            exact (Option.some.inj e6).symm
        rw [← e7]
        exact q
    | tup ds =>
      have e1 : es = ds := (Option.some.inj h1).symm
      subst e1
      walk_at "dl"
      refine ⟨rfl, ?_⟩
      walk_at "dl"
      refine ⟨p, es.length, n, o, rfl, by omega, by omega, h4, h5, h6, fun i o' g1 g2 g3 => ?_⟩
      walk_at "dl"
      obtain ⟨r, e3, q⟩ := fin i o' g1 g2 g3
      rw [e3]
      walk_at "dl"
      exact q
    | lst ds =>
      have e1 : es = ds := (Option.some.inj h1).symm
      subst e1
      walk_at "dl"
      refine ⟨rfl, ?_⟩
      walk_at "dl"
      refine ⟨p, es.length, n, o, rfl, by omega, by omega, h4, h5, h6, fun i o' g1 g2 g3 => ?_⟩
      walk_at "dl"
      obtain ⟨r, e3, q⟩ := fin i o' g1 g2 g3
      rw [e3]
      walk_at "dl"
      exact q
    | lstK ds =>
      have e1 : es = ds := (Option.some.inj h1).symm
      subst e1
      walk_at "dl"
      refine ⟨rfl, ?_⟩
      walk_at "dl"
      refine ⟨p, es.length, n, o, rfl, by omega, by omega, h4, h5, h6, fun i o' g1 g2 g3 => ?_⟩
      walk_at "dl"
      obtain ⟨r, e3, q⟩ := fin i o' g1 g2 g3
      rw [e3]
      walk_at "dl"
      exact q
    | ref a =>
      cases hm : M a with
      | none => simp only [itemsM, rsM, hm] at h1; cases h1
      | some mo =>
        cases mo with
        | lst ds =>
          have e1 : es = ds := by
            simp only [itemsM, rsM, hm] at h1
            exact (Option.some.inj h1).symm
          subst e1
          have er : rssM [D.ref a] M = [.lst es] := by simp only [rssM, rsM, hm]
          walk_at "dl"
          rw [er]
          walk_at "dl"
          refine ⟨rfl, ?_⟩
          walk_at "dl"
          have hne : a ≠ p := fun z => by
            subst z
            rw [h5] at hm
            obtain ⟨c, x, l, e, _⟩ := h6
            rw [e] at hm
            cases hm
          refine ⟨p, es.length, n, o, rfl, by omega, by omega, h4, h5, h6, fun i o' g1 g2 g3 => ?_⟩
          walk_at "dl"
          rw [mset_ne hne, hm]
          walk_at "dl"
          obtain ⟨r, e3, q⟩ := fin i o' g1 g2 g3
          rw [e3]
          walk_at "dl"
          exact q
        | dK _ _ => simp only [itemsM, rsM, hm] at h1; cases h1
        | ins _ _ _ => simp only [itemsM, rsM, hm] at h1; cases h1
    | _ => cases h1
theorem ok_pick (T : TxtP mg) (h__law_draw : Fn P w K mg base 1 "_law_draw" ["_law_pen_here", "_law_many"] spDraw) (Df : DefAt K mg "_law_pick" ["_law_pen_here", "_law_items"] s__law_pick) : Fn P w K mg base 2 "_law_pick" ["_law_pen_here", "_law_items"] spPick := by
  refine (ok_pickM T h__law_draw Df).imp fun ds M Q E ⟨p, it, es, n, o, e, h1, r⟩ => ⟨p, it, es, n, o, e, ?_, r⟩
  cases it with
  | ref a => cases h1
  | _ => exact h1


theorem sc_s__law_signs : FnScope N_s__law_signs ["_law_pen_here", "_law_many"] (defScope s__law_signs) := ⟨rfl, rfl, rfl, by decide +kernel, rfl, by decide +kernel, by decide +kernel⟩
theorem ok_signs (T : TxtP mg) (h__law_draw : Fn P w K mg base 1 "_law_draw" ["_law_pen_here", "_law_many"] spDraw) (Df : DefAt K mg "_law_signs" ["_law_pen_here", "_law_many"] s__law_signs) : Fn P w K mg base 2 "_law_signs" ["_law_pen_here", "_law_many"] spSigns := by
  refine okF Df sc_s__law_signs (fun ds M Q E h => ?_) fun f cdv A outer s H E hr => ⟨_, (ss_cons (s_asg (d_tup (a_cons d_str (a_cons d_str a_nil))) (g_tup (n := 2) rfl (gs_cons (g_name (i := 2) sc_s__law_signs.nd) (gs_cons (g_name (i := 3) sc_s__law_signs.nd) gs_nil))))
    (ss_cons (s_for PassesOwn.never rfl (i_rng1 rfl T.z_range (a_cons (d_var 1) a_nil)) (g_name (i := 4) sc_s__law_signs.nd)
    (ss_cons (s_set (i := 5) sc_s__law_signs.nd (d_callF h__law_draw (hr.mono (by first | decide | omega)) (a_cons (d_var 0) (a_cons (d_callB cd_len rfl T.z_len PySem.boot_len (a_cons (d_var 2) a_nil)) a_nil))))
    (ss_one (s_par (i := 3) (j := 2) (ka := (.v _)) (kb := (.v _)) rfl sc_s__law_signs.nd (d_op od_add (d_var 3) (d_ix (d_var 2) (d_var 5))) (d_op od_add (d_slice (d_var 2) o_none (o_some (d_var 5))) (d_slice (d_var 2) (o_some (d_op od_add (d_var 5) d_int)) o_none))))))
    (ss_one (s_ret (d_var 3))))), fun ds M Q Ed h => ?_⟩
  · obtain ⟨p, m, n, o, rfl, _⟩ := h
    rfl
  · obtain ⟨p, m, n, o, rfl, h1, h2, h3, h4, k⟩ := h
    have e : startD N_s__law_signs [.ref p, .int (m : Nat)] = [.val (.ref p), .val (.int (m : Nat)), Sl.no, Sl.no, Sl.no, Sl.no] := rfl
    rw [e]
    walk_at "dl"
    refine ⟨by decide, ?_⟩
    walk_at "dl"
    refine ⟨rfl, ?_⟩
    walk_at "dl"
    refine ⟨⟨by omega, by omega⟩, ?_⟩
    refine forW_rng (fun i env M' => ∃ a b o' v1 v2, env = [.val (.ref p), .val (.int (m : Nat)), .val (.str (tx b)), .val (.str (tx a)), v1, v2] ∧ M' = mset M p o' ∧ PenO o' (n + i) ∧ (a ++ b).Perm lettersN ∧ (a.length : Int) = i) _ 0 ?_ ?_ _ _ ?_
    · rintro env M' ⟨a, b, o', v1, v2, rfl, rfl, g1, g2, g3⟩
      walk_at "dl"
      have e1 : (0 : Int) + ((((m : Nat) : Int).toNat : Nat) : Int) = (m : Int) := by omega
      rw [e1] at g1 g3
      exact k a o' (by omega) (signs_ok g2) g1
    · rintro i R g4 g5 hR env M' ⟨a, b, o', v1, v2, rfl, rfl, g1, g2, g3⟩
      have hl : a.length + b.length = 26 := by
        rw [← List.length_append, g2.length_eq]
        rfl
      walk_at "dl"
      refine ⟨by rw [tx_len, sizeLine_eq]; omega, ?_⟩
      walk_at "dl"
      refine ⟨p, b.length, n + i, o', rfl, by omega, by omega, by omega, by rw [mset_same], g1, fun x o2 c1 c2 c3 => ?_⟩
      have hz : (tx b).length ≤ sizeLine := by rw [tx_len, sizeLine_eq]; omega
      obtain ⟨j, rfl⟩ := Int.eq_ofNat_of_zero_le c1
      have hj : j < b.length := by omega
      obtain ⟨c, hc⟩ : ∃ c, b[j]? = some c := ⟨b[j], by simp [hj]⟩
      walk_at "dl"
      refine ⟨hz, ?_⟩
      rw [tx_cps, atI_k, hc]
      walk_at "dl"
      refine ⟨by rw [tx_len, sizeLine_eq]; show a.length + 1 ≤ _; omega, ?_⟩
      walk_at "dl"
      refine ⟨hz, ?_⟩
      walk_at "dl"
      refine ⟨hz, ?_⟩
      walk_at "dl"
      have e5 : ((j : Int) + 1) = ((j + 1 : Nat) : Int) := by omega
      rw [e5, cut_lo, cut_hi]
      refine ⟨by rw [tx_len, tx_len, sizeLine_eq, List.length_take, List.length_drop]; omega, ?_⟩
      walk_at "dl"
      rw [mset_mset]
      have e6 : tx a ++ ({ cps := #[c] } : Str) = tx (a ++ [c]) := tx_add a [c]
      rw [e6, tx_add]
      refine hR _ _ ⟨a ++ [c], b.take j ++ b.drop (j + 1), o2, _, _, rfl, rfl, ?_, signs_step g2 hc, ?_⟩
      · have e7 : n + (i + 1) = n + i + 1 := by omega
        rw [e7]
        exact c3
      · rw [List.length_append, List.length_singleton]
        omega
    · exact ⟨[], lettersN, o, .no, .no, by rw [tx_letters, tx_empty], (mset_self h3).symm, by rw [Int.add_zero]; exact h4, List.Perm.refl _, rfl⟩


theorem sc_s__law_leaf : FnScope N_s__law_leaf ["_law_pen_here", "_law_signs_here"] (defScope s__law_leaf) := ⟨rfl, rfl, rfl, by decide +kernel, rfl, by decide +kernel, by decide +kernel⟩
theorem ok_leaf (T : TxtP mg) (h__law_draw : Fn P w K mg base 1 "_law_draw" ["_law_pen_here", "_law_many"] spDraw) (h__law_pick : Fn P w K mg base 2 "_law_pick" ["_law_pen_here", "_law_items"] spPick) (Df : DefAt K mg "_law_leaf" ["_law_pen_here", "_law_signs_here"] s__law_leaf) : Fn P w K mg base 3 "_law_leaf" ["_law_pen_here", "_law_signs_here"] spLeaf := by
  refine okF Df sc_s__law_leaf (fun ds M Q E h => ?_) fun f cdv A outer s H E hr => ⟨_, (ss_cons (s_set (i := 2) sc_s__law_leaf.nd (d_callF h__law_draw (hr.mono (by first | decide | omega)) (a_cons (d_var 0) (a_cons d_int a_nil))))
    (ss_cons (s_if (d_tcmp (od_eq hr) (d_var 2) d_int (nomark _))
    (ss_one (s_ret (d_tup (a_cons d_str a_nil))))
    ss_nil)
    (ss_one (s_ret (d_ifExp (d_tcmp od_lt (d_var 2) d_int (nomark _)) (d_tup (a_cons d_str a_nil)) (d_tup (a_cons d_str (a_cons (d_callF h__law_pick (hr.mono (by first | decide | omega)) (a_cons (d_var 0) (a_cons (d_var 1) a_nil))) a_nil)))))))), fun ds M Q Ed h => ?_⟩
  · obtain ⟨p, l, n, o, rfl, _⟩ := h
    rfl
  · obtain ⟨p, l, n, o, rfl, h1, h2, h3, h4, h5, k⟩ := h
    have e : startD N_s__law_leaf [.ref p, .str (tx l)] = [.val (.ref p), .val (.str (tx l)), Sl.no] := rfl
    rw [e]
    walk_at "dl"
    refine ⟨p, 8, n, o, rfl, by omega, by omega, by omega, h4, h5, fun x o' c1 c2 c3 => ?_⟩
    walk_at "q"
    have c4 : PenO o' (n + 2) := c3.mono (by omega)
    by_cases g1 : x = 0
    · rw [decide_eq_true g1]
      walk_at "dl"
      walk_at "c"
      exact k .nothing o' rfl trivial c4
    · rw [decide_eq_false g1]
      walk_at "dl"
      by_cases g2 : x < 3
      · rw [decide_eq_true g2]
        walk_at "dl"
        walk_at "c"
        exact k .one o' rfl trivial c4
      · rw [decide_eq_false g2]
        walk_at "dl"
        refine ⟨p, .str (tx l), strD (tx l), n + 1, o', rfl, rfl, ?_, ?_, by omega, by rw [mset_same], c3, fun r o2 d1 d2 => ?_⟩
        · rw [strD_tx, List.length_map]; exact h1
        · rw [strD_tx, List.length_map]; omega
        walk_at "dl"
        walk_at "c"
        rw [strD_tx] at d1
        obtain ⟨c, hc, rfl⟩ := List.mem_map.mp d1
        rw [mset_mset]
        exact k (.letter (tx [c])) o2 rfl ⟨c, hc, rfl⟩ (d2.mono (by omega))


theorem sc_s__law_way_of : FnScope N_s__law_way_of ["_law_pen_here", "_law_signs_here", "_law_size"] (defScope s__law_way_of) := ⟨rfl, rfl, rfl, by decide +kernel, rfl, by decide +kernel, by decide +kernel⟩
theorem ok_way_of (T : TxtP mg) (h__law_draw : Fn P w K mg base 1 "_law_draw" ["_law_pen_here", "_law_many"] spDraw) (h__law_pick : Fn P w K mg base 2 "_law_pick" ["_law_pen_here", "_law_items"] spPick) (h__law_leaf : Fn P w K mg base 3 "_law_leaf" ["_law_pen_here", "_law_signs_here"] spLeaf) (Df : DefAt K mg "_law_way_of" ["_law_pen_here", "_law_signs_here", "_law_size"] s__law_way_of) (S : Nat) : Fn P w K mg base (3 + S) "_law_way_of" ["_law_pen_here", "_law_signs_here", "_law_size"] (spWayOf S) := by
  induction S with
  | zero => exact Fn.vac Df fun ds M Q E ⟨p, l, m, n, o, _, h1, h2, _⟩ => absurd h1 (by omega)
  | succ S h__law_way_of =>
  rw [show 3 + (S + 1) = (3 + S) + 1 from rfl]
  refine okF Df sc_s__law_way_of (fun ds M Q E h => ?_) fun f cdv A outer s H E hr => ⟨_, (ss_cons (s_if (d_tcmp (od_eq hr) (d_var 2) d_int (nomark _))
    (ss_one (s_ret (d_callF h__law_leaf (hr.mono (by first | decide | omega)) (a_cons (d_var 0) (a_cons (d_var 1) a_nil)))))
    ss_nil)
    (ss_cons (s_if (d_wt (w_or (d_tcmp (od_eq hr) (d_var 2) d_int (nomark _)) (w_or1 (d_tcmp (od_eq hr) (d_callF h__law_draw (hr.mono (by first | decide | omega)) (a_cons (d_var 0) (a_cons d_int a_nil))) d_int (nomark _)))))
    (ss_cons (s_set (i := 3) sc_s__law_way_of.nd (d_callF h__law_pick (hr.mono (by first | decide | omega)) (a_cons (d_var 0) (a_cons (d_lst (a_cons d_str (a_cons d_str (a_cons d_str (a_cons d_str (a_cons d_str a_nil)))))) a_nil))))
    (ss_one (s_ret (d_tup (a_cons (d_var 3) (a_cons (d_callF h__law_way_of (hr.mono (by first | decide | omega)) (a_cons (d_var 0) (a_cons (d_var 1) (a_cons (d_op od_sub (d_var 2) d_int) a_nil)))) a_nil))))))
    ss_nil)
    (ss_cons (s_par3 (i := 3) (j := 4) (l := 5) (kc := (.n _)) rfl sc_s__law_way_of.nd (d_callF h__law_pick (hr.mono (by first | decide | omega)) (a_cons (d_var 0) (a_cons (d_lst (a_cons d_str (a_cons d_str (a_cons d_str a_nil)))) a_nil))) (d_op od_sub (d_var 2) d_int) (n_lst a_nil))
    (ss_cons (s_while PassesOwn.never (d_tcmp od_gt (d_var 4) d_int (nomark _))
    (ss_cons (s_set (i := 6) sc_s__law_way_of.nd (d_and (d_neO hr 5 (d_lst a_nil)) (d_one (d_cmp (od_eq hr) (d_callF h__law_draw (hr.mono (by first | decide | omega)) (a_cons (d_var 0) (a_cons d_int a_nil))) d_int (nomark _)))))
    (ss_cons (s_set (i := 7) sc_s__law_way_of.nd (d_ifExp (d_truth (d_var 6)) (d_var 4) (d_op od_add d_int (d_callF h__law_draw (hr.mono (by first | decide | omega)) (a_cons (d_var 0) (a_cons (d_var 4) a_nil))))))
    (ss_cons (s_set (i := 7) sc_s__law_way_of.nd (d_ifExp (d_wt (w_and (d_teqO hr 5 (d_lst a_nil)) (w_and1 (d_tcmp (od_eq hr) (d_var 7) (d_var 4) (nomark _))))) (d_op od_sub (d_var 4) d_int) (d_var 7)))
    (ss_cons (s_append 5 (d_callF h__law_way_of (hr.mono (by first | decide | omega)) (a_cons (d_var 0) (a_cons (d_var 1) (a_cons (d_var 7) a_nil)))))
    (ss_one (s_set (i := 4) sc_s__law_way_of.nd (d_op od_sub (d_var 4) (d_var 7)))))))))
    (ss_one (s_ret (d_tup (a_cons (d_var 3) (a_cons (d_var 5) a_nil))))))))), fun ds M Q Ed h => ?_⟩
  · obtain ⟨p, l, m, n, o, rfl, _⟩ := h
    rfl
  · obtain ⟨p, l, m, n, o, rfl, h1, h2, hm, hl, hl1, hl2, h3, h4, h5, k⟩ := h
    have e : startD N_s__law_way_of [.ref p, .str (tx l), .int (m : Nat)] = [.val (.ref p), .val (.str (tx l)), .val (.int (m : Nat)), Sl.no, Sl.no, Sl.no, Sl.no, Sl.no] := rfl
    rw [e]
    walk_at "dl"
    walk_at "q"
    by_cases g1 : (m : Int) = 1
    · rw [decide_eq_true g1]
      walk_at "dl"
      refine ⟨p, l, n, o, rfl, hl1, hl2, by omega, h4, h5, fun w o' c1 c2 c3 => ?_⟩
      walk_at "dl"
      exact k w o' (by omega) c2 (c3.mono (by omega))
    · rw [decide_eq_false g1]
      walk_at "dl"
      walk_at "q"
      by_cases g2 : (m : Int) = 2
      · rw [decide_eq_true g2]
        walk_at "dl"
        walk_at "c"
        refine ⟨p, _, _, n, o, rfl, rfl, by decide, by decide, by omega, h4, h5, fun r o2 d1 d2 => ?_⟩
        obtain ⟨kk, rfl⟩ : ∃ kk : Un, r = .str kk.s := by
          simp only [List.mem_cons, List.not_mem_nil, or_false] at d1
          rcases d1 with rfl | rfl | rfl | rfl | rfl
          · exact ⟨.again, rfl⟩
          · exact ⟨.again, rfl⟩
          · exact ⟨.maybe, rfl⟩
          · exact ⟨.ahead, rfl⟩
          · exact ⟨.unless, rfl⟩
        walk_at "dl"
        refine ⟨p, l, m - 1, n + 1, o2, ?_, by omega, by omega, by omega, hl, hl1, hl2, by omega, by rw [mset_same], d2, fun w o3 f1 f2 f3 => ?_⟩
        · show [D.ref p, D.str (tx l), D.int ((m : Int) - 1)] = _
          rw [show (m : Int) - 1 = ((m - 1 : Nat) : Int) from by omega]
        walk_at "dl"
        walk_at "c"
        repeat rw [mset_mset]
        exact k (.un kk w) o3 (by show w.size + 1 = m; omega) f2 (f3.mono (by omega))
      · rw [decide_eq_false g2]
        walk_at "dl"
        refine ⟨p, 3, n, o, rfl, by omega, by omega, by omega, h4, h5, fun x o' c1 c2 c3 => ?_⟩
        walk_at "q"
        by_cases g3 : x = 0
        · rw [decide_eq_true g3]
          walk_at "dl"
          walk_at "c"
          refine ⟨p, _, _, (n + 1), o', rfl, rfl, by decide, by decide, by omega, mset_same, c3, fun r o2 d1 d2 => ?_⟩
          obtain ⟨kk, rfl⟩ : ∃ kk : Un, r = .str kk.s := by
            simp only [List.mem_cons, List.not_mem_nil, or_false] at d1
            rcases d1 with rfl | rfl | rfl | rfl | rfl
            · exact ⟨.again, rfl⟩
            · exact ⟨.again, rfl⟩
            · exact ⟨.maybe, rfl⟩
            · exact ⟨.ahead, rfl⟩
            · exact ⟨.unless, rfl⟩
          walk_at "dl"
          refine ⟨p, l, m - 1, (n + 1) + 1, o2, ?_, by omega, by omega, by omega, hl, hl1, hl2, by omega, by rw [mset_same], d2, fun w o3 f1 f2 f3 => ?_⟩
          · show [D.ref p, D.str (tx l), D.int ((m : Int) - 1)] = _
            rw [show (m : Int) - 1 = ((m - 1 : Nat) : Int) from by omega]
          walk_at "dl"
          walk_at "c"
          repeat rw [mset_mset]
          exact k (.un kk w) o3 (by show w.size + 1 = m; omega) f2 (f3.mono (by omega))
        · rw [decide_eq_false g3]
          walk_at "dl"
          walk_at "c"
          refine ⟨p, _, _, n + 1, o', rfl, rfl, by decide, by decide, by omega, mset_same, c3, fun r o2 d1 d2 => ?_⟩
          obtain ⟨kk, rfl⟩ : ∃ kk : Bool, r = .str (manyS kk) := by
            simp only [List.mem_cons, List.not_mem_nil, or_false] at d1
            rcases d1 with rfl | rfl | rfl
            · exact ⟨false, rfl⟩
            · exact ⟨false, rfl⟩
            · exact ⟨true, rfl⟩
          rw [mset_mset]
          walk_at "dl"
          walk_at "c"
          have hP : ∀ s, Sgn l s → PyData.strOk s = true := fun s hs => isData_of hl hs
          refine while_ind (m := m - 1) (fun lf env M' => ∃ ws o' v6 v7, env = [.val (.ref p), .val (.str (tx l)), .val (.int (m : Nat)), .val (.str (manyS kk)), .val (.int (lf : Nat)), .own (WT.dOf ws), v6, v7] ∧ M' = mset M p o' ∧ PenO o' (n + 4 * m - 2 - 4 * lf) ∧ WT.sizes ws + lf = m - 1 ∧ WT.oks (Sgn l) ws ∧ (ws.length = 1 → 0 < lf)) ?_ ?_
          · rintro lf R hR env M' ⟨ws, o3, v6, v7, rfl, rfl, f1, f2, f3, f4⟩
            walk_at "dl"
            by_cases j1 : (0 : Int) < (lf : Int)
            · rw [decide_eq_true j1]
              walk_at "dl"
              walk_at "c"
              have f5 := WT.okEqs hP ws f3 (by omega)
              have hlw : ws.length ≤ 30 := by have := WT.sizes_length ws; omega
              refine ⟨f5, okEq_nil, ?_⟩
              walk_at "dl"
              rw [deq_nil]
              cases ws with
              | nil =>
                have hs0 : WT.sizes [] = 0 := rfl
                walk_at "dl"
                refine ⟨p, lf, _, o3, rfl, j1, by omega, ?_, mset_same, f1, fun x o4 e1 e2 e3 => ?_⟩
                · omega
                obtain ⟨y, rfl⟩ := Int.eq_ofNat_of_zero_le e1
                walk_at "dl"
                walk_at "c"
                refine ⟨f5, okEq_nil, ?_⟩
                walk_at "dl"
                rw [deq_nil]
                walk_at "dl"
                walk_at "q"
                by_cases e4 : 1 + (y : Int) = (lf : Int)
                · rw [decide_eq_true e4]
                  walk_at "dl"
                  refine ⟨p, l, (lf - 1), (n + 4 * m - 2 - 4 * lf + 1), o4, (show [D.ref p, D.str (tx l), D.int ((lf : Int) - 1)] = _ from by rw [show (lf : Int) - 1 = (((lf - 1) : Nat) : Int) from by omega]), by omega, by omega, by omega, hl, hl1, hl2, by omega, mset_same, by first | assumption | exact PenO.mono (by assumption) (by omega), fun w o9 q1 q2 q3 => ?_⟩
                  walk_at "dl"
                  refine ⟨by rw [sizeLine_eq, WT.dOf_map, List.length_map]; omega, ?_⟩
                  walk_at "dl"
                  repeat rw [mset_mset]
                  refine hR (lf - (lf - 1)) _ _ (by omega) ⟨([] : List WT) ++ [w], o9, Sl.val (.bl false), .val (.int ((lf : Int) - 1)), ?_, rfl, q3.mono (by omega), by rw [WT.sizes_snoc]; omega, WT.oks_append f3 ⟨q2, trivial⟩, fun z => ?_⟩
                  · show [Sl.val (D.ref p), Sl.val (D.str (tx l)), Sl.val (D.int (m : Nat)), Sl.val (D.str (manyS kk)), Sl.val (D.int ((lf : Int) - ((lf : Int) - 1))), Sl.own (WT.dOf (([] : List WT)) ++ [w.d]), Sl.val (.bl false), Sl.val (D.int ((lf : Int) - 1))] = _
                    rw [WT.dOf_append, show (lf : Int) - ((lf : Int) - 1) = ((lf - (lf - 1) : Nat) : Int) from by omega]
                    rfl
                  · omega
                · rw [decide_eq_false e4]
                  walk_at "dl"
                  refine ⟨p, l, (1 + y), (n + 4 * m - 2 - 4 * lf + 1), o4, (show [D.ref p, D.str (tx l), D.int (1 + (y : Int))] = _ from by rw [show 1 + (y : Int) = (((1 + y) : Nat) : Int) from by omega]), by omega, by omega, by omega, hl, hl1, hl2, by omega, mset_same, by first | assumption | exact PenO.mono (by assumption) (by omega), fun w o9 q1 q2 q3 => ?_⟩
                  walk_at "dl"
                  refine ⟨by rw [sizeLine_eq, WT.dOf_map, List.length_map]; omega, ?_⟩
                  walk_at "dl"
                  repeat rw [mset_mset]
                  refine hR (lf - (1 + y)) _ _ (by omega) ⟨([] : List WT) ++ [w], o9, Sl.val (.bl false), .val (.int (1 + (y : Int))), ?_, rfl, q3.mono (by omega), by rw [WT.sizes_snoc]; omega, WT.oks_append f3 ⟨q2, trivial⟩, fun z => ?_⟩
                  · show [Sl.val (D.ref p), Sl.val (D.str (tx l)), Sl.val (D.int (m : Nat)), Sl.val (D.str (manyS kk)), Sl.val (D.int ((lf : Int) - (1 + (y : Int)))), Sl.own (WT.dOf (([] : List WT)) ++ [w.d]), Sl.val (.bl false), Sl.val (D.int (1 + (y : Int)))] = _
                    rw [WT.dOf_append, show (lf : Int) - (1 + (y : Int)) = ((lf - (1 + y) : Nat) : Int) from by omega]
                    rfl
                  · omega
              | cons w0 wr =>
                walk_at "dl"
                refine ⟨p, 2, _, o3, rfl, by decide, by decide, ?_, mset_same, f1, fun x o4 e1 e2 e3 => ?_⟩
                · omega
                walk_at "q"
                by_cases e4 : x = 0
                · rw [decide_eq_true e4]
                  walk_at "dl"
                  walk_at "c"
                  refine ⟨f5, okEq_nil, ?_⟩
                  walk_at "dl"
                  rw [deq_nil]
                  walk_at "dl"
                  refine ⟨p, l, lf, (n + 4 * m - 2 - 4 * lf + 1), o4, (show [D.ref p, D.str (tx l), D.int ((lf : Int))] = _ from by rw [show (lf : Int) = ((lf : Nat) : Int) from by omega]), by omega, by omega, by omega, hl, hl1, hl2, by omega, mset_same, by first | assumption | exact PenO.mono (by assumption) (by omega), fun w o9 q1 q2 q3 => ?_⟩
                  walk_at "dl"
                  refine ⟨by rw [sizeLine_eq, WT.dOf_map, List.length_map]; omega, ?_⟩
                  walk_at "dl"
                  repeat rw [mset_mset]
                  refine hR (lf - lf) _ _ (by omega) ⟨w0 :: wr ++ [w], o9, Sl.val (.bl true), .val (.int ((lf : Int))), ?_, rfl, q3.mono (by omega), by rw [WT.sizes_snoc]; omega, WT.oks_append f3 ⟨q2, trivial⟩, fun z => ?_⟩
                  · show [Sl.val (D.ref p), Sl.val (D.str (tx l)), Sl.val (D.int (m : Nat)), Sl.val (D.str (manyS kk)), Sl.val (D.int ((lf : Int) - ((lf : Int)))), Sl.own (WT.dOf (w0 :: wr) ++ [w.d]), Sl.val (.bl true), Sl.val (D.int ((lf : Int)))] = _
                    rw [WT.dOf_append, show (lf : Int) - ((lf : Int)) = ((lf - lf : Nat) : Int) from by omega]
                    rfl
                  · simp at z
                · rw [decide_eq_false e4]
                  walk_at "dl"
                  refine ⟨p, lf, _, o4, rfl, j1, by omega, ?_, mset_same, e3, fun x o5 e7 e8 e9 => ?_⟩
                  · omega
                  obtain ⟨y, rfl⟩ := Int.eq_ofNat_of_zero_le e7
                  walk_at "dl"
                  walk_at "c"
                  refine ⟨f5, okEq_nil, ?_⟩
                  walk_at "dl"
                  rw [deq_nil]
                  walk_at "dl"
                  refine ⟨p, l, (1 + y), (n + 4 * m - 2 - 4 * lf + 2), o5, (show [D.ref p, D.str (tx l), D.int (1 + (y : Int))] = _ from by rw [show 1 + (y : Int) = (((1 + y) : Nat) : Int) from by omega]), by omega, by omega, by omega, hl, hl1, hl2, by omega, mset_same, by first | assumption | exact PenO.mono (by assumption) (by omega), fun w o9 q1 q2 q3 => ?_⟩
                  walk_at "dl"
                  refine ⟨by rw [sizeLine_eq, WT.dOf_map, List.length_map]; omega, ?_⟩
                  walk_at "dl"
                  repeat rw [mset_mset]
                  refine hR (lf - (1 + y)) _ _ (by omega) ⟨w0 :: wr ++ [w], o9, Sl.val (.bl false), .val (.int (1 + (y : Int))), ?_, rfl, q3.mono (by omega), by rw [WT.sizes_snoc]; omega, WT.oks_append f3 ⟨q2, trivial⟩, fun z => ?_⟩
                  · show [Sl.val (D.ref p), Sl.val (D.str (tx l)), Sl.val (D.int (m : Nat)), Sl.val (D.str (manyS kk)), Sl.val (D.int ((lf : Int) - (1 + (y : Int)))), Sl.own (WT.dOf (w0 :: wr) ++ [w.d]), Sl.val (.bl false), Sl.val (D.int (1 + (y : Int)))] = _
                    rw [WT.dOf_append, show (lf : Int) - (1 + (y : Int)) = ((lf - (1 + y) : Nat) : Int) from by omega]
                    rfl
                  · simp at z

            · rw [decide_eq_false j1]
              walk_at "dl"
              walk_at "c"
              have hlen : 2 ≤ ws.length := by
                cases ws with
                | nil => unfold WT.sizes at f2; omega
                | cons w ws => cases ws with
                  | nil => have := f4 rfl; omega
                  | cons _ _ => rw [List.length_cons, List.length_cons]; omega
              exact k (.many kk ws) o3 (by show WT.sizes ws + 1 = m; omega) ⟨hlen, f3⟩ (f1.mono (by omega))
          · refine ⟨[], o2, .no, .no, ?_, rfl, d2.mono (by omega), by unfold WT.sizes; omega, trivial, fun z => by cases z⟩
            show _ = [Sl.val (.ref p), .val (.str (tx l)), .val (.int (m : Nat)), .val (.str (manyS kk)), .val (.int ((m - 1 : Nat) : Int)), .own [], .no, .no]
            rw [← show (m : Int) - 1 = ((m - 1 : Nat) : Int) from by omega]


theorem sc_s__law_way : FnScope N_s__law_way ["_law_pen_here", "_law_signs_here", "_law_most"] (defScope s__law_way) := ⟨rfl, rfl, rfl, by decide +kernel, rfl, by decide +kernel, by decide +kernel⟩
theorem ok_way (T : TxtP mg) (h__law_draw : Fn P w K mg base 1 "_law_draw" ["_law_pen_here", "_law_many"] spDraw) {S : Nat} {psw : List Str} (h__law_way_of : Fn P w K mg base (3 + S) "_law_way_of" psw (spWayOf S)) (Df : DefAt K mg "_law_way" ["_law_pen_here", "_law_signs_here", "_law_most"] s__law_way) : Fn P w K mg base (3 + S + 1) "_law_way" ["_law_pen_here", "_law_signs_here", "_law_most"] (spWay S) := by
  refine okF Df sc_s__law_way (fun ds M Q E h => ?_) fun f cdv A outer s H E hr => ⟨_, (ss_cons (s_set (i := 3) sc_s__law_way.nd (d_op od_add d_int (d_callF h__law_draw (hr.mono (by first | decide | omega)) (a_cons (d_var 0) (a_cons (d_var 2) a_nil)))))
    (ss_one (s_ret (d_callF h__law_way_of (hr.mono (by first | decide | omega)) (a_cons (d_var 0) (a_cons (d_var 1) (a_cons (d_var 3) a_nil))))))), fun ds M Q Ed h => ?_⟩
  · obtain ⟨p, l, m, n, o, rfl, _⟩ := h
    rfl
  · obtain ⟨p, l, m, n, o, rfl, h1, h2, hm, hl, hl1, hl2, h3, h4, h5, k⟩ := h
    have e : startD N_s__law_way [.ref p, .str (tx l), .int (m : Nat)] = [.val (.ref p), .val (.str (tx l)), .val (.int (m : Nat)), Sl.no] := rfl
    rw [e]
    walk_at "dl"
    refine ⟨p, m, n, o, rfl, by omega, by omega, by omega, h4, h5, fun x o' c1 c2 c3 => ?_⟩
    obtain ⟨y, rfl⟩ := Int.eq_ofNat_of_zero_le c1
    walk_at "dl"
    refine ⟨p, l, 1 + y, n + 1, o', (show [D.ref p, D.str (tx l), D.int (1 + (y : Int))] = _ from by rw [show 1 + (y : Int) = ((1 + y : Nat) : Int) from by omega]), by omega, by omega, by omega, hl, hl1, hl2, by omega, mset_same, c3, fun w o2 d1 d2 d3 => ?_⟩
    walk_at "dl"
    rw [mset_mset]
    exact k w o2 (by omega) d2 (d3.mono (by omega))


theorem sc_s__law_inner : FnScope N_s__law_inner ["_law_way_here"] (defScope s__law_inner) := ⟨rfl, rfl, rfl, by decide +kernel, rfl, by decide +kernel, by decide +kernel⟩
theorem ok_inner (T : TxtP mg) (Df : DefAt K mg "_law_inner" ["_law_way_here"] s__law_inner) : Fn P w K mg base 1 "_law_inner" ["_law_way_here"] spInner := by
  refine okF Df sc_s__law_inner (fun ds M Q E h => ?_) fun f cdv A outer s H E hr => ⟨_, (ss_cons (s_if (d_tcmp od_in (d_ix (d_var 0) d_int) (d_lst (a_cons d_str (a_cons d_str a_nil))) (by rfl))
    (ss_one (s_ret (d_ix (d_var 0) d_int)))
    ss_nil)
    (ss_one (s_ret (d_ifExp (d_tcmp od_in (d_ix (d_var 0) d_int) (d_lst (a_cons d_str (a_cons d_str (a_cons d_str (a_cons d_str a_nil))))) (by rfl)) (d_lst (a_cons (d_ix (d_var 0) d_int) a_nil)) (d_lst a_nil))))), fun ds M Q Ed h => ?_⟩
  · obtain ⟨v, rfl, _⟩ := h
    rfl
  · obtain ⟨v, rfl, k⟩ := h
    have e : startD N_s__law_inner [v.d] = [.val v.d] := rfl
    rw [e]
    cases v with
    | nothing => unfold WT.d; walk_at "a"; exact k
    | one => unfold WT.d; walk_at "a"; exact k
    | letter s => unfold WT.d; walk_at "a"; exact k
    | call s => unfold WT.d; walk_at "a"; exact k
    | un kk v => unfold WT.d; cases kk <;> (walk_at "a"; exact k)
    | many c ws => unfold WT.d; cases c <;> (walk_at "a"; rw [WT.dOf_map]; exact k)


theorem sc_s_Way___init__ : FnScope N_s_Way___init__ ["self", "word", "sign", "inner"] (defScope s_Way___init__) := ⟨rfl, rfl, rfl, by decide +kernel, rfl, by decide +kernel, by decide +kernel⟩
theorem ok_Way_init (T : TxtP mg) {C f : Addr} (hF : ∀ n ∈ fldN, FldOk K C n) (Df : MethAt K "__init__" "Way.__init__" ["self", "word", "sign", "inner"] s_Way___init__ f) : ∃ fd, FnOk P w K mg base CX0 1 f fd ["self", "word", "sign", "inner"] (LSp K (spWayInit C)) ∧ Binds K fd ["self", "word", "sign", "inner"] [] := by
  obtain ⟨fd, G, hb⟩ := Df.ex
  refine ⟨fd, okD G sc_s_Way___init__ (fun ds M Q E h => ?_) fun cdv A outer s H E hr => ⟨_, (ss_cons (s_fld (d_var 0) (d_var 1))
    (ss_cons (s_fld (d_var 0) (d_var 2))
    (ss_one (s_fld (d_var 0) (d_callTy cd_tuple rfl T.z_tuple (by decide +kernel) (a_cons (d_var 3) a_nil)))))), fun ds M Q Ed h => ?_⟩, hb⟩
  · obtain ⟨x, a, b, it, es, rfl, _⟩ := h
    rfl
  · obtain ⟨x, a, b, it, es, rfl, h1, h2, k⟩ := h
    have e : startD N_s_Way___init__ [.ref x, a, b, it] = [.val (.ref x), .val a, .val b, .val it] := rfl
    rw [e]
    walk_at "dl"
    rw [h1]
    walk_at "dl"
    refine ⟨hF _ (by decide +kernel), by decide, ?_⟩
    walk_at "dl"
    rw [mset_same]
    walk_at "dl"
    refine ⟨hF _ (by decide +kernel), by show 1 < 1000; decide, ?_⟩
    walk_at "dl"
    rw [h2]
    walk_at "dl"
    rw [mset_mset, mset_same]
    walk_at "dl"
    rw [mset_mset]
    have e1 : fputN "sign" (fputN "word" []) = ([("word" : Str), "sign"] : List Str) := by decide +kernel
    have e2 : fputD "sign" b (fputN "word" []) (fputD "word" a [] []) = [a, b] := by
      exact fputD_new (ns := [("word" : Str)]) (xs := [a]) (by decide +kernel) rfl
    have e3 : fputN "inner" ([("word" : Str), "sign"] : List Str) = wayN := by decide +kernel
    have e4 : fputD "inner" (.tup es) ([("word" : Str), "sign"] : List Str) [a, b] = [a, b, .tup es] := fputD_new (by decide +kernel) rfl
    rw [e1, e2]
    refine ⟨hF _ (by decide +kernel), by show 2 < 1000; decide, ?_⟩
    walk_at "dl"
    rw [e3, e4]
    exact k


theorem sc_s_Letter___init__ : NdefX.NScope N_s_Letter___init__ ["self", "letter"] ["__class__"] (defScope s_Letter___init__) := NdefX.nscope_by (by decide +kernel)
theorem ok_Letter_init (T : TxtP mg) {C f f2 : Addr} {fd2 : FuncData} (hF : ∀ n ∈ fldN, FldOk K C n) (Df : SupAt P K C "__init__" "Letter.__init__" ["self", "letter"] s_Letter___init__ f f2) (F2 : FnOk P w K mg base CX0 1 f2 fd2 ["self", "word", "sign", "inner"] (LSp K (spWayInit C))) (B2 : Binds K fd2 ["self", "word", "sign", "inner"] []) : ∃ fd, FnOk P w K mg base CX0 2 f fd ["self", "letter"] (LSp K (spInit C (gLeaf "letter" "letter"))) ∧ Binds K fd ["self", "letter"] [] := by
  obtain ⟨cc, cda, fd, G, Sk, hb⟩ := Df.ex
  refine ⟨fd, okSup (k := 1) (sp2 := spWayInit C) G rfl sc_s_Letter___init__ rfl rfl rfl rfl rfl T.z_super rfl Sk (FnR_of F2 B2) (fun ds M Q E h => ?_) (fun A outer s H E hr => ⟨_, _, (a_cons d_str (a_cons (d_var 1) (a_cons (d_tup a_nil) a_nil))), (ss_one (s_fld (d_var 0) (d_var 1))), fun ds M Q Ed h => ?_⟩), hb⟩
  · obtain ⟨x, args, ns, es, rfl, h1, h2, k⟩ := h
    obtain ⟨d, rfl⟩ : ∃ d, args = [d] := by
      match args, h2 with
      | [d], _ => exact ⟨d, rfl⟩
    rfl
  · obtain ⟨x, args, ns, es, rfl, h1, h2, k⟩ := h
    obtain ⟨d, rfl⟩ : ∃ d, args = [d] := by
      match args, h2 with
      | [d], _ => exact ⟨d, rfl⟩
    cases h2
    have e : startD N_s_Letter___init__ [.ref x, d] = [.val (.ref x), .val d, .no] := rfl
    rw [e]
    walk_at "dl"
    rw [h1]
    walk_at "dl"
    refine ⟨rfl, ?_⟩
    walk_at "dl"
    walk_at "c"
    refine ⟨x, _, _, _, _, rfl, h1, rfl, ?_⟩
    walk_at "dl"
    rw [mset_same]
    walk_at "dl"
    refine ⟨hF _ (by decide +kernel), by decide, ?_⟩
    walk_at "dl"
    rw [mset_mset, fputN_new (by decide +kernel), fputD_w (by decide +kernel)]
    exact k


theorem sc_s_One___init__ : NdefX.NScope N_s_One___init__ ["self"] ["__class__"] (defScope s_One___init__) := NdefX.nscope_by (by decide +kernel)
theorem ok_One_init (T : TxtP mg) {C f f2 : Addr} {fd2 : FuncData} (hF : ∀ n ∈ fldN, FldOk K C n) (Df : SupAt P K C "__init__" "One.__init__" ["self"] s_One___init__ f f2) (F2 : FnOk P w K mg base CX0 1 f2 fd2 ["self", "word", "sign", "inner"] (LSp K (spWayInit C))) (B2 : Binds K fd2 ["self", "word", "sign", "inner"] []) : ∃ fd, FnOk P w K mg base CX0 2 f fd ["self"] (LSp K (spInit C (gBare "one"))) ∧ Binds K fd ["self"] [] := by
  obtain ⟨cc, cda, fd, G, Sk, hb⟩ := Df.ex
  refine ⟨fd, okSup (k := 1) (sp2 := spWayInit C) G rfl sc_s_One___init__ rfl rfl rfl rfl rfl T.z_super rfl Sk (FnR_of F2 B2) (fun ds M Q E h => ?_) (fun A outer s H E hr => ⟨_, _, (a_cons d_str (a_cons d_str (a_cons (d_tup a_nil) a_nil))), ss_nil, fun ds M Q Ed h => ?_⟩), hb⟩
  · obtain ⟨x, args, ns, es, rfl, h1, h2, k⟩ := h
    obtain rfl : args = [] := by
      match args, h2 with
      | [], _ => rfl
    rfl
  · obtain ⟨x, args, ns, es, rfl, h1, h2, k⟩ := h
    obtain rfl : args = [] := by
      match args, h2 with
      | [], _ => rfl
    cases h2
    have e : startD N_s_One___init__ [.ref x] = [.val (.ref x), .no] := rfl
    rw [e]
    walk_at "dl"
    rw [h1]
    walk_at "dl"
    refine ⟨rfl, ?_⟩
    walk_at "dl"
    walk_at "c"
    refine ⟨x, _, _, _, _, rfl, h1, rfl, ?_⟩
    walk_at "dl"
    exact k


theorem sc_s_Nothing___init__ : NdefX.NScope N_s_Nothing___init__ ["self"] ["__class__"] (defScope s_Nothing___init__) := NdefX.nscope_by (by decide +kernel)
theorem ok_Nothing_init (T : TxtP mg) {C f f2 : Addr} {fd2 : FuncData} (hF : ∀ n ∈ fldN, FldOk K C n) (Df : SupAt P K C "__init__" "Nothing.__init__" ["self"] s_Nothing___init__ f f2) (F2 : FnOk P w K mg base CX0 1 f2 fd2 ["self", "word", "sign", "inner"] (LSp K (spWayInit C))) (B2 : Binds K fd2 ["self", "word", "sign", "inner"] []) : ∃ fd, FnOk P w K mg base CX0 2 f fd ["self"] (LSp K (spInit C (gBare "nothing"))) ∧ Binds K fd ["self"] [] := by
  obtain ⟨cc, cda, fd, G, Sk, hb⟩ := Df.ex
  refine ⟨fd, okSup (k := 1) (sp2 := spWayInit C) G rfl sc_s_Nothing___init__ rfl rfl rfl rfl rfl T.z_super rfl Sk (FnR_of F2 B2) (fun ds M Q E h => ?_) (fun A outer s H E hr => ⟨_, _, (a_cons d_str (a_cons d_str (a_cons (d_tup a_nil) a_nil))), ss_nil, fun ds M Q Ed h => ?_⟩), hb⟩
  · obtain ⟨x, args, ns, es, rfl, h1, h2, k⟩ := h
    obtain rfl : args = [] := by
      match args, h2 with
      | [], _ => rfl
    rfl
  · obtain ⟨x, args, ns, es, rfl, h1, h2, k⟩ := h
    obtain rfl : args = [] := by
      match args, h2 with
      | [], _ => rfl
    cases h2
    have e : startD N_s_Nothing___init__ [.ref x] = [.val (.ref x), .no] := rfl
    rw [e]
    walk_at "dl"
    rw [h1]
    walk_at "dl"
    refine ⟨rfl, ?_⟩
    walk_at "dl"
    walk_at "c"
    refine ⟨x, _, _, _, _, rfl, h1, rfl, ?_⟩
    walk_at "dl"
    exact k


theorem sc_s_Row___init__ : NdefX.NScope N_s_Row___init__ ["self", "ways"] ["__class__"] (defScope s_Row___init__) := NdefX.nscope_by (by decide +kernel)
theorem ok_Row_init (T : TxtP mg) {C f f2 : Addr} {fd2 : FuncData} (hF : ∀ n ∈ fldN, FldOk K C n) (Df : SupAt P K C "__init__" "Row.__init__" ["self", "ways"] s_Row___init__ f f2) (F2 : FnOk P w K mg base CX0 1 f2 fd2 ["self", "word", "sign", "inner"] (LSp K (spWayInit C))) (B2 : Binds K fd2 ["self", "word", "sign", "inner"] []) : ∃ fd, FnOk P w K mg base CX0 2 f fd ["self", "ways"] (LSp K (spInit C (gMany "row"))) ∧ Binds K fd ["self", "ways"] [] := by
  obtain ⟨cc, cda, fd, G, Sk, hb⟩ := Df.ex
  refine ⟨fd, okSup (k := 1) (sp2 := spWayInit C) G rfl sc_s_Row___init__ rfl rfl rfl rfl rfl T.z_super rfl Sk (FnR_of F2 B2) (fun ds M Q E h => ?_) (fun A outer s H E hr => ⟨_, _, (a_cons d_str (a_cons d_str (a_cons (d_var 1) a_nil))), (ss_one (s_fld (d_var 0) (d_fld (d_var 0)))), fun ds M Q Ed h => ?_⟩), hb⟩
  · obtain ⟨x, args, ns, es, rfl, h1, h2, k⟩ := h
    obtain ⟨d, rfl⟩ : ∃ d, args = [d] := by
      match args, h2 with
      | [d], _ => exact ⟨d, rfl⟩
    rfl
  · obtain ⟨x, args, ns, es, rfl, h1, h2, k⟩ := h
    obtain ⟨d, rfl⟩ : ∃ d, args = [d] := by
      match args, h2 with
      | [d], _ => exact ⟨d, rfl⟩
    have e : startD N_s_Row___init__ [.ref x, d] = [.val (.ref x), .val d, .no] := rfl
    rw [e]
    cases hs : seqD d with
    | none =>
      have h3 : (match seqD d with | some es => some (wayN ++ [("ways" : Str)], [_, _, .tup es, .tup es]) | none => none) = some (ns, es) := h2
      rw [hs] at h3
      cases h3
    | some ys =>
    have h3 : (match seqD d with | some es => some (wayN ++ [("ways" : Str)], [_, _, .tup es, .tup es]) | none => none) = some (ns, es) := h2
    rw [hs] at h3
    cases h3
    walk_at "dl"
    rw [h1]
    walk_at "dl"
    refine ⟨rfl, ?_⟩
    walk_at "dl"
    refine ⟨x, _, _, _, _, rfl, h1, hs, ?_⟩
    walk_at "dl"
    rw [insD_ref mset_same]
    walk_at "dl"
    refine ⟨hF _ (by decide +kernel), ?_⟩
    rw [fget_i0]
    walk_at "dl"
    rw [mset_same]
    walk_at "dl"
    refine ⟨hF _ (by decide +kernel), by decide, ?_⟩
    walk_at "dl"
    rw [mset_mset, fputN_new (by decide +kernel), fputD_w (by decide +kernel)]
    exact k


theorem sc_s_Choice___init__ : NdefX.NScope N_s_Choice___init__ ["self", "ways"] ["__class__"] (defScope s_Choice___init__) := NdefX.nscope_by (by decide +kernel)
theorem ok_Choice_init (T : TxtP mg) {C f f2 : Addr} {fd2 : FuncData} (hF : ∀ n ∈ fldN, FldOk K C n) (Df : SupAt P K C "__init__" "Choice.__init__" ["self", "ways"] s_Choice___init__ f f2) (F2 : FnOk P w K mg base CX0 1 f2 fd2 ["self", "word", "sign", "inner"] (LSp K (spWayInit C))) (B2 : Binds K fd2 ["self", "word", "sign", "inner"] []) : ∃ fd, FnOk P w K mg base CX0 2 f fd ["self", "ways"] (LSp K (spInit C (gMany "choice"))) ∧ Binds K fd ["self", "ways"] [] := by
  obtain ⟨cc, cda, fd, G, Sk, hb⟩ := Df.ex
  refine ⟨fd, okSup (k := 1) (sp2 := spWayInit C) G rfl sc_s_Choice___init__ rfl rfl rfl rfl rfl T.z_super rfl Sk (FnR_of F2 B2) (fun ds M Q E h => ?_) (fun A outer s H E hr => ⟨_, _, (a_cons d_str (a_cons d_str (a_cons (d_var 1) a_nil))), (ss_one (s_fld (d_var 0) (d_fld (d_var 0)))), fun ds M Q Ed h => ?_⟩), hb⟩
  · obtain ⟨x, args, ns, es, rfl, h1, h2, k⟩ := h
    obtain ⟨d, rfl⟩ : ∃ d, args = [d] := by
      match args, h2 with
      | [d], _ => exact ⟨d, rfl⟩
    rfl
  · obtain ⟨x, args, ns, es, rfl, h1, h2, k⟩ := h
    obtain ⟨d, rfl⟩ : ∃ d, args = [d] := by
      match args, h2 with
      | [d], _ => exact ⟨d, rfl⟩
    have e : startD N_s_Choice___init__ [.ref x, d] = [.val (.ref x), .val d, .no] := rfl
    rw [e]
    cases hs : seqD d with
    | none =>
      have h3 : (match seqD d with | some es => some (wayN ++ [("ways" : Str)], [_, _, .tup es, .tup es]) | none => none) = some (ns, es) := h2
      rw [hs] at h3
      cases h3
    | some ys =>
    have h3 : (match seqD d with | some es => some (wayN ++ [("ways" : Str)], [_, _, .tup es, .tup es]) | none => none) = some (ns, es) := h2
    rw [hs] at h3
    cases h3
    walk_at "dl"
    rw [h1]
    walk_at "dl"
    refine ⟨rfl, ?_⟩
    walk_at "dl"
    refine ⟨x, _, _, _, _, rfl, h1, hs, ?_⟩
    walk_at "dl"
    rw [insD_ref mset_same]
    walk_at "dl"
    refine ⟨hF _ (by decide +kernel), ?_⟩
    rw [fget_i0]
    walk_at "dl"
    rw [mset_same]
    walk_at "dl"
    refine ⟨hF _ (by decide +kernel), by decide, ?_⟩
    walk_at "dl"
    rw [mset_mset, fputN_new (by decide +kernel), fputD_w (by decide +kernel)]
    exact k


theorem sc_s_Again___init__ : NdefX.NScope N_s_Again___init__ ["self", "part"] ["__class__"] (defScope s_Again___init__) := NdefX.nscope_by (by decide +kernel)
theorem ok_Again_init (T : TxtP mg) {C f f2 : Addr} {fd2 : FuncData} (hF : ∀ n ∈ fldN, FldOk K C n) (Df : SupAt P K C "__init__" "Again.__init__" ["self", "part"] s_Again___init__ f f2) (F2 : FnOk P w K mg base CX0 1 f2 fd2 ["self", "word", "sign", "inner"] (LSp K (spWayInit C))) (B2 : Binds K fd2 ["self", "word", "sign", "inner"] []) : ∃ fd, FnOk P w K mg base CX0 2 f fd ["self", "part"] (LSp K (spInit C (gUn "again"))) ∧ Binds K fd ["self", "part"] [] := by
  obtain ⟨cc, cda, fd, G, Sk, hb⟩ := Df.ex
  refine ⟨fd, okSup (k := 1) (sp2 := spWayInit C) G rfl sc_s_Again___init__ rfl rfl rfl rfl rfl T.z_super rfl Sk (FnR_of F2 B2) (fun ds M Q E h => ?_) (fun A outer s H E hr => ⟨_, _, (a_cons d_str (a_cons d_str (a_cons (d_tup (a_cons (d_var 1) a_nil)) a_nil))), (ss_one (s_fld (d_var 0) (d_var 1))), fun ds M Q Ed h => ?_⟩), hb⟩
  · obtain ⟨x, args, ns, es, rfl, h1, h2, k⟩ := h
    obtain ⟨d, rfl⟩ : ∃ d, args = [d] := by
      match args, h2 with
      | [d], _ => exact ⟨d, rfl⟩
    rfl
  · obtain ⟨x, args, ns, es, rfl, h1, h2, k⟩ := h
    obtain ⟨d, rfl⟩ : ∃ d, args = [d] := by
      match args, h2 with
      | [d], _ => exact ⟨d, rfl⟩
    cases h2
    have e : startD N_s_Again___init__ [.ref x, d] = [.val (.ref x), .val d, .no] := rfl
    rw [e]
    walk_at "dl"
    rw [h1]
    walk_at "dl"
    refine ⟨rfl, ?_⟩
    walk_at "dl"
    walk_at "c"
    refine ⟨x, _, _, _, _, rfl, h1, rfl, ?_⟩
    walk_at "dl"
    rw [mset_same]
    walk_at "dl"
    refine ⟨hF _ (by decide +kernel), by decide, ?_⟩
    walk_at "dl"
    rw [mset_mset, fputN_new (by decide +kernel), fputD_w (by decide +kernel)]
    exact k


theorem sc_s_Maybe___init__ : NdefX.NScope N_s_Maybe___init__ ["self", "part"] ["__class__"] (defScope s_Maybe___init__) := NdefX.nscope_by (by decide +kernel)
theorem ok_Maybe_init (T : TxtP mg) {C f f2 : Addr} {fd2 : FuncData} (hF : ∀ n ∈ fldN, FldOk K C n) (Df : SupAt P K C "__init__" "Maybe.__init__" ["self", "part"] s_Maybe___init__ f f2) (F2 : FnOk P w K mg base CX0 1 f2 fd2 ["self", "word", "sign", "inner"] (LSp K (spWayInit C))) (B2 : Binds K fd2 ["self", "word", "sign", "inner"] []) : ∃ fd, FnOk P w K mg base CX0 2 f fd ["self", "part"] (LSp K (spInit C (gUn "maybe"))) ∧ Binds K fd ["self", "part"] [] := by
  obtain ⟨cc, cda, fd, G, Sk, hb⟩ := Df.ex
  refine ⟨fd, okSup (k := 1) (sp2 := spWayInit C) G rfl sc_s_Maybe___init__ rfl rfl rfl rfl rfl T.z_super rfl Sk (FnR_of F2 B2) (fun ds M Q E h => ?_) (fun A outer s H E hr => ⟨_, _, (a_cons d_str (a_cons d_str (a_cons (d_tup (a_cons (d_var 1) a_nil)) a_nil))), (ss_one (s_fld (d_var 0) (d_var 1))), fun ds M Q Ed h => ?_⟩), hb⟩
  · obtain ⟨x, args, ns, es, rfl, h1, h2, k⟩ := h
    obtain ⟨d, rfl⟩ : ∃ d, args = [d] := by
      match args, h2 with
      | [d], _ => exact ⟨d, rfl⟩
    rfl
  · obtain ⟨x, args, ns, es, rfl, h1, h2, k⟩ := h
    obtain ⟨d, rfl⟩ : ∃ d, args = [d] := by
      match args, h2 with
      | [d], _ => exact ⟨d, rfl⟩
    cases h2
    have e : startD N_s_Maybe___init__ [.ref x, d] = [.val (.ref x), .val d, .no] := rfl
    rw [e]
    walk_at "dl"
    rw [h1]
    walk_at "dl"
    refine ⟨rfl, ?_⟩
    walk_at "dl"
    walk_at "c"
    refine ⟨x, _, _, _, _, rfl, h1, rfl, ?_⟩
    walk_at "dl"
    rw [mset_same]
    walk_at "dl"
    refine ⟨hF _ (by decide +kernel), by decide, ?_⟩
    walk_at "dl"
    rw [mset_mset, fputN_new (by decide +kernel), fputD_w (by decide +kernel)]
    exact k


theorem sc_s_Ahead___init__ : NdefX.NScope N_s_Ahead___init__ ["self", "part"] ["__class__"] (defScope s_Ahead___init__) := NdefX.nscope_by (by decide +kernel)
theorem ok_Ahead_init (T : TxtP mg) {C f f2 : Addr} {fd2 : FuncData} (hF : ∀ n ∈ fldN, FldOk K C n) (Df : SupAt P K C "__init__" "Ahead.__init__" ["self", "part"] s_Ahead___init__ f f2) (F2 : FnOk P w K mg base CX0 1 f2 fd2 ["self", "word", "sign", "inner"] (LSp K (spWayInit C))) (B2 : Binds K fd2 ["self", "word", "sign", "inner"] []) : ∃ fd, FnOk P w K mg base CX0 2 f fd ["self", "part"] (LSp K (spInit C (gUn "ahead"))) ∧ Binds K fd ["self", "part"] [] := by
  obtain ⟨cc, cda, fd, G, Sk, hb⟩ := Df.ex
  refine ⟨fd, okSup (k := 1) (sp2 := spWayInit C) G rfl sc_s_Ahead___init__ rfl rfl rfl rfl rfl T.z_super rfl Sk (FnR_of F2 B2) (fun ds M Q E h => ?_) (fun A outer s H E hr => ⟨_, _, (a_cons d_str (a_cons d_str (a_cons (d_tup (a_cons (d_var 1) a_nil)) a_nil))), (ss_one (s_fld (d_var 0) (d_var 1))), fun ds M Q Ed h => ?_⟩), hb⟩
  · obtain ⟨x, args, ns, es, rfl, h1, h2, k⟩ := h
    obtain ⟨d, rfl⟩ : ∃ d, args = [d] := by
      match args, h2 with
      | [d], _ => exact ⟨d, rfl⟩
    rfl
  · obtain ⟨x, args, ns, es, rfl, h1, h2, k⟩ := h
    obtain ⟨d, rfl⟩ : ∃ d, args = [d] := by
      match args, h2 with
      | [d], _ => exact ⟨d, rfl⟩
    cases h2
    have e : startD N_s_Ahead___init__ [.ref x, d] = [.val (.ref x), .val d, .no] := rfl
    rw [e]
    walk_at "dl"
    rw [h1]
    walk_at "dl"
    refine ⟨rfl, ?_⟩
    walk_at "dl"
    walk_at "c"
    refine ⟨x, _, _, _, _, rfl, h1, rfl, ?_⟩
    walk_at "dl"
    rw [mset_same]
    walk_at "dl"
    refine ⟨hF _ (by decide +kernel), by decide, ?_⟩
    walk_at "dl"
    rw [mset_mset, fputN_new (by decide +kernel), fputD_w (by decide +kernel)]
    exact k


theorem sc_s_Unless___init__ : NdefX.NScope N_s_Unless___init__ ["self", "part"] ["__class__"] (defScope s_Unless___init__) := NdefX.nscope_by (by decide +kernel)
theorem ok_Unless_init (T : TxtP mg) {C f f2 : Addr} {fd2 : FuncData} (hF : ∀ n ∈ fldN, FldOk K C n) (Df : SupAt P K C "__init__" "Unless.__init__" ["self", "part"] s_Unless___init__ f f2) (F2 : FnOk P w K mg base CX0 1 f2 fd2 ["self", "word", "sign", "inner"] (LSp K (spWayInit C))) (B2 : Binds K fd2 ["self", "word", "sign", "inner"] []) : ∃ fd, FnOk P w K mg base CX0 2 f fd ["self", "part"] (LSp K (spInit C (gUn "unless"))) ∧ Binds K fd ["self", "part"] [] := by
  obtain ⟨cc, cda, fd, G, Sk, hb⟩ := Df.ex
  refine ⟨fd, okSup (k := 1) (sp2 := spWayInit C) G rfl sc_s_Unless___init__ rfl rfl rfl rfl rfl T.z_super rfl Sk (FnR_of F2 B2) (fun ds M Q E h => ?_) (fun A outer s H E hr => ⟨_, _, (a_cons d_str (a_cons d_str (a_cons (d_tup (a_cons (d_var 1) a_nil)) a_nil))), (ss_one (s_fld (d_var 0) (d_var 1))), fun ds M Q Ed h => ?_⟩), hb⟩
  · obtain ⟨x, args, ns, es, rfl, h1, h2, k⟩ := h
    obtain ⟨d, rfl⟩ : ∃ d, args = [d] := by
      match args, h2 with
      | [d], _ => exact ⟨d, rfl⟩
    rfl
  · obtain ⟨x, args, ns, es, rfl, h1, h2, k⟩ := h
    obtain ⟨d, rfl⟩ : ∃ d, args = [d] := by
      match args, h2 with
      | [d], _ => exact ⟨d, rfl⟩
    cases h2
    have e : startD N_s_Unless___init__ [.ref x, d] = [.val (.ref x), .val d, .no] := rfl
    rw [e]
    walk_at "dl"
    rw [h1]
    walk_at "dl"
    refine ⟨rfl, ?_⟩
    walk_at "dl"
    walk_at "c"
    refine ⟨x, _, _, _, _, rfl, h1, rfl, ?_⟩
    walk_at "dl"
    rw [mset_same]
    walk_at "dl"
    refine ⟨hF _ (by decide +kernel), by decide, ?_⟩
    walk_at "dl"
    rw [mset_mset, fputN_new (by decide +kernel), fputD_w (by decide +kernel)]
    exact k


theorem sc_s_Call___init__ : NdefX.NScope N_s_Call___init__ ["self", "name"] ["__class__"] (defScope s_Call___init__) := NdefX.nscope_by (by decide +kernel)
theorem ok_Call_init (T : TxtP mg) {C f f2 : Addr} {fd2 : FuncData} (hF : ∀ n ∈ fldN, FldOk K C n) (Df : SupAt P K C "__init__" "Call.__init__" ["self", "name"] s_Call___init__ f f2) (F2 : FnOk P w K mg base CX0 1 f2 fd2 ["self", "word", "sign", "inner"] (LSp K (spWayInit C))) (B2 : Binds K fd2 ["self", "word", "sign", "inner"] []) : ∃ fd, FnOk P w K mg base CX0 2 f fd ["self", "name"] (LSp K (spInit C (gLeaf "call" "name"))) ∧ Binds K fd ["self", "name"] [] := by
  obtain ⟨cc, cda, fd, G, Sk, hb⟩ := Df.ex
  refine ⟨fd, okSup (k := 1) (sp2 := spWayInit C) G rfl sc_s_Call___init__ rfl rfl rfl rfl rfl T.z_super rfl Sk (FnR_of F2 B2) (fun ds M Q E h => ?_) (fun A outer s H E hr => ⟨_, _, (a_cons d_str (a_cons (d_var 1) (a_cons (d_tup a_nil) a_nil))), (ss_one (s_fld (d_var 0) (d_var 1))), fun ds M Q Ed h => ?_⟩), hb⟩
  · obtain ⟨x, args, ns, es, rfl, h1, h2, k⟩ := h
    obtain ⟨d, rfl⟩ : ∃ d, args = [d] := by
      match args, h2 with
      | [d], _ => exact ⟨d, rfl⟩
    rfl
  · obtain ⟨x, args, ns, es, rfl, h1, h2, k⟩ := h
    obtain ⟨d, rfl⟩ : ∃ d, args = [d] := by
      match args, h2 with
      | [d], _ => exact ⟨d, rfl⟩
    cases h2
    have e : startD N_s_Call___init__ [.ref x, d] = [.val (.ref x), .val d, .no] := rfl
    rw [e]
    walk_at "dl"
    rw [h1]
    walk_at "dl"
    refine ⟨rfl, ?_⟩
    walk_at "dl"
    walk_at "c"
    refine ⟨x, _, _, _, _, rfl, h1, rfl, ?_⟩
    walk_at "dl"
    rw [mset_same]
    walk_at "dl"
    refine ⟨hF _ (by decide +kernel), by decide, ?_⟩
    walk_at "dl"
    rw [mset_mset, fputN_new (by decide +kernel), fputD_w (by decide +kernel)]
    exact k


theorem sc_s__law_made : FnScope N_s__law_made ["_law_way_here"] (defScope s__law_made) := ⟨rfl, rfl, rfl, by decide +kernel, rfl, by decide +kernel, by decide +kernel⟩
theorem ok_made (T : TxtP mg) {W : WA} (hW : WCl P w K mg base W) (h__law_inner : Fn P w K mg base 1 "_law_inner" ["_law_way_here"] spInner) (Df : DefAt K mg "_law_made" ["_law_way_here"] s__law_made) (S : Nat) : Fn P w K mg base (3 + S) "_law_made" ["_law_way_here"] (spMade W S) := by
  have h_Letter := hW.c_letter
  have h_Call := hW.c_call
  have h_One := hW.c_one
  have h_Nothing := hW.c_nothing
  have h_Again := hW.c_again
  have h_Maybe := hW.c_maybe
  have h_Ahead := hW.c_ahead
  have h_Unless := hW.c_unless
  have h_Row := hW.c_row
  have h_Choice := hW.c_choice
  induction S with
  | zero => exact Fn.vac Df fun ds M Q E ⟨v, _, h1, _⟩ => absurd v.size_pos (by omega)
  | succ S h__law_made =>
  rw [show 3 + (S + 1) = (3 + S) + 1 from rfl]
  refine okF Df sc_s__law_made (fun ds M Q E h => ?_) fun f cdv A outer s H E hr => ⟨_, (ss_cons (s_if (d_tcmp od_in (d_ix (d_var 0) d_int) (d_lst (a_cons d_str (a_cons d_str a_nil))) (by rfl))
    (ss_one (s_ret (d_ifExp (d_tcmp (od_eq hr) (d_ix (d_var 0) d_int) d_str (nomark _)) (d_makeC h_Letter (hr.mono (by first | decide | omega)) (a_cons (d_ix (d_var 0) d_int) a_nil)) (d_makeC h_Call (hr.mono (by first | decide | omega)) (a_cons (d_ix (d_var 0) d_int) a_nil)))))
    ss_nil)
    (ss_cons (s_if (d_tcmp od_in (d_ix (d_var 0) d_int) (d_lst (a_cons d_str (a_cons d_str a_nil))) (by rfl))
    (ss_one (s_ret (d_ifExp (d_tcmp (od_eq hr) (d_ix (d_var 0) d_int) d_str (nomark _)) (d_makeC0 h_One (hr.mono (by first | decide | omega))) (d_makeC0 h_Nothing (hr.mono (by first | decide | omega))))))
    ss_nil)
    (ss_cons (s_setLc (i := 1) (own := [("_law_one", 2)]) rfl sc_s__law_made.nd rfl rfl (sw_true rfl rfl rfl (by decide +kernel)) (i_any (d_callF h__law_inner (hr.mono (by first | decide | omega)) (a_cons (d_var 0) a_nil))) (blkOk_by (N := N_s__law_made) (sc := defScope s__law_made) (by decide +kernel)) (fun _ _ _ _ _ => (gw_name (i := 2) (by decide) sc_s__law_made.nd)) (fun _ _ _ _ _ => ts_nil) (fun _ _ _ _ _ => (d_callF h__law_made (hr.mono (by first | decide | omega)) (a_cons (d_var 2) a_nil))))
    (ss_cons (s_if (d_tcmp od_in (d_ix (d_var 0) d_int) (d_lst (a_cons d_str (a_cons d_str a_nil))) (by rfl))
    (ss_one (s_ret (d_ifExp (d_tcmp (od_eq hr) (d_ix (d_var 0) d_int) d_str (nomark _)) (d_makeC h_Row (hr.mono (by first | decide | omega)) (a_cons (d_var 1) a_nil)) (d_makeC h_Choice (hr.mono (by first | decide | omega)) (a_cons (d_var 1) a_nil)))))
    ss_nil)
    (ss_cons (s_if (d_tcmp od_in (d_ix (d_var 0) d_int) (d_lst (a_cons d_str (a_cons d_str a_nil))) (by rfl))
    (ss_one (s_ret (d_ifExp (d_tcmp (od_eq hr) (d_ix (d_var 0) d_int) d_str (nomark _)) (d_makeC h_Again (hr.mono (by first | decide | omega)) (a_cons (d_ix (d_var 1) d_int) a_nil)) (d_makeC h_Maybe (hr.mono (by first | decide | omega)) (a_cons (d_ix (d_var 1) d_int) a_nil)))))
    ss_nil)
    (ss_one (s_ret (d_ifExp (d_tcmp (od_eq hr) (d_ix (d_var 0) d_int) d_str (nomark _)) (d_makeC h_Ahead (hr.mono (by first | decide | omega)) (a_cons (d_ix (d_var 1) d_int) a_nil)) (d_makeC h_Unless (hr.mono (by first | decide | omega)) (a_cons (d_ix (d_var 1) d_int) a_nil)))))))))), fun ds M Q Ed h => ?_⟩
  · obtain ⟨v, rfl, _⟩ := h
    rfl
  · obtain ⟨v, rfl, h1, h2, k⟩ := h
    have e : startD N_s__law_made [v.d] = [.val v.d, Sl.no, Sl.no] := rfl
    rw [e]
    cases v with
    | nothing => unfold WT.d; walk_at "a"; exact k
    | one => unfold WT.d; walk_at "a"; exact k
    | letter s => unfold WT.d; walk_at "a"; exact k
    | call s => unfold WT.d; walk_at "a"; exact k
    | un kk v =>
      have hd : (WT.un kk v).d = .tup [.str kk.s, v.d] := rfl
      have hs : v.size + 1 ≤ S + 1 := h1
      rw [hd]
      cases kk
      · walk_at "a"
        refine ⟨WT.un .again v, rfl, ?_⟩
        walk_at "dl"
        refine ⟨rfl, ?_⟩
        refine lcW_mapL (f := WT.d) (g := WT.o W) (fun v' => v'.size ≤ S ∧ v'.size ≤ 1000) (fun v' R hp hR => ?_) _ [] (fun v1 hv => by obtain rfl := List.mem_singleton.mp hv; exact ⟨by omega, by have : v1.size + 1 ≤ 1000 := h2; omega⟩) (by rw [sizeLine_eq]; show 0 + 1 ≤ _; omega) ?_
        · walk_at "dl"
          refine ⟨v', rfl, hp.1, hp.2, ?_⟩
          walk_at "dl"
          exact hR _ rfl
        have hi : [] ++ (WT.un .again v).inner.map (WT.o W) = [v.o W] := rfl
        rw [hi]
        walk_at "a"
        exact k
      · walk_at "a"
        refine ⟨WT.un .maybe v, rfl, ?_⟩
        walk_at "dl"
        refine ⟨rfl, ?_⟩
        refine lcW_mapL (f := WT.d) (g := WT.o W) (fun v' => v'.size ≤ S ∧ v'.size ≤ 1000) (fun v' R hp hR => ?_) _ [] (fun v1 hv => by obtain rfl := List.mem_singleton.mp hv; exact ⟨by omega, by have : v1.size + 1 ≤ 1000 := h2; omega⟩) (by rw [sizeLine_eq]; show 0 + 1 ≤ _; omega) ?_
        · walk_at "dl"
          refine ⟨v', rfl, hp.1, hp.2, ?_⟩
          walk_at "dl"
          exact hR _ rfl
        have hi : [] ++ (WT.un .maybe v).inner.map (WT.o W) = [v.o W] := rfl
        rw [hi]
        walk_at "a"
        exact k
      · walk_at "a"
        refine ⟨WT.un .ahead v, rfl, ?_⟩
        walk_at "dl"
        refine ⟨rfl, ?_⟩
        refine lcW_mapL (f := WT.d) (g := WT.o W) (fun v' => v'.size ≤ S ∧ v'.size ≤ 1000) (fun v' R hp hR => ?_) _ [] (fun v1 hv => by obtain rfl := List.mem_singleton.mp hv; exact ⟨by omega, by have : v1.size + 1 ≤ 1000 := h2; omega⟩) (by rw [sizeLine_eq]; show 0 + 1 ≤ _; omega) ?_
        · walk_at "dl"
          refine ⟨v', rfl, hp.1, hp.2, ?_⟩
          walk_at "dl"
          exact hR _ rfl
        have hi : [] ++ (WT.un .ahead v).inner.map (WT.o W) = [v.o W] := rfl
        rw [hi]
        walk_at "a"
        exact k
      · walk_at "a"
        refine ⟨WT.un .unless v, rfl, ?_⟩
        walk_at "dl"
        refine ⟨rfl, ?_⟩
        refine lcW_mapL (f := WT.d) (g := WT.o W) (fun v' => v'.size ≤ S ∧ v'.size ≤ 1000) (fun v' R hp hR => ?_) _ [] (fun v1 hv => by obtain rfl := List.mem_singleton.mp hv; exact ⟨by omega, by have : v1.size + 1 ≤ 1000 := h2; omega⟩) (by rw [sizeLine_eq]; show 0 + 1 ≤ _; omega) ?_
        · walk_at "dl"
          refine ⟨v', rfl, hp.1, hp.2, ?_⟩
          walk_at "dl"
          exact hR _ rfl
        have hi : [] ++ (WT.un .unless v).inner.map (WT.o W) = [v.o W] := rfl
        rw [hi]
        walk_at "a"
        exact k
    | many c ws =>
      have hd : (WT.many c ws).d = .tup [.str (manyS c), .lst (WT.dOf ws)] := rfl
      have hs : WT.sizes ws + 1 ≤ S + 1 := h1
      have hs2 : WT.sizes ws + 1 ≤ 1000 := h2
      have hl := WT.sizes_length ws
      rw [hd]
      cases c with
      | false =>
        walk_at "a"
        refine ⟨WT.many false ws, rfl, ?_⟩
        walk_at "dl"
        refine ⟨rfl, ?_⟩
        refine lcW_mapL (f := WT.d) (g := WT.o W) (fun v' => v'.size ≤ S ∧ v'.size ≤ 1000) (fun v' R hp hR => ?_) _ [] (fun v1 (hv : v1 ∈ ws) => by have := WT.sizes_mem hv; exact ⟨by omega, by omega⟩) (by rw [sizeLine_eq]; show 0 + ws.length ≤ _; omega) ?_
        · walk_at "dl"
          refine ⟨v', rfl, hp.1, hp.2, ?_⟩
          walk_at "dl"
          exact hR _ rfl
        rw [List.nil_append, ← WT.oOf_map]
        walk_at "a"
        exact k
      | true =>
        walk_at "a"
        refine ⟨WT.many true ws, rfl, ?_⟩
        walk_at "dl"
        refine ⟨rfl, ?_⟩
        refine lcW_mapL (f := WT.d) (g := WT.o W) (fun v' => v'.size ≤ S ∧ v'.size ≤ 1000) (fun v' R hp hR => ?_) _ [] (fun v1 (hv : v1 ∈ ws) => by have := WT.sizes_mem hv; exact ⟨by omega, by omega⟩) (by rw [sizeLine_eq]; show 0 + ws.length ≤ _; omega) ?_
        · walk_at "dl"
          refine ⟨v', rfl, hp.1, hp.2, ?_⟩
          walk_at "dl"
          exact hR _ rfl
        rw [List.nil_append, ← WT.oOf_map]
        walk_at "a"
        exact k


theorem sc_s_Way___eq__ : FnScope N_s_Way___eq__ ["self", "other"] (defScope s_Way___eq__) := ⟨rfl, rfl, rfl, by decide +kernel, rfl, by decide +kernel, by decide +kernel⟩
theorem ok_Way_eq0 (T : TxtP mg) {W : WA} {Wy f : Addr} (gW : mg "Way" = some (.ref Wy)) (hF : WOk K W) (G : WEq K W Wy f) (k n : Nat) {fd : FuncData} (Df : FunD K "__eq__" "Way.__eq__" (defArgs s_Way___eq__) (defBody s_Way___eq__) (defScope s_Way___eq__) [] [] f fd)
    (hop : ∀ {f : Addr} {cdv : Value} {A : Around} {outer : List Env} {s : Shared} {H : Hp} {E : XK}, Room n (A.deeper (envOfC "Way.__eq__" (defScope s_Way___eq__) s.heap.objs.size f cdv)) → OpD (cxOf CX0 P w K mg base N_s_Way___eq__ "Way.__eq__" (defScope s_Way___eq__) f cdv A outer s H E).nox (compareOp .Eq) (fun d e env M Q => ∃ b, (∃ v u : WT, v.size ≤ k ∧ d = .tup [.str v.word, .str v.sign, .tup (v.inner.map (WT.o W))] ∧ e = .tup [.str u.word, .str u.sign, .tup (u.inner.map (WT.o W))] ∧ b = wEq v u) ∧ Q (.bl b) env M)) : FnOk P w K mg base CX0 (n + 1) f fd ["self", "other"] (LSp K (spEqW W k)) := by
  refine okD Df sc_s_Way___eq__ (fun ds M Q E h => ?_) fun cdv A outer s H E hr => ⟨_, (ss_one (s_ret (d_and (d_callB cd_isi rfl T.z_isinstance (by decide +kernel) (a_cons (d_var 1) (a_cons (d_globR rfl gW) a_nil))) (d_one (d_cmp (hop hr) (d_tup (a_cons (d_fld (d_var 0)) (a_cons (d_fld (d_var 0)) (a_cons (d_fld (d_var 0)) a_nil)))) (d_tup (a_cons (d_fld (d_var 1)) (a_cons (d_fld (d_var 1)) (a_cons (d_fld (d_var 1)) a_nil)))) (nomark _)))))), fun ds M Q Ed h => ?_⟩
  · obtain ⟨d, e, b, rfl, _⟩ := h
    rfl
  · obtain ⟨d, e, b, rfl, hd, q⟩ := h
    have e0 : startD N_s_Way___eq__ [d, e] = [.val d, .val e, ] := rfl
    rw [e0]
    walk_at "dl"
    rcases hd with ⟨v, u, rfl, rfl, hs, rfl⟩ | ⟨v, rfl, hz, rfl⟩
    · obtain ⟨C, ns, ds, ho, hC⟩ := WT.o_obj W v
      obtain ⟨C', ns', ds', ho', hC'⟩ := WT.o_obj W u
      have hi : insD (v.o W) M = some (C, wayN ++ ns, .str v.word :: .str v.sign :: .tup (v.inner.map (WT.o W)) :: ds) := by rw [ho]
      have hi' : insD (u.o W) M = some (C', wayN ++ ns', .str u.word :: .str u.sign :: .tup (u.inner.map (WT.o W)) :: ds') := by rw [ho']
      refine ⟨true, ⟨.ref C', .ref Wy, by rw [ho']; exact ⟨rfl, G.is_ _ hC'⟩, rfl, G.isi _ hC'⟩, ?_⟩
      walk_at "dl"
      rw [hi]
      walk_at "dl"
      refine ⟨hF C hC _ (by decide +kernel), ?_⟩
      rw [fget_w]
      walk_at "dl"
      rw [hi]
      walk_at "dl"
      refine ⟨hF C hC _ (by decide +kernel), ?_⟩
      rw [fget_s]
      walk_at "dl"
      rw [hi]
      walk_at "dl"
      refine ⟨hF C hC _ (by decide +kernel), ?_⟩
      rw [fget_i]
      walk_at "dl"
      refine ⟨by show 3 ≤ sizeLine; decide, ?_⟩
      walk_at "dl"
      rw [hi']
      walk_at "dl"
      refine ⟨hF C' hC' _ (by decide +kernel), ?_⟩
      rw [fget_w]
      walk_at "dl"
      rw [hi']
      walk_at "dl"
      refine ⟨hF C' hC' _ (by decide +kernel), ?_⟩
      rw [fget_s]
      walk_at "dl"
      rw [hi']
      walk_at "dl"
      refine ⟨hF C' hC' _ (by decide +kernel), ?_⟩
      rw [fget_i]
      walk_at "dl"
      refine ⟨by show 3 ≤ sizeLine; decide, ?_⟩
      walk_at "dl"
      refine ⟨wEq v u, ⟨v, u, hs, rfl, rfl, rfl⟩, ?_⟩
      walk_at "dl"
      exact q
    · refine ⟨false, ?_, ?_⟩
      · rcases hz with ⟨z, rfl⟩ | ⟨es, rfl⟩
        · exact ⟨.type "str", .ref Wy, rfl, rfl, G.isS⟩
        · exact ⟨.type "tuple", .ref Wy, rfl, rfl, G.isT⟩
      · walk_at "dl"
        exact q
theorem ok_Way_eqS (T : TxtP mg) {W : WA} {Wy f : Addr} (gW : mg "Way" = some (.ref Wy)) (hF : WOk K W) (G : WEq K W Wy f) {fd : FuncData} (Df : FunD K "__eq__" "Way.__eq__" (defArgs s_Way___eq__) (defBody s_Way___eq__) (defScope s_Way___eq__) [] [] f fd) (hb : Binds K fd ["self", "other"] []) : ∀ k : Nat, FnOk P w K mg base CX0 (3 * k + 1) f fd ["self", "other"] (LSp K (spEqW W k))
  | 0 => ok_Way_eq0 T gW hF G 0 0 Df fun hr => ⟨⟨fun _ _ _ _ => False, fun _ _ _ _ _ _ _ _ _ _ _ _ h => h.elim, fun F S σ H env M x y d e Qd Q R r1 r2 q p => by
      obtain ⟨b, ⟨v, u, h, _⟩, _⟩ := q
      exact absurd v.size_pos (by omega)⟩⟩
  | k + 1 => ok_Way_eq0 T gW hF G (k + 1) (3 * k + 1 + 2) Df fun hr => (od_eqB (rcB_eqT (ok_Way_eqS T gW hF G Df hb k) hb G) hr).imp fun d e env M Q h => by
      obtain ⟨b, ⟨v, u, h1, rfl, rfl, rfl⟩, q⟩ := h
      exact ⟨_, rdE_way h1, q⟩
theorem ok_Way_eq (T : TxtP mg) {W : WA} {Wy f : Addr} (gW : mg "Way" = some (.ref Wy)) (hF : WOk K W) (G : WEq K W Wy f) (S : Nat) (Df : MethAt K "__eq__" "Way.__eq__" ["self", "other"] s_Way___eq__ f) : EqM P w K mg base W S (3 * S + 1) := by
  obtain ⟨fd, F, hb⟩ := Df.ex
  exact ⟨⟨Wy, f, fd, _, ok_Way_eqS T gW hF G F hb S, hb, G⟩⟩


theorem sc_s_is_put_in_brackets : FnScope N_s_is_put_in_brackets ["way", "around"] (defScope s_is_put_in_brackets) := ⟨rfl, rfl, rfl, by decide +kernel, rfl, by decide +kernel, by decide +kernel⟩
theorem ok_brackets (T : TxtP mg) {W : WA} (hF : WOk K W) (Df : DefAt K mg "is_put_in_brackets" ["way", "around"] s_is_put_in_brackets) : Fn P w K mg base 1 "is_put_in_brackets" ["way", "around"] (spBr W) := by
  refine okF Df sc_s_is_put_in_brackets (fun ds M Q E h => ?_) fun f cdv A outer s H E hr => ⟨_, (ss_cons (s_if (d_tcmp (od_eq hr) (d_fld (d_var 0)) d_str (nomark _))
    (ss_one (s_ret d_bl))
    ss_nil)
    (ss_cons (s_if (d_tcmp (od_eq hr) (d_fld (d_var 0)) d_str (nomark _))
    (ss_one (s_ret (d_cmp (od_ne hr) (d_var 1) d_str (nomark _))))
    ss_nil)
    (ss_one (s_ret (d_and (d_cmp od_in (d_fld (d_var 0)) (d_tup (a_cons d_str (a_cons d_str a_nil))) (by rfl)) (d_one (d_cmp od_in (d_var 1) (d_tup (a_cons d_str (a_cons d_str a_nil))) (by rfl)))))))), fun ds M Q Ed h => ?_⟩
  · obtain ⟨v, p, rfl, _⟩ := h
    rfl
  · obtain ⟨v, p, rfl, k⟩ := h
    have e : startD N_s_is_put_in_brackets [v.o W, .str p.word] = [.val (v.o W), .val (.str p.word)] := rfl
    rw [e]
    obtain ⟨C, ns, ds, ho, hc⟩ := WT.o_obj W v
    have hi : ∀ M, insD (v.o W) M = some (C, wayN ++ ns, .str v.word :: .str v.sign :: .tup (v.inner.map (WT.o W)) :: ds) := fun M => by rw [ho]
    have hw := hF C hc ("word" : Str) (by decide +kernel)
    rw [brkK_eq] at k
    walk_at "dl"
    rw [hi]
    walk_at "dl"
    refine ⟨hw, ?_⟩
    rw [fget_w]
    walk_at "dl"
    refine ⟨okEq_word v, okEq_flat (by decide +kernel), ?_⟩
    walk_at "dl"
    rw [show (("choice" : String) : Str) = w9.word from rfl, WT.wdn, show w9.tag = 9 from rfl]
    by_cases c9 : v.tag = 9
    · rw [decide_eq_true c9] at k ⊢
      walk_at "dl"
      exact k
    rw [decide_eq_false c9] at k ⊢
    walk_at "dl"
    rw [hi]
    walk_at "dl"
    refine ⟨hw, ?_⟩
    rw [fget_w]
    walk_at "dl"
    refine ⟨okEq_word v, okEq_flat (by decide +kernel), ?_⟩
    walk_at "dl"
    rw [show (("row" : String) : Str) = w8.word from rfl, WT.wdn, show w8.tag = 8 from rfl]
    by_cases c8 : v.tag = 8
    · rw [decide_eq_true c8, decide_eq_false (show ¬ v.tag = 6 by omega), decide_eq_false (show ¬ v.tag = 7 by omega)] at k
      rw [decide_eq_true c8]
      walk_at "dl"
      refine ⟨okEq_word p, okEq_flat (by decide +kernel), ?_⟩
      walk_at "dl"
      rw [show w9.word = w9.word from rfl, WT.wdn, show w9.tag = 9 from rfl, nb_eq]
      rw [show (decide (p.tag ≠ 9)) = !decide (p.tag = 9) from decide_not] at k
      simpa using k
    rw [decide_eq_false c8] at k ⊢
    walk_at "dl"
    rw [hi]
    walk_at "dl"
    refine ⟨hw, ?_⟩
    rw [fget_w]
    walk_at "dl"
    refine ⟨by show 2 ≤ sizeLine; decide, ?_⟩
    walk_at "dl"
    refine ⟨rfl, rfl, ?_⟩
    walk_at "dl"
    rw [show (("ahead" : String) : Str) = w6.word from rfl, show (("unless" : String) : Str) = w7.word from rfl, WT.in2, show w6.tag = 6 from rfl, show w7.tag = 7 from rfl]
    cases c6 : (decide (v.tag = 6) || decide (v.tag = 7)) with
    | false =>
      rw [c6] at k
      walk_at "dl"
      exact k
    | true =>
      rw [c6] at k
      walk_at "dl"
      refine ⟨by show 2 ≤ sizeLine; decide, ?_⟩
      walk_at "dl"
      refine ⟨rfl, rfl, ?_⟩
      rw [show (("again" : String) : Str) = w4.word from rfl, show (("maybe" : String) : Str) = w5.word from rfl, WT.in2, show w4.tag = 4 from rfl, show w5.tag = 5 from rfl]
      exact k


theorem sc_s_inner_text : FnScope N_s_inner_text ["way", "around"] (defScope s_inner_text) := ⟨rfl, rfl, rfl, by decide +kernel, rfl, by decide +kernel, by decide +kernel⟩
theorem ok_inner_text (T : TxtP mg) {W : WA} {k S : Nat} (hk : 1 ≤ k) (h_is_put_in_brackets : Fn P w K mg base 1 "is_put_in_brackets" ["way", "around"] (spBr W)) (h_way_text : Fn P w K mg base k "way_text" ["way"] (spWText W S)) (hS : S ≤ 1000) (Df : DefAt K mg "inner_text" ["way", "around"] s_inner_text) : Fn P w K mg base (k + 1) "inner_text" ["way", "around"] (spIText W S) := by
  refine okF Df sc_s_inner_text (fun ds M Q E h => ?_) fun f cdv A outer s H E hr => ⟨_, (ss_one (s_ret (d_ifExp (d_truth (d_callF h_is_put_in_brackets (hr.mono (by first | decide | omega)) (a_cons (d_var 0) (a_cons (d_var 1) a_nil)))) (d_joined (DJ.cons d_str (DJ.cons (d_fmt (d_callF h_way_text (hr.mono (by first | decide | omega)) (a_cons (d_var 0) a_nil))) (DJ.cons d_str DJ.nil)))) (d_callF h_way_text (hr.mono (by first | decide | omega)) (a_cons (d_var 0) a_nil))))), fun ds M Q Ed h => ?_⟩
  · obtain ⟨v, p, rfl, _⟩ := h
    rfl
  · obtain ⟨v, p, rfl, s1, s2, q⟩ := h
    have e : startD N_s_inner_text [v.o W, .str p.word] = [.val (v.o W), .val (.str p.word)] := rfl
    rw [e]
    unfold ibr at q
    walk_at "dl"
    refine ⟨v, p, rfl, ?_⟩
    walk_at "dl"
    cases hb : brkK v p.tag with
    | true =>
      rw [hb] at q
      walk_at "dl"
      refine ⟨by decide, ?_⟩
      walk_at "dl"
      refine ⟨v, rfl, s1, by omega, s2, ?_⟩
      walk_at "dl"
      refine ⟨by rw [tx_len, sizeLine_eq]; omega, ?_⟩
      walk_at "dl"
      rw [tx_open, tx_close, empty_tx, tx_add]
      refine ⟨by rw [tx_len, sizeLine_eq, List.length_append, List.length_singleton]; omega, ?_⟩
      walk_at "dl"
      rw [tx_add]
      refine ⟨by rw [tx_len, sizeLine_eq, List.length_append, List.length_append, List.length_singleton, List.length_singleton]; omega, ?_⟩
      walk_at "dl"
      exact q
    | false =>
      rw [hb] at q
      walk_at "dl"
      refine ⟨v, rfl, s1, by omega, s2, ?_⟩
      walk_at "dl"
      exact q


theorem sc_s_way_text : FnScope N_s_way_text ["way"] (defScope s_way_text) := ⟨rfl, rfl, rfl, by decide +kernel, rfl, by decide +kernel, by decide +kernel⟩
theorem ok_way_text1 (T : TxtP mg) {W : WA} (hF : WOk K W) {aM : Addr} (gM : mg "MARKS" = some (.ref aM)) (hM : TabK K w aM marksD) {k S : Nat} (h_inner_text : Fn P w K mg base k "inner_text" ["way", "around"] (spIText W S)) (Df : DefAt K mg "way_text" ["way"] s_way_text) : Fn P w K mg base (k + 1) "way_text" ["way"] (spWText W (S + 1)) := by
  refine okF Df sc_s_way_text (fun ds M Q E h => ?_) fun f cdv A outer s H E hr => ⟨_, (ss_cons (s_if (d_tcmp od_in (d_fld (d_var 0)) (d_tup (a_cons d_str (a_cons d_str a_nil))) (by rfl))
    (ss_one (s_ret (d_ifExp (d_tcmp (od_eq hr) (d_fld (d_var 0)) d_str (nomark _)) (d_fld (d_var 0)) (d_joined (DJ.cons d_str (DJ.cons (d_fmt (d_fld (d_var 0))) (DJ.cons d_str DJ.nil)))))))
    ss_nil)
    (ss_cons (s_if (d_tcmp od_in (d_fld (d_var 0)) (d_tup (a_cons d_str (a_cons d_str a_nil))) (by rfl))
    (ss_one (s_ret (d_ifExp (d_tcmp (od_eq hr) (d_fld (d_var 0)) d_str (nomark _)) d_str d_str)))
    ss_nil)
    (ss_cons (s_setLcV (i := 1) (own := [("inner", 2)]) rfl sc_s_way_text.nd rfl rfl (sw_true rfl rfl rfl (by decide +kernel)) (i_any (d_fld (d_var 0))) (blkOk_by (N := N_s_way_text) (sc := defScope s_way_text) (by decide +kernel)) (fun _ _ _ _ _ => (gw_name (i := 2) (by decide) sc_s_way_text.nd)) (fun _ _ _ _ _ => ts_nil) (fun _ _ _ _ _ => (d_callF h_inner_text (hr.mono (by first | decide | omega)) (a_cons (d_var 2) (a_cons (d_fldK (K := K) (d_var 0)) a_nil)))))
    (ss_cons (s_if (d_tcmp od_in (d_fld (d_var 0)) (d_tup (a_cons d_str (a_cons d_str a_nil))) (by rfl))
    (ss_one (s_ret (d_join (d_ifExp (d_tcmp (od_eq hr) (d_fld (d_var 0)) d_str (nomark _)) d_str d_str) (d_var 1))))
    ss_nil)
    (ss_one (s_ret (d_ifExp (d_tcmp od_in (d_fld (d_var 0)) (d_tup (a_cons d_str (a_cons d_str a_nil))) (by rfl)) (d_op od_add (d_ix (d_var 1) d_int) (d_ixK hM (d_globR rfl gM) (d_fld (d_var 0)))) (d_op od_add (d_ixK hM (d_globR rfl gM) (d_fld (d_var 0))) (d_ix (d_var 1) d_int))))))))), fun ds M Q Ed h => ?_⟩
  · obtain ⟨v, rfl, _⟩ := h
    rfl
  · obtain ⟨v, rfl, s1, s2, s3, q⟩ := h
    have e : startD N_s_way_text [v.o W] = [.val (v.o W), Sl.no, Sl.no] := rfl
    rw [e]
    obtain ⟨C, ns, ds, ho, hc⟩ := WT.o_obj W v
    have hw := hF C hc ("word" : Str) (by decide +kernel)
    have hs := hF C hc ("sign" : Str) (by decide +kernel)
    have hin := hF C hc ("inner" : Str) (by decide +kernel)
    have hil := v.inner_le
    have comp : ∀ w' ∈ v.inner, w'.size ≤ S ∧ (wtx w').length ≤ 1000000 := fun w' hw' => ⟨by have := v.sizes_inner; have := WT.sizes_mem hw'; omega, by have := wtx_inner hw'; omega⟩
    cases v with
    | nothing =>
      rw [wtx] at q
      have hi : ∀ M, insD (WT.o W (.nothing)) M = some (C, wayN ++ ns, .str "nothing" :: .str "" :: .tup [] :: ds) := fun M => by rw [ho]; rfl
      walk_at "dl"
      rw [hi]
      walk_at "dl"
      refine ⟨hw, ?_⟩
      rw [fget_w]
      walk_at "a"
      rw [hi]
      walk_at "dl"
      refine ⟨hw, ?_⟩
      rw [fget_w]
      walk_at "a"
      rw [hi]
      walk_at "dl"
      refine ⟨hw, ?_⟩
      rw [fget_w]
      walk_at "a"
      rw [← tx_none] at q
      exact q
    | one =>
      rw [wtx] at q
      have hi : ∀ M, insD (WT.o W (.one)) M = some (C, wayN ++ ns, .str "one" :: .str "" :: .tup [] :: ds) := fun M => by rw [ho]; rfl
      walk_at "dl"
      rw [hi]
      walk_at "dl"
      refine ⟨hw, ?_⟩
      rw [fget_w]
      walk_at "a"
      rw [hi]
      walk_at "dl"
      refine ⟨hw, ?_⟩
      rw [fget_w]
      walk_at "a"
      rw [hi]
      walk_at "dl"
      refine ⟨hw, ?_⟩
      rw [fget_w]
      walk_at "a"
      rw [← tx_dot] at q
      exact q
    | letter s =>
      rw [wtx, tx_eta] at q
      have hi : ∀ M, insD (WT.o W (.letter s)) M = some (C, wayN ++ ns, .str "letter" :: .str s :: .tup [] :: ds) := fun M => by rw [ho]; rfl
      walk_at "dl"
      rw [hi]
      walk_at "dl"
      refine ⟨hw, ?_⟩
      rw [fget_w]
      walk_at "a"
      rw [hi]
      walk_at "dl"
      refine ⟨hw, ?_⟩
      rw [fget_w]
      walk_at "a"
      rw [hi]
      walk_at "dl"
      refine ⟨hs, ?_⟩
      rw [fget_s]
      walk_at "a"
      exact q
    | call s =>
      rw [wtx] at q
      have hi : ∀ M, insD (WT.o W (.call s)) M = some (C, wayN ++ ns, .str "call" :: .str s :: .tup [] :: ds) := fun M => by rw [ho]; rfl
      walk_at "dl"
      rw [hi]
      walk_at "dl"
      refine ⟨hw, ?_⟩
      rw [fget_w]
      walk_at "a"
      rw [hi]
      walk_at "dl"
      refine ⟨hw, ?_⟩
      rw [fget_w]
      walk_at "a"
      rw [hi]
      walk_at "dl"
      refine ⟨hs, ?_⟩
      rw [fget_s]
      have hsl : s.length + 2 ≤ 1000000 := by
        rw [wtx, List.length_cons, List.length_append, List.length_singleton] at s3
        have : s.cps.toList.length = s.length := rfl
        omega
      walk_at "dl"
      have hsc : s.cps.toList.length = s.length := rfl
      refine ⟨by rw [sizeLine_eq]; omega, ?_⟩
      walk_at "dl"
      rw [tx_lt, tx_gt, empty_tx, str_tx s, tx_add]
      refine ⟨by rw [tx_len, sizeLine_eq, List.length_append, List.length_singleton]; omega, ?_⟩
      walk_at "dl"
      rw [tx_add]
      refine ⟨by rw [tx_len, sizeLine_eq, List.length_append, List.length_append, List.length_singleton, List.length_singleton]; omega, ?_⟩
      walk_at "dl"
      exact q
    | un kk u =>
      obtain ⟨c1, c2⟩ := comp u List.mem_cons_self
      cases kk with
      | again =>
        have hi : ∀ M, insD (WT.o W (.un .again u)) M = some (C, wayN ++ ns, .str "again" :: .str "" :: .tup [u.o W] :: ds) := fun M => by rw [ho]; rfl
        rw [wtx] at q
        have hbr := ibr_len u 4 (wtx u)
        walk_at "dl"
        rw [hi]
        walk_at "dl"
        refine ⟨hw, ?_⟩
        rw [fget_w]
        walk_at "a"
        rw [hi]
        walk_at "dl"
        refine ⟨hw, ?_⟩
        rw [fget_w]
        walk_at "a"
        rw [hi]
        walk_at "dl"
        refine ⟨hin, ?_⟩
        rw [fget_i]
        walk_at "dl"
        refine ⟨rfl, ?_⟩
        walk_at "dl"
        rw [hi]
        walk_at "dl"
        refine ⟨hw, ?_⟩
        rw [fget_w]
        walk_at "dl"
        refine ⟨u, .un .again u, rfl, c1, c2, ?_⟩
        rw [show (WT.un .again u).tag = 4 from rfl]
        walk_at "dl"
        refine ⟨by rw [sizeLine_eq]; decide, ?_⟩
        walk_at "dl"
        rw [hi]
        walk_at "dl"
        refine ⟨hw, ?_⟩
        rw [fget_w]
        walk_at "a"
        rw [hi]
        walk_at "dl"
        refine ⟨hw, ?_⟩
        rw [fget_w]
        walk_at "a"
        rw [hi]
        walk_at "dl"
        refine ⟨hw, ?_⟩
        rw [fget_w]
        walk_at "dl"
        rw [mark_again]
        walk_at "dl"
        refine ⟨by rw [tx_star, tx_len, tx_len, sizeLine_eq, List.length_singleton]; omega, ?_⟩
        rw [tx_star, tx_add]
        exact q
      | maybe =>
        have hi : ∀ M, insD (WT.o W (.un .maybe u)) M = some (C, wayN ++ ns, .str "maybe" :: .str "" :: .tup [u.o W] :: ds) := fun M => by rw [ho]; rfl
        rw [wtx] at q
        have hbr := ibr_len u 5 (wtx u)
        walk_at "dl"
        rw [hi]
        walk_at "dl"
        refine ⟨hw, ?_⟩
        rw [fget_w]
        walk_at "a"
        rw [hi]
        walk_at "dl"
        refine ⟨hw, ?_⟩
        rw [fget_w]
        walk_at "a"
        rw [hi]
        walk_at "dl"
        refine ⟨hin, ?_⟩
        rw [fget_i]
        walk_at "dl"
        refine ⟨rfl, ?_⟩
        walk_at "dl"
        rw [hi]
        walk_at "dl"
        refine ⟨hw, ?_⟩
        rw [fget_w]
        walk_at "dl"
        refine ⟨u, .un .maybe u, rfl, c1, c2, ?_⟩
        rw [show (WT.un .maybe u).tag = 5 from rfl]
        walk_at "dl"
        refine ⟨by rw [sizeLine_eq]; decide, ?_⟩
        walk_at "dl"
        rw [hi]
        walk_at "dl"
        refine ⟨hw, ?_⟩
        rw [fget_w]
        walk_at "a"
        rw [hi]
        walk_at "dl"
        refine ⟨hw, ?_⟩
        rw [fget_w]
        walk_at "a"
        rw [hi]
        walk_at "dl"
        refine ⟨hw, ?_⟩
        rw [fget_w]
        walk_at "dl"
        rw [mark_maybe]
        walk_at "dl"
        refine ⟨by rw [tx_quest, tx_len, tx_len, sizeLine_eq, List.length_singleton]; omega, ?_⟩
        rw [tx_quest, tx_add]
        exact q
      | ahead =>
        have hi : ∀ M, insD (WT.o W (.un .ahead u)) M = some (C, wayN ++ ns, .str "ahead" :: .str "" :: .tup [u.o W] :: ds) := fun M => by rw [ho]; rfl
        rw [wtx] at q
        have hbr := ibr_len u 6 (wtx u)
        walk_at "dl"
        rw [hi]
        walk_at "dl"
        refine ⟨hw, ?_⟩
        rw [fget_w]
        walk_at "a"
        rw [hi]
        walk_at "dl"
        refine ⟨hw, ?_⟩
        rw [fget_w]
        walk_at "a"
        rw [hi]
        walk_at "dl"
        refine ⟨hin, ?_⟩
        rw [fget_i]
        walk_at "dl"
        refine ⟨rfl, ?_⟩
        walk_at "dl"
        rw [hi]
        walk_at "dl"
        refine ⟨hw, ?_⟩
        rw [fget_w]
        walk_at "dl"
        refine ⟨u, .un .ahead u, rfl, c1, c2, ?_⟩
        rw [show (WT.un .ahead u).tag = 6 from rfl]
        walk_at "dl"
        refine ⟨by rw [sizeLine_eq]; decide, ?_⟩
        walk_at "dl"
        rw [hi]
        walk_at "dl"
        refine ⟨hw, ?_⟩
        rw [fget_w]
        walk_at "a"
        rw [hi]
        walk_at "dl"
        refine ⟨hw, ?_⟩
        rw [fget_w]
        walk_at "a"
        rw [hi]
        walk_at "dl"
        refine ⟨hw, ?_⟩
        rw [fget_w]
        walk_at "dl"
        rw [mark_ahead]
        walk_at "dl"
        try rw [show atI ([] ++ [D.str (tx (ibr u 6 (wtx u)))]) 0 = some (.str (tx (ibr u 6 (wtx u)))) from rfl]
        walk_at "dl"
        refine ⟨by rw [tx_and, tx_len, tx_len, sizeLine_eq, List.length_singleton]; omega, ?_⟩
        rw [tx_and, tx_add]
        exact q
      | «unless» =>
        have hi : ∀ M, insD (WT.o W (.un .unless u)) M = some (C, wayN ++ ns, .str "unless" :: .str "" :: .tup [u.o W] :: ds) := fun M => by rw [ho]; rfl
        rw [wtx] at q
        have hbr := ibr_len u 7 (wtx u)
        walk_at "dl"
        rw [hi]
        walk_at "dl"
        refine ⟨hw, ?_⟩
        rw [fget_w]
        walk_at "a"
        rw [hi]
        walk_at "dl"
        refine ⟨hw, ?_⟩
        rw [fget_w]
        walk_at "a"
        rw [hi]
        walk_at "dl"
        refine ⟨hin, ?_⟩
        rw [fget_i]
        walk_at "dl"
        refine ⟨rfl, ?_⟩
        walk_at "dl"
        rw [hi]
        walk_at "dl"
        refine ⟨hw, ?_⟩
        rw [fget_w]
        walk_at "dl"
        refine ⟨u, .un .unless u, rfl, c1, c2, ?_⟩
        rw [show (WT.un .unless u).tag = 7 from rfl]
        walk_at "dl"
        refine ⟨by rw [sizeLine_eq]; decide, ?_⟩
        walk_at "dl"
        rw [hi]
        walk_at "dl"
        refine ⟨hw, ?_⟩
        rw [fget_w]
        walk_at "a"
        rw [hi]
        walk_at "dl"
        refine ⟨hw, ?_⟩
        rw [fget_w]
        walk_at "a"
        rw [hi]
        walk_at "dl"
        refine ⟨hw, ?_⟩
        rw [fget_w]
        walk_at "dl"
        rw [mark_unless]
        walk_at "dl"
        try rw [show atI ([] ++ [D.str (tx (ibr u 7 (wtx u)))]) 0 = some (.str (tx (ibr u 7 (wtx u)))) from rfl]
        walk_at "dl"
        refine ⟨by rw [tx_not, tx_len, tx_len, sizeLine_eq, List.length_singleton]; omega, ?_⟩
        rw [tx_not, tx_add]
        exact q
    | many c ws =>
      have hwsl : (WT.many c ws).inner.length < 1000 := by omega
      cases c with
      | false =>
        have hi : ∀ M, insD (WT.o W (.many false ws)) M = some (C, wayN ++ ns, .str "row" :: .str "" :: .tup (ws.map (WT.o W)) :: ds) := fun M => by rw [ho] <;> rfl
        rw [wtx] at q s3
        have hlist := sepJ_len [32] (wtxs 8 ws)
        walk_at "dl"
        rw [hi]
        walk_at "dl"
        refine ⟨hw, ?_⟩
        rw [fget_w]
        walk_at "a"
        rw [hi]
        walk_at "dl"
        refine ⟨hw, ?_⟩
        rw [fget_w]
        walk_at "a"
        rw [hi]
        walk_at "dl"
        refine ⟨hin, ?_⟩
        rw [fget_i]
        walk_at "dl"
        refine ⟨rfl, ?_⟩
        have eb : wipeD [Sl.val (WT.o W (.many false ws)), Sl.no, Sl.no] (ownIx [(("inner" : Str), 2)]) = [Sl.val (WT.o W (.many false ws)), Sl.no, Sl.no] := rfl
        rw [eb]
        refine lcW_mapL (f := WT.o W) (g := fun u => .str (tx (ibr u 8 (wtx u)))) (fun u => u ∈ ws) (fun u R hu hR => ?_) ws [] (fun _ h => h) (by rw [sizeLine_eq]; have hq : ws.length < 1000 := hwsl; show 0 + _ ≤ _; omega) ?_
        · obtain ⟨c1, c2⟩ := comp u hu
          walk_at "dl"
          rw [hi]
          walk_at "dl"
          refine ⟨hw, ?_⟩
          rw [fget_w]
          walk_at "dl"
          refine ⟨u, .many false ws, rfl, c1, c2, ?_⟩
          exact hR _ rfl
        rw [List.nil_append]
        walk_at "dl"
        rw [hi]
        walk_at "dl"
        refine ⟨hw, ?_⟩
        rw [fget_w]
        walk_at "a"
        rw [hi]
        walk_at "dl"
        refine ⟨hw, ?_⟩
        rw [fget_w]
        walk_at "a"
        have hq : ws.length < 1000 := hwsl
        have es : strsD (ws.map fun u => D.str (tx (ibr u 8 (wtx u)))) = some ((wtxs 8 ws).map tx) := by
          rw [wtxs_map, List.map_map]
          have := strsD_map (ws.map (tx ∘ fun u => ibr u 8 (wtx u)))
          rw [List.map_map] at this
          exact this
        rw [es]
        walk_at "dl"
        rw [tx_sp, join_tx, List.map_map, List.length_map, tx_len, show (wtxs 8 ws).map ((fun x => x.length) ∘ tx) = (wtxs 8 ws).map List.length from rfl, show (wtxs 8 ws).length = ws.length from by rw [wtxs_map, List.length_map]]
        rw [show (wtxs 8 ws).length = ws.length from by rw [wtxs_map, List.length_map]] at hlist
        refine ⟨?_, ?_⟩
        · have h4 : ws.length * ([32] : List Nat).length ≤ 1000 * 3 := Nat.mul_le_mul (by omega) (by decide)
          omega
        exact q
      | true =>
        have hi : ∀ M, insD (WT.o W (.many true ws)) M = some (C, wayN ++ ns, .str "choice" :: .str "" :: .tup (ws.map (WT.o W)) :: ds) := fun M => by rw [ho] <;> rfl
        rw [wtx] at q s3
        have hlist := sepJ_len [32, 47, 32] (wtxs 9 ws)
        walk_at "dl"
        rw [hi]
        walk_at "dl"
        refine ⟨hw, ?_⟩
        rw [fget_w]
        walk_at "a"
        rw [hi]
        walk_at "dl"
        refine ⟨hw, ?_⟩
        rw [fget_w]
        walk_at "a"
        rw [hi]
        walk_at "dl"
        refine ⟨hin, ?_⟩
        rw [fget_i]
        walk_at "dl"
        refine ⟨rfl, ?_⟩
        have eb : wipeD [Sl.val (WT.o W (.many true ws)), Sl.no, Sl.no] (ownIx [(("inner" : Str), 2)]) = [Sl.val (WT.o W (.many true ws)), Sl.no, Sl.no] := rfl
        rw [eb]
        refine lcW_mapL (f := WT.o W) (g := fun u => .str (tx (ibr u 9 (wtx u)))) (fun u => u ∈ ws) (fun u R hu hR => ?_) ws [] (fun _ h => h) (by rw [sizeLine_eq]; have hq : ws.length < 1000 := hwsl; show 0 + _ ≤ _; omega) ?_
        · obtain ⟨c1, c2⟩ := comp u hu
          walk_at "dl"
          rw [hi]
          walk_at "dl"
          refine ⟨hw, ?_⟩
          rw [fget_w]
          walk_at "dl"
          refine ⟨u, .many true ws, rfl, c1, c2, ?_⟩
          exact hR _ rfl
        rw [List.nil_append]
        walk_at "dl"
        rw [hi]
        walk_at "dl"
        refine ⟨hw, ?_⟩
        rw [fget_w]
        walk_at "a"
        rw [hi]
        walk_at "dl"
        refine ⟨hw, ?_⟩
        rw [fget_w]
        walk_at "a"
        have hq : ws.length < 1000 := hwsl
        have es : strsD (ws.map fun u => D.str (tx (ibr u 9 (wtx u)))) = some ((wtxs 9 ws).map tx) := by
          rw [wtxs_map, List.map_map]
          have := strsD_map (ws.map (tx ∘ fun u => ibr u 9 (wtx u)))
          rw [List.map_map] at this
          exact this
        rw [es]
        walk_at "dl"
        rw [tx_bar, join_tx, List.map_map, List.length_map, tx_len, show (wtxs 9 ws).map ((fun x => x.length) ∘ tx) = (wtxs 9 ws).map List.length from rfl, show (wtxs 9 ws).length = ws.length from by rw [wtxs_map, List.length_map]]
        rw [show (wtxs 9 ws).length = ws.length from by rw [wtxs_map, List.length_map]] at hlist
        refine ⟨?_, ?_⟩
        · have h4 : ws.length * ([32, 47, 32] : List Nat).length ≤ 1000 * 3 := Nat.mul_le_mul (by omega) (by decide)
          omega
        exact q
theorem ok_way_text (T : TxtP mg) {W : WA} (hF : WOk K W) {aM : Addr} (gM : mg "MARKS" = some (.ref aM)) (hM : TabK K w aM marksD) (h_is_put_in_brackets : Fn P w K mg base 1 "is_put_in_brackets" ["way", "around"] (spBr W)) (Di : DefAt K mg "inner_text" ["way", "around"] s_inner_text) (Df : DefAt K mg "way_text" ["way"] s_way_text) : ∀ S, S ≤ 1000 → Fn P w K mg base (2 * S + 1) "way_text" ["way"] (spWText W S)
  | 0, _ => Fn.vac Df fun ds M Q E ⟨v, _, h1, _⟩ => absurd v.size_pos (by omega)
  | S + 1, hS => by
    have h1 := ok_way_text T hF gM hM h_is_put_in_brackets Di Df S (by omega)
    have h2 := ok_inner_text T (by omega) h_is_put_in_brackets h1 (by omega) Di
    exact ok_way_text1 T hF gM hM h2 Df


theorem sc_s_Way___str__ : FnScope N_s_Way___str__ ["self"] (defScope s_Way___str__) := ⟨rfl, rfl, rfl, by decide +kernel, rfl, by decide +kernel, by decide +kernel⟩
theorem ok_Way_str (T : TxtP mg) {W : WA} (S : Nat) (hS : S ≤ 1000) {f : Addr} (h_way_text : Fn P w K mg base (2 * S + 1) "way_text" ["way"] (spWText W S)) (Df : MethAt K "__str__" "Way.__str__" ["self"] s_Way___str__ f) (fn : PySem.W.isFn K (.ref f) = true) (hf : ∀ C, W.has C → PySem.W.findIn K (.ref C) "__str__" = some (some (.ref f))) : OwnM P w K mg base W "__str__" (2 * S + 2) (spStrW W (fun v => tx (wtx v)) (fun v => v.size ≤ S ∧ (wtx v).length ≤ 1000000)) := by
  obtain ⟨fd, G, hb⟩ := Df.ex
  refine ⟨⟨f, fd, _, ?_, hb, fn, hf⟩⟩
  refine okD G sc_s_Way___str__ (fun ds M Q E h => ?_) fun cdv A outer s H E hr => ⟨_, (ss_one (s_ret (d_joined1 (d_fmt (d_callF h_way_text (hr.mono (by first | decide | omega)) (a_cons (d_var 0) a_nil)))))), fun ds M Q Ed h => ?_⟩
  · obtain ⟨v, rfl, _⟩ := h
    rfl
  · obtain ⟨v, rfl, ⟨h1, h2⟩, k⟩ := h
    have e0 : startD N_s_Way___str__ [v.o W] = [.val (v.o W)] := rfl
    rw [e0]
    walk_at "dl"
    refine ⟨v, rfl, h1, by omega, h2, ?_⟩
    walk_at "dl"
    refine ⟨by rw [tx_len, sizeLine_eq]; omega, ?_⟩
    walk_at "dl"
    exact k


theorem sc_s_way_of : FnScope N_s_way_of ["word", "sign", "inner"] (defScope s_way_of) := ⟨rfl, rfl, rfl, by decide +kernel, rfl, by decide +kernel, by decide +kernel⟩
theorem ok_wayof (T : TxtP mg) {W : WA} (hW : WCl P w K mg base W) (Df : DefAt K mg "way_of" ["word", "sign", "inner"] s_way_of) : Fn P w K mg base 4 "way_of" ["word", "sign", "inner"] (spWayMake W) := by
  have h_Letter := hW.c_letter
  have h_Call := hW.c_call
  have h_One := hW.c_one
  have h_Nothing := hW.c_nothing
  have h_Again := hW.c_again
  have h_Maybe := hW.c_maybe
  have h_Ahead := hW.c_ahead
  have h_Unless := hW.c_unless
  have h_Row := hW.c_row
  have h_Choice := hW.c_choice
  refine okF Df sc_s_way_of (fun ds M Q E h => ?_) fun f cdv A outer s H E hr => ⟨_, (ss_cons (s_if (d_tcmp od_in (d_var 0) (d_tup (a_cons d_str (a_cons d_str a_nil))) (by rfl))
    (ss_one (s_ret (d_ifExp (d_tcmp (od_eq hr) (d_var 0) d_str (nomark _)) (d_makeC h_Letter (hr.mono (by first | decide | omega)) (a_cons (d_var 1) a_nil)) (d_makeC h_Call (hr.mono (by first | decide | omega)) (a_cons (d_var 1) a_nil)))))
    ss_nil)
    (ss_cons (s_if (d_tcmp od_in (d_var 0) (d_tup (a_cons d_str (a_cons d_str a_nil))) (by rfl))
    (ss_one (s_ret (d_ifExp (d_tcmp (od_eq hr) (d_var 0) d_str (nomark _)) (d_makeC0 h_One (hr.mono (by first | decide | omega))) (d_makeC0 h_Nothing (hr.mono (by first | decide | omega))))))
    ss_nil)
    (ss_cons (s_if (d_tcmp od_in (d_var 0) (d_tup (a_cons d_str (a_cons d_str a_nil))) (by rfl))
    (ss_one (s_ret (d_ifExp (d_tcmp (od_eq hr) (d_var 0) d_str (nomark _)) (d_makeC h_Row (hr.mono (by first | decide | omega)) (a_cons (d_var 2) a_nil)) (d_makeC h_Choice (hr.mono (by first | decide | omega)) (a_cons (d_var 2) a_nil)))))
    ss_nil)
    (ss_cons (s_if (d_tcmp od_in (d_var 0) (d_tup (a_cons d_str (a_cons d_str a_nil))) (by rfl))
    (ss_one (s_ret (d_ifExp (d_tcmp (od_eq hr) (d_var 0) d_str (nomark _)) (d_makeC h_Again (hr.mono (by first | decide | omega)) (a_cons (d_ix (d_var 2) d_int) a_nil)) (d_makeC h_Maybe (hr.mono (by first | decide | omega)) (a_cons (d_ix (d_var 2) d_int) a_nil)))))
    ss_nil)
    (ss_one (s_ret (d_ifExp (d_tcmp (od_eq hr) (d_var 0) d_str (nomark _)) (d_makeC h_Ahead (hr.mono (by first | decide | omega)) (a_cons (d_ix (d_var 2) d_int) a_nil)) (d_makeC h_Unless (hr.mono (by first | decide | omega)) (a_cons (d_ix (d_var 2) d_int) a_nil))))))))), fun ds M Q Ed h => ?_⟩
  · obtain ⟨v, rfl, _⟩ := h
    rfl
  · obtain ⟨v, rfl, hl, q⟩ := h
    have e : startD N_s_way_of [.str v.word, .str v.sign, .lst (v.inner.map (WT.o W))] = [.val (.str v.word), .val (.str v.sign), .val (.lst (v.inner.map (WT.o W)))] := rfl
    rw [e]
    cases v with
    | nothing => rw [show WT.nothing.word = ("nothing" : Str) from rfl]; walk_at "a"; exact q
    | one => rw [show WT.one.word = ("one" : Str) from rfl]; walk_at "a"; exact q
    | letter s => rw [show (WT.letter s).word = ("letter" : Str) from rfl]; walk_at "a"; exact q
    | call s => rw [show (WT.call s).word = ("call" : Str) from rfl]; walk_at "a"; exact q
    | un kk v =>
      rw [show (WT.un kk v).word = kk.s from rfl]
      cases kk
      · walk_at "a"; exact q
      · walk_at "a"; exact q
      · walk_at "a"; exact q
      · walk_at "a"; exact q
    | many c ws =>
      have q' : Q (.obj (W.many c) (wayN ++ [("ways" : Str)]) [.str (manyS c), .str "", .tup (ws.map (WT.o W)), .tup (ws.map (WT.o W))]) M := by
        rw [← WT.oOf_map]
        exact q
      rw [show (WT.many c ws).word = manyS c from rfl]
      cases c
      · walk_at "a"; exact q'
      · walk_at "a"; exact q'


theorem sc_s_BadText___init__ : NdefX.NScope N_s_BadText___init__ ["self", "line", "place"] ["__class__"] (defScope s_BadText___init__) := NdefX.nscope_by (by decide +kernel)
theorem ok_BadText_init (T : TxtP mg) {C f : Addr} (Df : SupXAt P K C "__init__" "BadText.__init__" ["self", "line", "place"] s_BadText___init__ f) (no : PySem.W.findIn K (.ref C) "line" = some none) (no2 : PySem.W.findIn K (.ref C) "place" = some none) : ∃ fd, FnOk P w K mg base CX0 1 f fd ["self", "line", "place"] (spXI C ["line", "place"]) ∧ Binds K fd ["self", "line", "place"] [] := by
  obtain ⟨cc, cda, fd, G, Sk, hb⟩ := Df.ex
  exact ⟨fd, ok_exc2 (k := 0) G rfl sc_s_BadText___init__ rfl rfl rfl rfl rfl rfl rfl rfl ⟨by decide, by decide⟩ ⟨by decide, by decide⟩ ⟨by decide, by decide⟩ T.z_super Sk no no2, hb⟩


theorem sc_s_Reader___init__ : FnScope N_s_Reader___init__ ["self", "text", "line", "make"] (defScope s_Reader___init__) := ⟨rfl, rfl, rfl, by decide +kernel, rfl, by decide +kernel, by decide +kernel⟩
theorem ok_readerinit (T : TxtP mg) {RC f : Addr} (Df : MethAt K "__init__" "Reader.__init__" ["self", "text", "line", "make"] s_Reader___init__ f) (c : Cls K RC) (hm : Meth K RC "__init__" f) (ft : FldOk K RC "text") (fl : FldOk K RC "line") (fm : FldOk K RC "make") (fp : FldOk K RC "place") : RM P w K mg base 1 RC "__init__" ["self", "text", "line", "make"] (spRInit RC) := by
  refine okRM Df c hm sc_s_Reader___init__ (fun ds M Q E h => ?_) fun cdv A outer s H E hr => ⟨_, (ss_cons (s_fld (d_var 0) (d_var 1))
    (ss_cons (s_fld (d_var 0) (d_var 2))
    (ss_cons (s_fld (d_var 0) (d_var 3))
    (ss_one (s_fld (d_var 0) d_int))))), fun ds M Q Ed h => ?_⟩
  · obtain ⟨y, mk, t, n, rfl, _⟩ := h
    rfl
  · obtain ⟨y, mk, t, n, rfl, hM, q⟩ := h
    have e : startD N_s_Reader___init__ [.ref y, .str (tx t), .int (n : Nat), .ref mk] = [.val (.ref y), .val (.str (tx t)), .val (.int (n : Nat)), .val (.ref mk)] := rfl
    rw [e]
    walk_at "dl"
    rw [hM]
    walk_at "dl"
    refine ⟨ft, by decide, ?_⟩
    rw [ri1]
    walk_at "dl"
    rw [mset_same]
    walk_at "dl"
    refine ⟨fl, by decide, ?_⟩
    rw [(ri2 (x := .non) (y := .non)).1, ri2.2, mset_mset]
    walk_at "dl"
    rw [mset_same]
    walk_at "dl"
    refine ⟨fm, by decide, ?_⟩
    rw [(ri3 (x := .non) (y := .non) (z := .non)).1, ri3.2, mset_mset]
    walk_at "dl"
    rw [mset_same]
    walk_at "dl"
    refine ⟨fp, by decide, ?_⟩
    rw [(ri4 (x := .non) (y := .non) (z := .non) (u := .non)).1, ri4.2, mset_mset]
    exact q


theorem sc_s_Reader_next_sign : FnScope N_s_Reader_next_sign ["self"] (defScope s_Reader_next_sign) := ⟨rfl, rfl, rfl, by decide +kernel, rfl, by decide +kernel, by decide +kernel⟩
theorem ok_next (T : TxtP mg) {RC f : Addr} (Df : MethAt K "next_sign" "Reader.next_sign" ["self"] s_Reader_next_sign f) (c : Cls K RC) (hm : Meth K RC "next_sign" f) (ft : FldOk K RC "text") (fp : FldOk K RC "place") : RM P w K mg base 1 RC "next_sign" ["self"] (spNext RC) := by
  refine okRM Df c hm sc_s_Reader_next_sign (fun ds M Q E h => ?_) fun cdv A outer s H E hr => ⟨_, (ss_cons (s_while PassesOwn.never (d_tcmp (od_eq hr) (d_slice (d_fld (d_var 0)) (o_some (d_fld (d_var 0))) (o_some (d_op od_add (d_fld (d_var 0)) d_int))) d_str (nomark _))
    (ss_one (s_fadd (d_var 0) d_int)))
    (ss_one (s_ret (d_slice (d_fld (d_var 0)) (o_some (d_fld (d_var 0))) (o_some (d_op od_add (d_fld (d_var 0)) d_int)))))), fun ds M Q Ed h => ?_⟩
  · obtain ⟨a, mk, t, n, p, rfl, _⟩ := h
    rfl
  · obtain ⟨a, mk, t, n, p, rfl, hM, hp, hl, hc, q⟩ := h
    have e : startD N_s_Reader_next_sign [.ref a] = [.val (.ref a)] := rfl
    rw [e]
    walk_at "dl"
    refine while_ind (m := t.length - p) (fun m env M' => env = [.val (.ref a)] ∧ ∃ p', M' = mset M a (rdMO RC mk t n p') ∧ p' ≤ t.length ∧ sk t p' = sk t p ∧ m = t.length - p') ?_ ⟨rfl, p, ?_, hp, rfl, rfl⟩
    · rintro m R hR env M' ⟨rfl, p', rfl, hp', hs, rfl⟩
      walk_at "dl"
      repeat walk_at "rd"
      rw [cut_one]
      have hz : (tx t).length ≤ sizeLine := by rw [tx_len, sizeLine_eq]; omega
      have okS : okEq (.str (tx (match t[p']? with
        | some c => [c]
        | none => []))) := by
        cases ht : t[p']? with
        | none => exact okEq_tx fun x hx => by cases hx
        | some c => exact okEq_tx fun x hx => by rw [List.mem_singleton.mp hx]; exact hc c (List.mem_of_getElem? ht)
      refine ⟨hz, ?_⟩
      walk_at "dl"
      refine ⟨okS, okEq_flat (by decide +kernel), ?_⟩
      walk_at "dl"
      rw [deq_str, show ((" " : Str)) = tx [32] from by decide +kernel, tx_beq]
      by_cases h32 : t[p']? = some 32
      · rw [h32, decide_eq_true rfl]
        walk_at "dl"
        rw [mset_same]
        walk_at "dl"
        refine ⟨fp, _, fg_place, ?_⟩
        walk_at "dl"
        refine ⟨1, rfl, mset_same, by decide, ?_⟩
        walk_at "dl"
        rw [fp_N, fp_D, mset_mset]
        have hlt := (List.getElem?_eq_some_iff.mp h32).1
        exact hR (t.length - (p' + 1)) _ _ (by omega) ⟨rfl, p' + 1, rfl, by omega, by rw [← sk_step h32, hs], rfl⟩
      · rw [decide_eq_false (by
          intro z
          apply h32
          cases ht : t[p']? with
          | none => rw [ht] at z; cases z
          | some c => rw [ht] at z; cases z; rfl)]
        walk_at "dl"
        repeat walk_at "rd"
        rw [cut_one]
        refine ⟨hz, ?_⟩
        walk_at "dl"
        have e2 := sk_stop h32
        rw [hs] at e2
        subst e2
        exact q
    · funext b
      unfold mset
      split
      · rename_i z
        rw [z, hM]
      · rfl


theorem sc_s_Reader_refuse : FnScope N_s_Reader_refuse ["self"] (defScope s_Reader_refuse) := ⟨rfl, rfl, rfl, by decide +kernel, rfl, by decide +kernel, by decide +kernel⟩
theorem ok_refuse (T : TxtP mg) {RC BT f : Addr} {k : Nat} (hk : 3 ≤ k) (h_BadText : ExCl P w K mg base 2 "BadText" BT ["line", "place"]) (Df : MethAt K "refuse" "Reader.refuse" ["self"] s_Reader_refuse f) (c : Cls K RC) (hm : Meth K RC "refuse" f) (fl : FldOk K RC "line") (fp : FldOk K RC "place") : RX P w K mg base (k + 1) RC "refuse" ["self"] (spRefuse RC BT) := by
  refine okRX Df c hm sc_s_Reader_refuse (fun ds M Q E h => ?_) fun {_} cdv A outer s H E Ed hr tk => ⟨_, (ss_one (s_raise rfl tk h_BadText (hr.mono (by first | decide | omega)) (a_cons (d_fld (d_var 0)) (a_cons (d_fld (d_var 0)) a_nil)))), fun ds M Q h => ?_⟩
  · obtain ⟨a, mk, t, n, p, rfl, _⟩ := h
    rfl
  · obtain ⟨a, mk, t, n, p, rfl, hM, q⟩ := h
    have e : startD N_s_Reader_refuse [.ref a] = [.val (.ref a)] := rfl
    rw [e]
    walk_at "dl"
    repeat walk_at "rd"
    exact ⟨rfl, by decide, q⟩


theorem sc_s_Reader_step_over : FnScope N_s_Reader_step_over ["self", "sign"] (defScope s_Reader_step_over) := ⟨rfl, rfl, rfl, by decide +kernel, rfl, by decide +kernel, by decide +kernel⟩
theorem ok_stepover (T : TxtP mg) {RC BT f : Addr} {k : Nat} (hk : 1 ≤ k) (h_next_sign : RM P w K mg base 1 RC "next_sign" ["self"] (spNext RC)) (h_refuse : RX P w K mg base k RC "refuse" ["self"] (spRefuse RC BT)) (Df : MethAt K "step_over" "Reader.step_over" ["self", "sign"] s_Reader_step_over f) (c : Cls K RC) (hm : Meth K RC "step_over" f) (fp : FldOk K RC "place") : RX P w K mg base (k + 1) RC "step_over" ["self", "sign"] (spStep RC BT) := by
  refine okRX Df c hm sc_s_Reader_step_over (fun ds M Q E h => ?_) fun {_} cdv A outer s H E Ed hr tk => ⟨_, (ss_cons (s_if (d_tcmp (od_ne hr) (d_rm0 h_next_sign (hr.mono (by first | decide | omega)) (d_var 0)) (d_var 1) (nomark _))
    (ss_one (s_expr (d_rx0 tk h_refuse (hr.mono (by first | decide | omega)) (d_var 0))))
    ss_nil)
    (ss_one (s_fadd (d_var 0) d_int))), fun ds M Q h => ?_⟩
  · obtain ⟨a, mk, t, n, p, c, rfl, _⟩ := h
    rfl
  · obtain ⟨a, mk, t, n, p, c, rfl, hM, hp, hl, hc, hcc, q⟩ := h
    have e : startD N_s_Reader_step_over [.ref a, .str (tx [c])] = [.val (.ref a), .val (.str (tx [c]))] := rfl
    rw [e]
    walk_at "dl"
    walk_at "rm"
    refine ⟨a, mk, t, n, p, rfl, hM, hp, hl, hc, ?_⟩
    walk_at "dl"
    refine ⟨sgnAt_ok hc _, okEq_tx fun x hx => by rw [List.mem_singleton.mp hx]; exact hcc, ?_⟩
    walk_at "dl"
    rw [deq_str, tx_beq]
    unfold pStep at q
    by_cases hs : t[sk t p]? = some c
    · rw [if_pos hs] at q
      rw [hs, decide_eq_true rfl]
      walk_at "dl"
      walk_at "fa"
      exact q
    · rw [if_neg hs] at q
      rw [decide_eq_false (by
        intro z
        apply hs
        cases ht : t[sk t p]? with
        | none => rw [ht] at z; cases z
        | some d => rw [ht] at z; cases z; rfl)]
      walk_at "dl"
      walk_at "rm"
      exact ⟨a, mk, t, n, sk t p, rfl, mset_same, q⟩


theorem sc_s_Reader_read_name : FnScope N_s_Reader_read_name ["self"] (defScope s_Reader_read_name) := ⟨rfl, rfl, rfl, by decide +kernel, rfl, by decide +kernel, by decide +kernel⟩
theorem ok_readname (T : TxtP mg) {RC BT f : Addr} {tkM : Tok} (gM : mg "MOST_LETTERS" = some (.int 12 tkM)) {k : Nat} (hk : 1 ≤ k) (h_next_sign : RM P w K mg base 1 RC "next_sign" ["self"] (spNext RC)) (h_is_letter : RM P w K mg base 1 RC "is_letter" ["self"] (spIsLet RC)) (h_refuse : RX P w K mg base k RC "refuse" ["self"] (spRefuse RC BT)) (Df : MethAt K "read_name" "Reader.read_name" ["self"] s_Reader_read_name f) (c : Cls K RC) (hm : Meth K RC "read_name" f) (ft : FldOk K RC "text") (fp : FldOk K RC "place") : RX P w K mg base (k + 1) RC "read_name" ["self"] (spName' RC BT) := by
  refine okRX Df c hm sc_s_Reader_read_name (fun ds M Q E h => ?_) fun {_} cdv A outer s H E Ed hr tk => ⟨_, (ss_cons (s_expr (d_rm0 h_next_sign (hr.mono (by first | decide | omega)) (d_var 0)))
    (ss_cons (s_set (i := 1) sc_s_Reader_read_name.nd (d_fld (d_var 0)))
    (ss_cons (s_while (passes_of rfl) (d_wt (w_and (d_tcmp od_lt (d_op od_sub (d_fld (d_var 0)) (d_var 1)) (d_globI rfl gM) (nomark _)) (w_and1 (d_truth (d_rm0 h_is_letter (hr.mono (by first | decide | omega)) (d_var 0))))))
    (ss_one (s_fadd (d_var 0) d_int)))
    (ss_cons (s_if (d_wt (w_or (d_tcmp (od_eq hr) (d_fld (d_var 0)) (d_var 1) (nomark _)) (w_or1 (d_truth (d_rm0 h_is_letter (hr.mono (by first | decide | omega)) (d_var 0))))))
    (ss_one (s_expr (d_rx0 tk h_refuse (hr.mono (by first | decide | omega)) (d_var 0))))
    ss_nil)
    (ss_one (s_ret (d_slice (d_fld (d_var 0)) (o_some (d_var 1)) (o_some (d_fld (d_var 0)))))))))), fun ds M Q h => ?_⟩
  · obtain ⟨a, mk, t, n, p, rfl, _⟩ := h
    rfl
  · obtain ⟨a, mk, t, n, p, rfl, hM, hp, hl, hc, q⟩ := h
    have e : startD N_s_Reader_read_name [.ref a] = [.val (.ref a), .no] := rfl
    rw [e]
    have hz : (tx t).length ≤ sizeLine := by rw [tx_len, sizeLine_eq]; omega
    have hs := sk_le hp
    walk_at "dl"
    walk_at "rm"
    refine ⟨a, mk, t, n, p, rfl, hM, hp, hl, hc, ?_⟩
    walk_at "dl"
    repeat walk_at "rd"
    refine while_ind (m := 12) (fun m env M' => env = [.val (.ref a), .val (.int ((sk t p : Nat)))] ∧ ∃ x, M' = mset M a (rdMO RC mk t n x) ∧ x ≤ t.length ∧ x + m = sk t p + 12 ∧ sk t p ≤ x ∧ nameEnd t m x = nameEnd t 12 (sk t p)) ?_ ⟨rfl, sk t p, rfl, hs, rfl, Nat.le_refl _, rfl⟩
    rintro m R hR env M' ⟨rfl, x, rfl, h1, h2, h3, h4⟩
    walk_at "dl"
    repeat walk_at "rd"
    rw [pName_eq] at q
    by_cases h12 : (x : Int) - (sk t p : Int) < 12
    · rw [decide_eq_true h12]
      walk_at "dl"
      walk_at "rm"
      refine ⟨a, mk, t, n, x, rfl, mset_same, h1, hl, hc, ?_⟩
      walk_at "dl"
      obtain ⟨m', rfl⟩ : ∃ m', m = m' + 1 := ⟨m - 1, by omega⟩
      rw [nameEnd_succ t m'] at h4
      cases hb : isLet t x
      · rw [hb, if_neg (by intro z; cases z)] at h4
        rw [← h4] at q
        walk_at "dl"
        repeat walk_at "rd"
        refine ⟨okEq_nat _, okEq_nat _, ?_⟩
        walk_at "dl"
        rw [deq_int]
        by_cases hxs : x = sk t p
        · rw [decide_eq_true (by omega)]
          rw [if_pos (.inl hxs)] at q
          walk_at "dl"
          walk_at "rm"
          exact ⟨a, mk, t, n, x, rfl, mset_same, q⟩
        · rw [decide_eq_false (by omega)]
          walk_at "dl"
          walk_at "rm"
          refine ⟨a, mk, t, n, x, rfl, mset_same, h1, hl, hc, ?_⟩
          walk_at "dl"
          cases hb2 : isLet t x
          · rw [if_neg (by rw [hb2]; intro z; rcases z with z | z; exact hxs z; cases z)] at q
            walk_at "dl"
            repeat walk_at "rd"
            rw [cut_mid]
            refine ⟨hz, ?_⟩
            walk_at "dl"
            exact q
          · rw [if_pos (.inr hb2)] at q
            walk_at "dl"
            walk_at "rm"
            exact ⟨a, mk, t, n, x, rfl, mset_same, q⟩
      · rw [hb, if_pos rfl] at h4
        have hlt : x < t.length := by
          unfold isLet at hb
          cases ht : t[x]? with
          | none => rw [ht] at hb; cases hb
          | some d => exact (List.getElem?_eq_some_iff.mp ht).1
        walk_at "dl"
        walk_at "fa"
        exact hR m' _ _ (Nat.lt_succ_self _) ⟨rfl, x + 1, rfl, hlt, by omega, by omega, h4⟩
    · rw [decide_eq_false h12]
      have hm0 : m = 0 := by omega
      subst hm0
      rw [nameEnd_zero] at h4
      rw [← h4] at q
      walk_at "dl"
      repeat walk_at "rd"
      refine ⟨okEq_nat _, okEq_nat _, ?_⟩
      walk_at "dl"
      rw [deq_int]
      by_cases hxs : x = sk t p
      · rw [decide_eq_true (by omega)]
        rw [if_pos (.inl hxs)] at q
        walk_at "dl"
        walk_at "rm"
        exact ⟨a, mk, t, n, x, rfl, mset_same, q⟩
      · rw [decide_eq_false (by omega)]
        walk_at "dl"
        walk_at "rm"
        refine ⟨a, mk, t, n, x, rfl, mset_same, h1, hl, hc, ?_⟩
        walk_at "dl"
        cases hb2 : isLet t x
        · rw [if_neg (by rw [hb2]; intro z; rcases z with z | z; exact hxs z; cases z)] at q
          walk_at "dl"
          repeat walk_at "rd"
          rw [cut_mid]
          refine ⟨hz, ?_⟩
          walk_at "dl"
          exact q
        · rw [if_pos (.inr hb2)] at q
          walk_at "dl"
          walk_at "rm"
          exact ⟨a, mk, t, n, x, rfl, mset_same, q⟩


theorem sc_s_Reader_is_letter : FnScope N_s_Reader_is_letter ["self"] (defScope s_Reader_is_letter) := ⟨rfl, rfl, rfl, by decide +kernel, rfl, by decide +kernel, by decide +kernel⟩
theorem ok_islet (T : TxtP mg) {RC f : Addr} {tkL : Tok} (gL : mg "LETTERS" = some (.str (tx lettersN) tkL)) (Df : MethAt K "is_letter" "Reader.is_letter" ["self"] s_Reader_is_letter f) (c : Cls K RC) (hm : Meth K RC "is_letter" f) (ft : FldOk K RC "text") (fp : FldOk K RC "place") : RM P w K mg base 1 RC "is_letter" ["self"] (spIsLet RC) := by
  refine okRM Df c hm sc_s_Reader_is_letter (fun ds M Q E h => ?_) fun cdv A outer s H E hr => ⟨_, (ss_cons (s_set (i := 1) sc_s_Reader_is_letter.nd (d_slice (d_fld (d_var 0)) (o_some (d_fld (d_var 0))) (o_some (d_op od_add (d_fld (d_var 0)) d_int))))
    (ss_one (s_ret (d_and (d_cmp (od_ne hr) (d_var 1) d_str (nomark _)) (d_one (d_cmp od_inS (d_var 1) (d_globS rfl gL) (by rfl))))))), fun ds M Q Ed h => ?_⟩
  · obtain ⟨a, mk, t, n, p, rfl, _⟩ := h
    rfl
  · obtain ⟨a, mk, t, n, p, rfl, hM, hp, hl, hc, q⟩ := h
    have e : startD N_s_Reader_is_letter [.ref a] = [.val (.ref a), .no] := rfl
    rw [e]
    have hz : (tx t).length ≤ sizeLine := by rw [tx_len, sizeLine_eq]; omega
    have okS : okEq (.str (tx (match t[p]? with
      | some c => [c]
      | none => []))) := by
      cases ht : t[p]? with
      | none => exact okEq_tx fun x hx => by cases hx
      | some c => exact okEq_tx fun x hx => by rw [List.mem_singleton.mp hx]; exact hc c (List.mem_of_getElem? ht)
    walk_at "dl"
    repeat walk_at "rd"
    rw [cut_one]
    refine ⟨hz, ?_⟩
    walk_at "dl"
    refine ⟨okS, okEq_flat (by decide +kernel), ?_⟩
    walk_at "dl"
    rw [deq_str, tx_empty, tx_beq]
    unfold isLet at q
    cases ht : t[p]? with
    | none =>
      rw [ht] at q
      rw [decide_eq_true rfl]
      walk_at "dl"
      exact q
    | some d =>
      rw [ht] at q
      rw [decide_eq_false (by intro z; cases z)]
      walk_at "dl"
      refine ⟨d, tx lettersN, rfl, rfl, ?_⟩
      walk_at "dl"
      exact q


theorem sc_s_Reader_begins : FnScope N_s_Reader_begins ["self"] (defScope s_Reader_begins) := ⟨rfl, rfl, rfl, by decide +kernel, rfl, by decide +kernel, by decide +kernel⟩
theorem ok_begins (T : TxtP mg) {RC f : Addr} {tkL : Tok} (gL : mg "LETTERS" = some (.str (tx lettersN) tkL)) (h_next_sign : RM P w K mg base 1 RC "next_sign" ["self"] (spNext RC)) (Df : MethAt K "begins" "Reader.begins" ["self"] s_Reader_begins f) (c : Cls K RC) (hm : Meth K RC "begins" f) : RM P w K mg base 2 RC "begins" ["self"] (spBegins RC) := by
  refine okRM Df c hm sc_s_Reader_begins (fun ds M Q E h => ?_) fun cdv A outer s H E hr => ⟨_, (ss_cons (s_set (i := 1) sc_s_Reader_begins.nd (d_rm0 h_next_sign (hr.mono (by first | decide | omega)) (d_var 0)))
    (ss_one (s_ret (d_and (d_cmp (od_ne hr) (d_var 1) d_str (nomark _)) (d_one (d_cmp od_inS (d_var 1) (d_op od_add (d_globS rfl gL) d_str) (by rfl))))))), fun ds M Q Ed h => ?_⟩
  · obtain ⟨a, mk, t, n, p, rfl, _⟩ := h
    rfl
  · obtain ⟨a, mk, t, n, p, rfl, hM, hp, hl, hc, q⟩ := h
    have e : startD N_s_Reader_begins [.ref a] = [.val (.ref a), .no] := rfl
    rw [e]
    walk_at "dl"
    walk_at "rm"
    refine ⟨a, mk, t, n, p, rfl, hM, hp, hl, hc, ?_⟩
    walk_at "dl"
    refine ⟨sgnAt_ok hc _, okEq_flat (by decide +kernel), ?_⟩
    walk_at "dl"
    rw [deq_str, tx_empty, tx_beq]
    unfold begins at q
    cases ht : t[sk t p]? with
    | none =>
      rw [ht] at q
      rw [decide_eq_true rfl]
      walk_at "dl"
      exact q
    | some d =>
      rw [ht] at q
      rw [decide_eq_false (by intro z; cases z)]
      walk_at "dl"
      refine ⟨by rw [sizeLine_eq]; decide +kernel, ?_⟩
      refine ⟨d, _, sgnAt_some ht, rfl, ?_⟩
      walk_at "dl"
      rw [show decide (d ∈ (tx lettersN ++ (".<(&!" : Str)).cps.toList) = begC d from ?_]
      · exact q
      · rw [show (".<(&!" : Str) = tx [cDot, cLt, cOpen, cAmp, cBang] from by decide +kernel, tx_add, tx_cps]
        unfold begC
        simp only [List.mem_append, Bool.decide_or]


theorem sc_s_Reader_read_row : FnScope N_s_Reader_read_row ["self"] (defScope s_Reader_read_row) := ⟨rfl, rfl, rfl, by decide +kernel, rfl, by decide +kernel, by decide +kernel⟩
theorem ok_readrow (T : TxtP mg) {W : WA} {RC BT mk f : Addr} (gmk : mg "way_of" = some (.ref mk)) {k n : Nat} (hk : 4 ≤ k) (h_way_of : Fn P w K mg base 4 "way_of" ["word", "sign", "inner"] (spWayMake W)) (h_begins : RM P w K mg base 2 RC "begins" ["self"] (spBegins RC)) (h_read_look : RX P w K mg base k RC "read_look" ["self"] (spRd W RC BT mk n fun t p => pLook t n p)) (Df : MethAt K "read_row" "Reader.read_row" ["self"] s_Reader_read_row f) (c : Cls K RC) (hm : Meth K RC "read_row" f) (fm : FldOk K RC "make") : RX P w K mg base (k + 1) RC "read_row" ["self"] (spRd W RC BT mk n fun t p => pRow t (pLook t n) p) := by
  refine okRX Df c hm sc_s_Reader_read_row (fun ds M Q E h => ?_) fun {_} cdv A outer s H E Ed hr tk => ⟨_, (ss_cons (s_setN (i := 1) sc_s_Reader_read_row.nd (n_lst (a_cons (d_rx0 tk h_read_look (hr.mono (by first | decide | omega)) (d_var 0)) a_nil)))
    (ss_cons (s_while (passes_of rfl) (d_truth (d_rm0 h_begins (hr.mono (by first | decide | omega)) (d_var 0)))
    (ss_one (s_append 1 (d_rx0 tk h_read_look (hr.mono (by first | decide | omega)) (d_var 0)))))
    (ss_one (s_ret (d_ifExp (d_tcmp (od_eq hr) (d_lenO 1 rfl T.z_len) d_int (nomark _)) (d_ixO 1 d_int) (d_fldCall h_way_of (hr.mono (by first | decide | omega)) (d_var 0) (a_cons d_str (a_cons d_str (a_cons (d_var 1) a_nil))))))))), fun ds M Q h => ?_⟩
  · obtain ⟨a, t, ln, p, rfl, _⟩ := h
    rfl
  · obtain ⟨a, t, ln, p, rfl, hM, hp, hl, hc, hd, q⟩ := h
    have e : startD N_s_Reader_read_row [.ref a] = [.val (.ref a), .no] := rfl
    rw [e]
    walk_at "dl"
    walk_at "rm"
    refine ⟨a, t, ln, p, rfl, hM, hp, hl, hc, hd, ?_⟩
    unfold pRow at q
    dsimp only [rdEnd] at q ⊢
    cases hr : pLook t n p with
    | bad r =>
      rw [hr] at q
      exact q
    | ok w1 r =>
      rw [hr] at q
      dsimp only at q ⊢
      walk_at "a"
      have hr0 := goes_look t n p w1 r hp hr
      refine while_ind (m := t.length + 1) (fun k env M' => ∃ (ws : List WT) (x : Nat), env = [.val (.ref a), .own (ws.map (WT.o W))] ∧ M' = mset M a (rdMO RC mk t ln x) ∧ p ≤ x ∧ x ≤ t.length ∧ ws ≠ [] ∧ ws.length ≤ x ∧ t.length < k + x ∧ rdEnd W RC BT mk a t ln M Q Ed (pRows t (pLook t n) k ws x)) ?_ ⟨[w1], r, rfl, rfl, by omega, hr0.2, by simp, by rw [List.length_singleton]; omega, by omega, q⟩
      rintro k R hR env M' ⟨ws, x, rfl, rfl, g1, g2, g3, g4, g5, q⟩
      obtain ⟨k, rfl⟩ : ∃ k', k = k' + 1 := ⟨k - 1, by omega⟩
      have gs := sk_ge t x
      have gl := sk_le g2
      unfold pRows at q
      walk_at "dl"
      walk_at "rm"
      refine ⟨a, mk, t, ln, x, rfl, mset_same, g2, hl, hc, ?_⟩
      rw [mset_mset]
      cases hb : begins t x
      · rw [hb, if_neg (by intro z; cases z)] at q
        dsimp only [rdEnd] at q
        cases ws with
        | nil => exact absurd rfl g3
        | cons w0 r0 =>
          cases r0 with
          | nil =>
            walk_at "a"
            exact q
          | cons w2 r2 =>
            have hz : ((w0 :: w2 :: r2).map (WT.o W)).length < 1000000 := by rw [List.length_map]; omega
            walk_at "dl"
            refine ⟨okEq_flat rfl, okEq_flat rfl, ?_⟩
            walk_at "dl"
            rw [deq_int, decide_eq_false (by rw [List.length_map, List.length_cons, List.length_cons]; omega)]
            walk_at "dl"
            rw [insD_set]
            walk_at "dl"
            refine ⟨fm, ⟨mk, fg_make, gmk⟩, ?_⟩
            walk_at "dl"
            exact ⟨.many false (w0 :: w2 :: r2), rfl, by rw [List.length_map] at hz; exact hz, q⟩
      · rw [hb, if_pos rfl] at q
        walk_at "dl"
        walk_at "rm"
        refine ⟨a, t, ln, sk t x, rfl, mset_same, gl, hl, hc, Nat.lt_of_le_of_lt (dc_mono (by omega)) hd, ?_⟩
        cases hr2 : pLook t n (sk t x) with
        | bad y =>
          rw [hr2] at q
          dsimp only [rdEnd] at q ⊢
          rw [hr2]
          dsimp only
          rw [mset_mset]
          exact q
        | ok w2 y =>
          have hy := goes_look t n (sk t x) w2 y gl hr2
          rw [hr2] at q
          dsimp only [rdEnd] at q ⊢
          rw [hr2]
          dsimp only
          rw [mset_mset]
          walk_at "dl"
          refine ⟨by rw [List.length_map, sizeLine_eq]; omega, hR k _ _ (Nat.lt_succ_self _) ⟨ws ++ [w2], y, by rw [List.map_append]; rfl, rfl, by omega, hy.2, by simp, by rw [List.length_append, List.length_singleton]; omega, by omega, q⟩⟩


theorem sc_s_Reader_read_choice : FnScope N_s_Reader_read_choice ["self"] (defScope s_Reader_read_choice) := ⟨rfl, rfl, rfl, by decide +kernel, rfl, by decide +kernel, by decide +kernel⟩
theorem ok_readchoice (T : TxtP mg) {W : WA} {RC BT mk f : Addr} (gmk : mg "way_of" = some (.ref mk)) {k n : Nat} (hk : 4 ≤ k) (h_way_of : Fn P w K mg base 4 "way_of" ["word", "sign", "inner"] (spWayMake W)) (h_next_sign : RM P w K mg base 1 RC "next_sign" ["self"] (spNext RC)) (h_read_row : RX P w K mg base k RC "read_row" ["self"] (spRd W RC BT mk n fun t p => pRow t (pLook t n) p)) (Df : MethAt K "read_choice" "Reader.read_choice" ["self"] s_Reader_read_choice f) (c : Cls K RC) (hm : Meth K RC "read_choice" f) (fp : FldOk K RC "place") (fm : FldOk K RC "make") : RX P w K mg base (k + 1) RC "read_choice" ["self"] (spRd W RC BT mk n fun t p => pChoice t (pLook t n) p) := by
  refine okRX Df c hm sc_s_Reader_read_choice (fun ds M Q E h => ?_) fun {_} cdv A outer s H E Ed hr tk => ⟨_, (ss_cons (s_setN (i := 1) sc_s_Reader_read_choice.nd (n_lst (a_cons (d_rx0 tk h_read_row (hr.mono (by first | decide | omega)) (d_var 0)) a_nil)))
    (ss_cons (s_while (passes_of rfl) (d_tcmp (od_eq hr) (d_rm0 h_next_sign (hr.mono (by first | decide | omega)) (d_var 0)) d_str (nomark _))
    (ss_cons (s_fadd (d_var 0) d_int)
    (ss_one (s_append 1 (d_rx0 tk h_read_row (hr.mono (by first | decide | omega)) (d_var 0))))))
    (ss_one (s_ret (d_ifExp (d_tcmp (od_eq hr) (d_lenO 1 rfl T.z_len) d_int (nomark _)) (d_ixO 1 d_int) (d_fldCall h_way_of (hr.mono (by first | decide | omega)) (d_var 0) (a_cons d_str (a_cons d_str (a_cons (d_var 1) a_nil))))))))), fun ds M Q h => ?_⟩
  · obtain ⟨a, t, ln, p, rfl, _⟩ := h
    rfl
  · obtain ⟨a, t, ln, p, rfl, hM, hp, hl, hc, hd, q⟩ := h
    have e : startD N_s_Reader_read_choice [.ref a] = [.val (.ref a), .no] := rfl
    rw [e]
    walk_at "dl"
    walk_at "rm"
    refine ⟨a, t, ln, p, rfl, hM, hp, hl, hc, hd, ?_⟩
    unfold pChoice at q
    dsimp only [rdEnd] at q ⊢
    cases hr : pRow t (pLook t n) p with
    | bad r =>
      rw [hr] at q
      exact q
    | ok w1 r =>
      rw [hr] at q
      dsimp only at q ⊢
      walk_at "a"
      have hr0 := goes_row (goes_look t n) p w1 r hp hr
      refine while_ind (m := t.length + 1) (fun k env M' => ∃ (ws : List WT) (x : Nat), env = [.val (.ref a), .own (ws.map (WT.o W))] ∧ M' = mset M a (rdMO RC mk t ln x) ∧ p ≤ x ∧ x ≤ t.length ∧ ws ≠ [] ∧ ws.length ≤ x ∧ t.length < k + x ∧ rdEnd W RC BT mk a t ln M Q Ed (pAlts t (pRow t (pLook t n)) k ws x)) ?_ ⟨[w1], r, rfl, rfl, by omega, hr0.2, by simp, by rw [List.length_singleton]; omega, by omega, q⟩
      rintro k R hR env M' ⟨ws, x, rfl, rfl, g1, g2, g3, g4, g5, q⟩
      obtain ⟨k, rfl⟩ : ∃ k', k = k' + 1 := ⟨k - 1, by omega⟩
      have gs := sk_ge t x
      have gl := sk_le g2
      unfold pAlts at q
      walk_at "dl"
      walk_at "rm"
      refine ⟨a, mk, t, ln, x, rfl, mset_same, g2, hl, hc, ?_⟩
      rw [mset_mset]
      walk_at "dl"
      refine ⟨sgnAt_ok hc _, okEq_flat (by decide +kernel), ?_⟩
      walk_at "dl"
      rw [deq_str, show (("/" : String) : Str) = tx [cSlash] from by decide +kernel, tx_beq]
      by_cases hsl : t[sk t x]? = some cSlash
      · rw [if_pos hsl] at q
        have hlt := (List.getElem?_eq_some_iff.mp hsl).1
        rw [hsl, decide_eq_true rfl]
        walk_at "dl"
        walk_at "fa"
        walk_at "dl"
        walk_at "rm"
        refine ⟨a, t, ln, sk t x + 1, rfl, mset_same, hlt, hl, hc, Nat.lt_of_le_of_lt (dc_mono (by omega)) hd, ?_⟩
        cases hr2 : pRow t (pLook t n) (sk t x + 1) with
        | bad y =>
          rw [hr2] at q
          dsimp only [rdEnd] at q ⊢
          rw [hr2]
          dsimp only
          rw [mset_mset]
          exact q
        | ok w2 y =>
          have hy : sk t x + 1 < y ∧ y ≤ t.length := goes_row (goes_look t n) (sk t x + 1) w2 y hlt hr2
          rw [hr2] at q
          dsimp only [rdEnd] at q ⊢
          rw [hr2]
          dsimp only
          rw [mset_mset]
          walk_at "dl"
          refine ⟨by rw [List.length_map, sizeLine_eq]; omega, hR k _ _ (Nat.lt_succ_self _) ⟨ws ++ [w2], y, by rw [List.map_append]; rfl, rfl, by omega, hy.2, by simp, by rw [List.length_append, List.length_singleton]; omega, by omega, q⟩⟩
      · rw [if_neg hsl] at q
        rw [decide_eq_false (by
          intro z
          apply hsl
          cases ht : t[sk t x]? with
          | none => rw [ht] at z; cases z
          | some d => rw [ht] at z; cases z; rfl)]
        dsimp only [rdEnd] at q
        walk_at "dl"
        cases ws with
        | nil => exact absurd rfl g3
        | cons w0 r0 =>
          cases r0 with
          | nil =>
            walk_at "a"
            exact q
          | cons w2 r2 =>
            have hz : ((w0 :: w2 :: r2).map (WT.o W)).length < 1000000 := by rw [List.length_map]; omega
            walk_at "dl"
            refine ⟨okEq_flat rfl, okEq_flat rfl, ?_⟩
            walk_at "dl"
            rw [deq_int, decide_eq_false (by rw [List.length_map, List.length_cons, List.length_cons]; omega)]
            walk_at "dl"
            rw [insD_set]
            walk_at "dl"
            refine ⟨fm, ⟨mk, fg_make, gmk⟩, ?_⟩
            walk_at "dl"
            exact ⟨.many true (w0 :: w2 :: r2), rfl, by rw [List.length_map] at hz; exact hz, q⟩


theorem sc_s_Reader_read_look : FnScope N_s_Reader_read_look ["self"] (defScope s_Reader_read_look) := ⟨rfl, rfl, rfl, by decide +kernel, rfl, by decide +kernel, by decide +kernel⟩
theorem ok_readlook (T : TxtP mg) {W : WA} {RC BT mk f aW : Addr} (gmk : mg "way_of" = some (.ref mk)) (gW : mg "WORDS" = some (.ref aW)) (hW : TabK K w aW wrdsK) {k n : Nat} (hk : 4 ≤ k) (h_way_of : Fn P w K mg base 4 "way_of" ["word", "sign", "inner"] (spWayMake W)) (h_next_sign : RM P w K mg base 1 RC "next_sign" ["self"] (spNext RC)) (h_read_look : RX P w K mg base k RC "read_look" ["self"] (spRd W RC BT mk n fun t p => pLook t n p)) (h_read_repeat : RX P w K mg base k RC "read_repeat" ["self"] (spRd W RC BT mk (n + 1) fun t p => pRepeat t (pChoice t (pLook t n)) p)) (Df : MethAt K "read_look" "Reader.read_look" ["self"] s_Reader_read_look f) (c : Cls K RC) (hm : Meth K RC "read_look" f) (fp : FldOk K RC "place") (fm : FldOk K RC "make") : RX P w K mg base (k + 1) RC "read_look" ["self"] (spRd W RC BT mk (n + 1) fun t p => pLook t (n + 1) p) := by
  refine okRX Df c hm sc_s_Reader_read_look (fun ds M Q E h => ?_) fun {_} cdv A outer s H E Ed hr tk => ⟨_, (ss_cons (s_set (i := 1) sc_s_Reader_read_look.nd (d_rm0 h_next_sign (hr.mono (by first | decide | omega)) (d_var 0)))
    (ss_cons (s_if (d_wt (w_or (d_tcmp (od_eq hr) (d_var 1) d_str (nomark _)) (w_or1 (d_tcmp od_ninS (d_var 1) d_str (by rfl)))))
    (ss_one (s_ret (d_rx0 tk h_read_repeat (hr.mono (by first | decide | omega)) (d_var 0))))
    ss_nil)
    (ss_cons (s_fadd (d_var 0) d_int)
    (ss_one (s_ret (d_fldCall h_way_of (hr.mono (by first | decide | omega)) (d_var 0) (a_cons (d_ixK hW (d_globR rfl gW) (d_var 1)) (a_cons d_str (a_cons (d_lst (a_cons (d_rx0 tk h_read_look (hr.mono (by first | decide | omega)) (d_var 0)) a_nil)) a_nil))))))))), fun ds M Q h => ?_⟩
  · obtain ⟨a, t, ln, p, rfl, _⟩ := h
    rfl
  · obtain ⟨a, t, ln, p, rfl, hM, hp, hl, hc, hd, q⟩ := h
    have e : startD N_s_Reader_read_look [.ref a] = [.val (.ref a), .no] := rfl
    rw [e]
    have hs := sk_le hp
    walk_at "dl"
    walk_at "rm"
    refine ⟨a, mk, t, ln, p, rfl, hM, hp, hl, hc, ?_⟩
    walk_at "dl"
    refine ⟨sgnAt_ok hc _, okEq_flat (by decide +kernel), ?_⟩
    walk_at "dl"
    rw [deq_str, tx_empty, tx_beq]
    unfold pLook at q
    dsimp only at q
    cases ht : t[sk t p]? with
    | none =>
      rw [ht] at q
      rw [decide_eq_true rfl]
      walk_at "dl"
      walk_at "rm"
      exact ⟨a, t, ln, sk t p, rfl, mset_same, hs, hl, hc, dc_sk hd, by
        unfold rdEnd at q ⊢
        simp only [mset_mset]
        exact q⟩
    | some d =>
      rw [ht] at q
      dsimp only at q
      rw [decide_eq_false (by intro z; cases z)]
      walk_at "dl"
      refine ⟨d, _, sgnAt_some ht, rfl, ?_⟩
      rw [amp_txt, tx_cps]
      walk_at "dl"
      by_cases hd2 : d = cAmp ∨ d = cBang
      · rw [if_pos hd2] at q
        rw [show decide (d ∈ [cAmp, cBang]) = true from decide_eq_true (by simpa using hd2), Bool.not_true]
        walk_at "dl"
        walk_at "fa"
        walk_at "dl"
        rw [insD_set]
        walk_at "dl"
        refine ⟨fm, ⟨mk, fg_make, gmk⟩, ?_⟩
        walk_at "dl"
        refine ⟨rfl, ?_⟩
        rw [sgnAt_some ht]
        walk_at "dl"
        rcases hd2 with rfl | rfl
        · rw [word_amp]
          walk_at "dl"
          walk_at "rm"
          refine ⟨a, t, ln, sk t p + 1, rfl, mset_same, (List.getElem?_eq_some_iff.mp ht).1, hl, hc, by have z := dc_step ht (by decide); have z2 := dc_sk hd; omega, ?_⟩
          cases hr : pLook t n (sk t p + 1) with
          | bad r =>
            rw [hr] at q
            dsimp only [rdEnd] at q ⊢
            rw [hr]
            dsimp only
            rw [mset_mset]
            exact q
          | ok w1 r =>
            rw [hr] at q
            dsimp only [rdEnd] at q ⊢
            rw [hr]
            dsimp only
            rw [mset_mset]
            walk_at "a"
            exact ⟨.un .ahead w1, rfl, by show 1 < 1000000; decide, q⟩
        · rw [word_bang]
          walk_at "dl"
          walk_at "rm"
          refine ⟨a, t, ln, sk t p + 1, rfl, mset_same, (List.getElem?_eq_some_iff.mp ht).1, hl, hc, by have z := dc_step ht (by decide); have z2 := dc_sk hd; omega, ?_⟩
          cases hr : pLook t n (sk t p + 1) with
          | bad r =>
            rw [hr] at q
            dsimp only [rdEnd] at q ⊢
            rw [hr]
            dsimp only
            rw [mset_mset]
            exact q
          | ok w1 r =>
            rw [hr] at q
            dsimp only [rdEnd] at q ⊢
            rw [hr]
            dsimp only
            rw [mset_mset]
            walk_at "a"
            exact ⟨.un .unless w1, rfl, by show 1 < 1000000; decide, q⟩
      · rw [if_neg hd2] at q
        rw [show decide (d ∈ [cAmp, cBang]) = false from decide_eq_false (by simpa using hd2), Bool.not_false]
        walk_at "dl"
        walk_at "rm"
        exact ⟨a, t, ln, sk t p, rfl, mset_same, hs, hl, hc, dc_sk hd, by
          unfold rdEnd at q ⊢
          simp only [mset_mset]
          exact q⟩


theorem sc_s_Reader_read_repeat : FnScope N_s_Reader_read_repeat ["self"] (defScope s_Reader_read_repeat) := ⟨rfl, rfl, rfl, by decide +kernel, rfl, by decide +kernel, by decide +kernel⟩
theorem ok_readrepeat (T : TxtP mg) {W : WA} {RC BT mk f aW : Addr} (gmk : mg "way_of" = some (.ref mk)) (gW : mg "WORDS" = some (.ref aW)) (hW : TabK K w aW wrdsK) {k n : Nat} (hk : 4 ≤ k) (h_way_of : Fn P w K mg base 4 "way_of" ["word", "sign", "inner"] (spWayMake W)) (h_next_sign : RM P w K mg base 1 RC "next_sign" ["self"] (spNext RC)) (h_read_one : RX P w K mg base k RC "read_one" ["self"] (spRd W RC BT mk (n + 1) fun t p => pOne t (pChoice t (pLook t n)) p)) (Df : MethAt K "read_repeat" "Reader.read_repeat" ["self"] s_Reader_read_repeat f) (c : Cls K RC) (hm : Meth K RC "read_repeat" f) (fp : FldOk K RC "place") (fm : FldOk K RC "make") : RX P w K mg base (k + 1) RC "read_repeat" ["self"] (spRd W RC BT mk (n + 1) fun t p => pRepeat t (pChoice t (pLook t n)) p) := by
  refine okRX Df c hm sc_s_Reader_read_repeat (fun ds M Q E h => ?_) fun {_} cdv A outer s H E Ed hr tk => ⟨_, (ss_cons (s_set (i := 1) sc_s_Reader_read_repeat.nd (d_rx0 tk h_read_one (hr.mono (by first | decide | omega)) (d_var 0)))
    (ss_cons (s_while (passes_of rfl) (d_wt (w_and (d_tcmp (od_ne hr) (d_rm0 h_next_sign (hr.mono (by first | decide | omega)) (d_var 0)) d_str (nomark _)) (w_and1 (d_tcmp od_inS (d_rm0 h_next_sign (hr.mono (by first | decide | omega)) (d_var 0)) d_str (by rfl)))))
    (ss_cons (s_set (i := 1) sc_s_Reader_read_repeat.nd (d_fldCall h_way_of (hr.mono (by first | decide | omega)) (d_var 0) (a_cons (d_ixK hW (d_globR rfl gW) (d_rm0 h_next_sign (hr.mono (by first | decide | omega)) (d_var 0))) (a_cons d_str (a_cons (d_lst (a_cons (d_var 1) a_nil)) a_nil)))))
    (ss_one (s_fadd (d_var 0) d_int))))
    (ss_one (s_ret (d_var 1))))), fun ds M Q h => ?_⟩
  · obtain ⟨a, t, ln, p, rfl, _⟩ := h
    rfl
  · obtain ⟨a, t, ln, p, rfl, hM, hp, hl, hc, hd, q⟩ := h
    have e : startD N_s_Reader_read_repeat [.ref a] = [.val (.ref a), .no] := rfl
    rw [e]
    walk_at "dl"
    walk_at "rm"
    refine ⟨a, t, ln, p, rfl, hM, hp, hl, hc, hd, ?_⟩
    unfold pRepeat at q
    dsimp only [rdEnd] at q ⊢
    cases hr : pOne t (pChoice t (pLook t n)) p with
    | bad r =>
      rw [hr] at q
      exact q
    | ok w1 r =>
      have h1 := goes_one (goes_choice (goes_look t n)) p w1 r hp hr
      rw [hr] at q
      dsimp only at q ⊢
      walk_at "dl"
      refine while_ind (m := t.length + 1) (fun k env M' => ∃ (v : WT) (x : Nat), env = [.val (.ref a), .val (v.o W)] ∧ M' = mset M a (rdMO RC mk t ln x) ∧ x ≤ t.length ∧ t.length < k + x ∧ Q ((pReps t k v x).1.o W) (mset M a (rdMO RC mk t ln (pReps t k v x).2))) ?_ ⟨w1, r, rfl, rfl, h1.2, by omega, q⟩
      rintro k R hR env M' ⟨v, x, rfl, rfl, g2, g5, q⟩
      obtain ⟨k, rfl⟩ : ∃ k', k = k' + 1 := ⟨k - 1, by omega⟩
      have gl := sk_le g2
      have gs := sk_ge t x
      walk_at "dl"
      walk_at "rm"
      refine ⟨a, mk, t, ln, x, rfl, mset_same, g2, hl, hc, ?_⟩
      rw [mset_mset]
      walk_at "dl"
      refine ⟨sgnAt_ok hc _, okEq_flat (by decide +kernel), ?_⟩
      walk_at "dl"
      rw [deq_str, tx_empty, tx_beq]
      unfold pReps at q
      cases ht : t[sk t x]? with
      | none =>
        rw [ht] at q
        rw [decide_eq_true rfl]
        walk_at "dl"
        exact q
      | some d =>
        rw [ht] at q
        dsimp only at q
        rw [decide_eq_false (by intro z; cases z)]
        have hlt := (List.getElem?_eq_some_iff.mp ht).1
        have sks : sk t (sk t x) = sk t x := sk_stop (sk_not t _ x rfl)
        walk_at "dl"
        walk_at "rm"
        refine ⟨a, mk, t, ln, sk t x, rfl, mset_same, gl, hl, hc, ?_⟩
        rw [mset_mset, sks]
        refine ⟨d, _, sgnAt_some ht, rfl, ?_⟩
        rw [rep_txt, tx_cps]
        walk_at "dl"
        by_cases h1' : d = cStar
        · rw [if_pos h1'] at q
          subst h1'
          rw [show decide (cStar ∈ [cStar, cQuest]) = true from by decide]
          walk_at "dl"
          rw [insD_set]
          walk_at "dl"
          refine ⟨fm, ⟨mk, fg_make, gmk⟩, ?_⟩
          walk_at "dl"
          refine ⟨rfl, ?_⟩
          walk_at "dl"
          walk_at "rm"
          refine ⟨a, mk, t, ln, sk t x, rfl, mset_same, gl, hl, hc, ?_⟩
          rw [mset_mset, sks, sgnAt_some ht]
          walk_at "dl"
          rw [word_star]
          walk_at "a"
          refine ⟨.un .again v, rfl, by show 1 < 1000000; decide, ?_⟩
          walk_at "dl"
          walk_at "fa"
          exact hR k _ _ (Nat.lt_succ_self _) ⟨.un .again v, sk t x + 1, rfl, rfl, hlt, by omega, q⟩
        · rw [if_neg h1'] at q
          by_cases h2' : d = cQuest
          · rw [if_pos h2'] at q
            subst h2'
            rw [show decide (cQuest ∈ [cStar, cQuest]) = true from by decide]
            walk_at "dl"
            rw [insD_set]
            walk_at "dl"
            refine ⟨fm, ⟨mk, fg_make, gmk⟩, ?_⟩
            walk_at "dl"
            refine ⟨rfl, ?_⟩
            walk_at "dl"
            walk_at "rm"
            refine ⟨a, mk, t, ln, sk t x, rfl, mset_same, gl, hl, hc, ?_⟩
            rw [mset_mset, sks, sgnAt_some ht]
            walk_at "dl"
            rw [word_quest]
            walk_at "a"
            refine ⟨.un .maybe v, rfl, by show 1 < 1000000; decide, ?_⟩
            walk_at "dl"
            walk_at "fa"
            exact hR k _ _ (Nat.lt_succ_self _) ⟨.un .maybe v, sk t x + 1, rfl, rfl, hlt, by omega, q⟩
          · rw [if_neg h2'] at q
            rw [show decide (d ∈ [cStar, cQuest]) = false from decide_eq_false (by simp [h1', h2'])]
            walk_at "dl"
            exact q


theorem sc_s_Reader_read_one : FnScope N_s_Reader_read_one ["self"] (defScope s_Reader_read_one) := ⟨rfl, rfl, rfl, by decide +kernel, rfl, by decide +kernel, by decide +kernel⟩
theorem ok_readone (T : TxtP mg) {W : WA} {RC BT mk f : Addr} {tkL : Tok} (gL : mg "LETTERS" = some (.str (tx lettersN) tkL)) (gmk : mg "way_of" = some (.ref mk)) {k n : Nat} (hk : 4 ≤ k) (h_way_of : Fn P w K mg base 4 "way_of" ["word", "sign", "inner"] (spWayMake W)) (h_next_sign : RM P w K mg base 1 RC "next_sign" ["self"] (spNext RC)) (h_begins : RM P w K mg base 2 RC "begins" ["self"] (spBegins RC)) (h_refuse : RX P w K mg base k RC "refuse" ["self"] (spRefuse RC BT)) (h_read_name : RX P w K mg base k RC "read_name" ["self"] (spName' RC BT)) (h_step_over : RX P w K mg base k RC "step_over" ["self", "sign"] (spStep RC BT)) (h_read_brackets : RX P w K mg base k RC "read_brackets" ["self"] (spRd W RC BT mk n fun t p => pBr t (pChoice t (pLook t n)) p)) (Df : MethAt K "read_one" "Reader.read_one" ["self"] s_Reader_read_one f) (c : Cls K RC) (hm : Meth K RC "read_one" f) (fp : FldOk K RC "place") (fm : FldOk K RC "make") : RX P w K mg base (k + 1) RC "read_one" ["self"] (spRd W RC BT mk (n + 1) fun t p => pOne t (pChoice t (pLook t n)) p) := by
  refine okRX Df c hm sc_s_Reader_read_one (fun ds M Q E h => ?_) fun {_} cdv A outer s H E Ed hr tk => ⟨_, (ss_cons (s_set (i := 1) sc_s_Reader_read_one.nd (d_rm0 h_next_sign (hr.mono (by first | decide | omega)) (d_var 0)))
    (ss_cons (s_if (d_wt (w_or (d_not (d_truth (d_rm0 h_begins (hr.mono (by first | decide | omega)) (d_var 0)))) (w_or1 (d_tcmp od_inS (d_var 1) d_str (by rfl)))))
    (ss_one (s_expr (d_rx0 tk h_refuse (hr.mono (by first | decide | omega)) (d_var 0))))
    ss_nil)
    (ss_cons (s_if (d_tcmp od_inS (d_var 1) (d_globS rfl gL) (by rfl))
    (ss_cons (s_fadd (d_var 0) d_int)
    (ss_one (s_ret (d_fldCall h_way_of (hr.mono (by first | decide | omega)) (d_var 0) (a_cons d_str (a_cons (d_var 1) (a_cons (d_lst a_nil) a_nil)))))))
    ss_nil)
    (ss_cons (s_fadd (d_var 0) d_int)
    (ss_cons (s_if (d_tcmp (od_eq hr) (d_var 1) d_str (nomark _))
    (ss_one (s_ret (d_fldCall h_way_of (hr.mono (by first | decide | omega)) (d_var 0) (a_cons d_str (a_cons d_str (a_cons (d_lst a_nil) a_nil))))))
    ss_nil)
    (ss_cons (s_if (d_tcmp (od_eq hr) (d_var 1) d_str (nomark _))
    (ss_cons (s_set (i := 2) sc_s_Reader_read_one.nd (d_rx0 tk h_read_name (hr.mono (by first | decide | omega)) (d_var 0)))
    (ss_cons (s_expr (d_rx tk h_step_over (hr.mono (by first | decide | omega)) (d_var 0) (a_cons d_str a_nil)))
    (ss_one (s_ret (d_fldCall h_way_of (hr.mono (by first | decide | omega)) (d_var 0) (a_cons d_str (a_cons (d_var 2) (a_cons (d_lst a_nil) a_nil))))))))
    ss_nil)
    (ss_one (s_ret (d_rx0 tk h_read_brackets (hr.mono (by first | decide | omega)) (d_var 0)))))))))), fun ds M Q h => ?_⟩
  · obtain ⟨a, t, ln, p, rfl, _⟩ := h
    rfl
  · obtain ⟨a, t, ln, p, rfl, hM, hp, hl, hc, hd, q⟩ := h
    have e : startD N_s_Reader_read_one [.ref a] = [.val (.ref a), .no, .no] := rfl
    rw [e]
    have hs := sk_le hp
    have sks : sk t (sk t p) = sk t p := sk_stop (sk_not t _ p rfl)
    walk_at "dl"
    walk_at "rm"
    refine ⟨a, mk, t, ln, p, rfl, hM, hp, hl, hc, ?_⟩
    walk_at "dl"
    walk_at "rm"
    refine ⟨a, mk, t, ln, sk t p, rfl, mset_same, hs, hl, hc, ?_⟩
    rw [mset_mset, sks]
    unfold pOne at q
    dsimp only at q
    cases ht : t[sk t p]? with
    | none =>
      rw [ht] at q
      rw [show begins t (sk t p) = false from by unfold begins; rw [sks, ht]]
      walk_at "dl"
      walk_at "rm"
      exact ⟨a, mk, t, ln, sk t p, rfl, mset_same, q⟩
    | some d =>
      rw [ht] at q
      dsimp only at q
      have hlt := (List.getElem?_eq_some_iff.mp ht).1
      rw [show begins t (sk t p) = begC d from by unfold begins; rw [sks, ht]]
      cases hb : begC d
      · rw [hb, if_pos (by simp)] at q
        walk_at "dl"
        walk_at "rm"
        exact ⟨a, mk, t, ln, sk t p, rfl, mset_same, q⟩
      · rw [hb] at q
        walk_at "dl"
        refine ⟨d, _, sgnAt_some ht, rfl, ?_⟩
        rw [amp_txt, tx_cps]
        walk_at "dl"
        by_cases hd2 : d = cAmp ∨ d = cBang
        · rw [if_pos (by rcases hd2 with z | z <;> simp [z])] at q
          rw [show decide (d ∈ [cAmp, cBang]) = true from decide_eq_true (by simpa using hd2)]
          walk_at "dl"
          walk_at "rm"
          exact ⟨a, mk, t, ln, sk t p, rfl, mset_same, q⟩
        · rw [if_neg (by simp only [not_or] at hd2; simp [hd2.1, hd2.2])] at q
          rw [show decide (d ∈ [cAmp, cBang]) = false from decide_eq_false (by simpa using hd2)]
          walk_at "dl"
          refine ⟨d, _, sgnAt_some ht, rfl, ?_⟩
          rw [tx_cps]
          walk_at "dl"
          by_cases hlet : d ∈ lettersN
          · rw [if_pos hlet] at q
            rw [decide_eq_true hlet]
            walk_at "dl"
            walk_at "fa"
            walk_at "dl"
            rw [insD_set]
            walk_at "dl"
            refine ⟨fm, ⟨mk, fg_make, gmk⟩, ?_⟩
            walk_at "a"
            exact ⟨.letter (tx [d]), by rw [sgnAt_some ht]; rfl, by show 0 < 1000000; decide, q⟩
          · rw [if_neg hlet] at q
            rw [decide_eq_false hlet]
            walk_at "dl"
            walk_at "fa"
            walk_at "dl"
            refine ⟨sgnAt_ok hc _, okEq_flat (by decide +kernel), ?_⟩
            walk_at "dl"
            rw [sgnAt_some ht, deq_str, show (("." : String) : Str) = tx [cDot] from by decide +kernel, tx_beq]
            by_cases hdot : d = cDot
            · rw [if_pos hdot] at q
              subst hdot
              rw [decide_eq_true rfl]
              walk_at "dl"
              rw [insD_set]
              walk_at "dl"
              refine ⟨fm, ⟨mk, fg_make, gmk⟩, ?_⟩
              walk_at "a"
              exact ⟨.one, rfl, by show 0 < 1000000; decide, q⟩
            · rw [if_neg hdot] at q
              rw [decide_eq_false (by intro z; cases z; exact hdot rfl)]
              walk_at "dl"
              refine ⟨by have z := sgnAt_ok hc (sk t p); rw [sgnAt_some ht] at z; exact z, okEq_flat (by decide +kernel), ?_⟩
              walk_at "dl"
              rw [deq_str, show (("<" : String) : Str) = tx [cLt] from by decide +kernel, tx_beq]
              by_cases hl2 : d = cLt
              · rw [if_pos hl2] at q
                subst hl2
                rw [decide_eq_true rfl]
                walk_at "dl"
                walk_at "rm"
                refine ⟨a, mk, t, ln, sk t p + 1, rfl, mset_same, hlt, hl, hc, ?_⟩
                cases hn : pName t (sk t p + 1) with
                | mk b e2 =>
                  cases b with
                  | none =>
                    rw [hn] at q
                    dsimp only [rdEnd] at q ⊢
                    rw [mset_mset]
                    exact q
                  | some b =>
                    obtain ⟨_, n1, n2⟩ := pName_le hlt hn
                    rw [hn] at q
                    dsimp only at q ⊢
                    rw [mset_mset]
                    walk_at "dl"
                    walk_at "rm"
                    refine ⟨a, mk, t, ln, e2, cGt, rfl, mset_same, n2, hl, hc, by decide, ?_⟩
                    cases hst : pStep t cGt e2 with
                    | none =>
                      rw [hst] at q
                      dsimp only [rdEnd] at q ⊢
                      rw [mset_mset]
                      exact q
                    | some r =>
                      rw [hst] at q
                      dsimp only [rdEnd] at q ⊢
                      rw [mset_mset]
                      walk_at "dl"
                      rw [insD_set]
                      walk_at "dl"
                      refine ⟨fm, ⟨mk, fg_make, gmk⟩, ?_⟩
                      walk_at "a"
                      exact ⟨.call _, rfl, by show 0 < 1000000; decide, q⟩
              · rw [if_neg hl2] at q
                rw [decide_eq_false (by intro z; cases z; exact hl2 rfl)]
                have hop : d = cOpen := by
                  unfold begC at hb
                  simp only [not_or] at hd2
                  simp [hlet, hdot, hl2, hd2.1, hd2.2] at hb
                  exact hb
                have q' : rdEnd W RC BT mk a t ln M Q Ed (pBr t (pChoice t (pLook t n)) (sk t p + 1)) := q
                walk_at "dl"
                walk_at "rm"
                refine ⟨a, t, ln, sk t p + 1, rfl, mset_same, hlt, hl, hc, by have z := dc_step ht (by rw [hop]; decide); have z2 := dc_sk hd; omega, ?_⟩
                cases hbr : pBr t (pChoice t (pLook t n)) (sk t p + 1) with
                | bad r =>
                  rw [hbr] at q'
                  dsimp only [rdEnd] at q' ⊢
                  rw [hbr]
                  dsimp only
                  rw [mset_mset]
                  exact q'
                | ok w1 r =>
                  rw [hbr] at q'
                  dsimp only [rdEnd] at q' ⊢
                  rw [hbr]
                  dsimp only
                  rw [mset_mset]
                  exact q'


theorem sc_s_Reader_read_brackets : FnScope N_s_Reader_read_brackets ["self"] (defScope s_Reader_read_brackets) := ⟨rfl, rfl, rfl, by decide +kernel, rfl, by decide +kernel, by decide +kernel⟩
theorem ok_readbrackets (T : TxtP mg) {W : WA} {RC BT mk f : Addr} (gmk : mg "way_of" = some (.ref mk)) {k n : Nat} (hk : 4 ≤ k) (h_way_of : Fn P w K mg base 4 "way_of" ["word", "sign", "inner"] (spWayMake W)) (h_next_sign : RM P w K mg base 1 RC "next_sign" ["self"] (spNext RC)) (h_step_over : RX P w K mg base k RC "step_over" ["self", "sign"] (spStep RC BT)) (h_read_choice : RX P w K mg base k RC "read_choice" ["self"] (spRd W RC BT mk n fun t p => pChoice t (pLook t n) p)) (Df : MethAt K "read_brackets" "Reader.read_brackets" ["self"] s_Reader_read_brackets f) (c : Cls K RC) (hm : Meth K RC "read_brackets" f) (fp : FldOk K RC "place") (fm : FldOk K RC "make") : RX P w K mg base (k + 1) RC "read_brackets" ["self"] (spRd W RC BT mk n fun t p => pBr t (pChoice t (pLook t n)) p) := by
  refine okRX Df c hm sc_s_Reader_read_brackets (fun ds M Q E h => ?_) fun {_} cdv A outer s H E Ed hr tk => ⟨_, (ss_cons (s_if (d_tcmp (od_eq hr) (d_rm0 h_next_sign (hr.mono (by first | decide | omega)) (d_var 0)) d_str (nomark _))
    (ss_cons (s_fadd (d_var 0) d_int)
    (ss_one (s_ret (d_fldCall h_way_of (hr.mono (by first | decide | omega)) (d_var 0) (a_cons d_str (a_cons d_str (a_cons (d_lst a_nil) a_nil)))))))
    ss_nil)
    (ss_cons (s_set (i := 1) sc_s_Reader_read_brackets.nd (d_rx0 tk h_read_choice (hr.mono (by first | decide | omega)) (d_var 0)))
    (ss_cons (s_expr (d_rx tk h_step_over (hr.mono (by first | decide | omega)) (d_var 0) (a_cons d_str a_nil)))
    (ss_one (s_ret (d_var 1)))))), fun ds M Q h => ?_⟩
  · obtain ⟨a, t, ln, p, rfl, _⟩ := h
    rfl
  · obtain ⟨a, t, ln, p, rfl, hM, hp, hl, hc, hd, q⟩ := h
    have e : startD N_s_Reader_read_brackets [.ref a] = [.val (.ref a), .no] := rfl
    rw [e]
    have hs := sk_le hp
    walk_at "dl"
    walk_at "rm"
    refine ⟨a, mk, t, ln, p, rfl, hM, hp, hl, hc, ?_⟩
    walk_at "dl"
    refine ⟨sgnAt_ok hc _, okEq_flat (by decide +kernel), ?_⟩
    walk_at "dl"
    rw [deq_str, show ((")" : String) : Str) = tx [cClose] from by decide +kernel, tx_beq]
    unfold pBr at q
    dsimp only at q
    by_cases hsl : t[sk t p]? = some cClose
    · rw [if_pos hsl] at q
      rw [hsl, decide_eq_true rfl]
      walk_at "dl"
      walk_at "fa"
      walk_at "dl"
      rw [insD_set]
      walk_at "dl"
      refine ⟨fm, ⟨mk, fg_make, gmk⟩, ?_⟩
      walk_at "a"
      exact ⟨.nothing, rfl, by show 0 < 1000000; decide, q⟩
    · rw [if_neg hsl] at q
      rw [decide_eq_false (by
        intro z
        apply hsl
        cases ht : t[sk t p]? with
        | none => rw [ht] at z; cases z
        | some d => rw [ht] at z; cases z; rfl)]
      walk_at "dl"
      walk_at "rm"
      refine ⟨a, t, ln, sk t p, rfl, mset_same, hs, hl, hc, dc_sk hd, ?_⟩
      cases hr2 : pChoice t (pLook t n) (sk t p) with
      | bad y =>
        rw [hr2] at q
        dsimp only [rdEnd] at q ⊢
        rw [hr2]
        dsimp only
        rw [mset_mset]
        exact q
      | ok w2 y =>
        have hy : sk t p < y ∧ y ≤ t.length := goes_choice (goes_look t n) (sk t p) w2 y hs hr2
        rw [hr2] at q
        dsimp only [rdEnd] at q ⊢
        rw [hr2]
        dsimp only
        rw [mset_mset]
        walk_at "dl"
        walk_at "rm"
        refine ⟨a, mk, t, ln, y, cClose, rfl, mset_same, hy.2, hl, hc, by decide, ?_⟩
        cases hst : pStep t cClose y with
        | none =>
          rw [hst] at q
          dsimp only at q ⊢
          rw [mset_mset]
          exact q
        | some z =>
          rw [hst] at q
          dsimp only at q ⊢
          rw [mset_mset]
          walk_at "dl"
          exact q


theorem sc_s_Reader_read_end : FnScope N_s_Reader_read_end ["self"] (defScope s_Reader_read_end) := ⟨rfl, rfl, rfl, by decide +kernel, rfl, by decide +kernel, by decide +kernel⟩
theorem ok_readend (T : TxtP mg) {RC BT f : Addr} {k : Nat} (hk : 1 ≤ k) (h_next_sign : RM P w K mg base 1 RC "next_sign" ["self"] (spNext RC)) (h_refuse : RX P w K mg base k RC "refuse" ["self"] (spRefuse RC BT)) (Df : MethAt K "read_end" "Reader.read_end" ["self"] s_Reader_read_end f) (c : Cls K RC) (hm : Meth K RC "read_end" f) : RX P w K mg base (k + 1) RC "read_end" ["self"] (spEndR RC BT) := by
  refine okRX Df c hm sc_s_Reader_read_end (fun ds M Q E h => ?_) fun {_} cdv A outer s H E Ed hr tk => ⟨_, (ss_one (s_if (d_tcmp (od_ne hr) (d_rm0 h_next_sign (hr.mono (by first | decide | omega)) (d_var 0)) d_str (nomark _))
    (ss_one (s_expr (d_rx0 tk h_refuse (hr.mono (by first | decide | omega)) (d_var 0))))
    ss_nil)), fun ds M Q h => ?_⟩
  · obtain ⟨a, mk, t, n, p, rfl, _⟩ := h
    rfl
  · obtain ⟨a, mk, t, n, p, rfl, hM, hp, hl, hc, q⟩ := h
    have e : startD N_s_Reader_read_end [.ref a] = [.val (.ref a)] := rfl
    rw [e]
    have hs := sk_le hp
    walk_at "dl"
    walk_at "rm"
    refine ⟨a, mk, t, n, p, rfl, hM, hp, hl, hc, ?_⟩
    walk_at "dl"
    refine ⟨sgnAt_ok hc _, okEq_flat (by decide +kernel), ?_⟩
    walk_at "dl"
    rw [deq_str, tx_empty, tx_beq]
    cases ht : t[sk t p]? with
    | none =>
      have := List.getElem?_eq_none_iff.mp ht
      rw [if_pos (by omega)] at q
      rw [decide_eq_true rfl]
      walk_at "dl"
      exact q
    | some d =>
      have := (List.getElem?_eq_some_iff.mp ht).1
      rw [if_neg (by omega)] at q
      rw [decide_eq_false (by intro z; cases z)]
      walk_at "dl"
      walk_at "rm"
      exact ⟨a, mk, t, n, sk t p, rfl, mset_same, q⟩


theorem sc_s_read_way : FnScope N_s_read_way ["text", "make"] (defScope s_read_way) := ⟨rfl, rfl, rfl, by decide +kernel, rfl, by decide +kernel, by decide +kernel⟩
theorem ok_looks (T : TxtP mg) {W : WA} {RC BT mk aW f1 f2 f3 f4 f5 f6 : Addr} {tkL : Tok} (gL : mg "LETTERS" = some (.str (tx lettersN) tkL)) (gmk : mg "way_of" = some (.ref mk)) (gW : mg "WORDS" = some (.ref aW)) (hW : TabK K w aW wrdsK)
    (h_way_of : Fn P w K mg base 4 "way_of" ["word", "sign", "inner"] (spWayMake W)) (h_next_sign : RM P w K mg base 1 RC "next_sign" ["self"] (spNext RC)) (h_begins : RM P w K mg base 2 RC "begins" ["self"] (spBegins RC)) (h_refuse : RX P w K mg base 4 RC "refuse" ["self"] (spRefuse RC BT)) (h_read_name : RX P w K mg base 5 RC "read_name" ["self"] (spName' RC BT)) (h_step_over : RX P w K mg base 5 RC "step_over" ["self", "sign"] (spStep RC BT))
    (D1 : MethAt K "read_look" "Reader.read_look" ["self"] s_Reader_read_look f1) (D2 : MethAt K "read_row" "Reader.read_row" ["self"] s_Reader_read_row f2) (D3 : MethAt K "read_choice" "Reader.read_choice" ["self"] s_Reader_read_choice f3) (D4 : MethAt K "read_brackets" "Reader.read_brackets" ["self"] s_Reader_read_brackets f4) (D5 : MethAt K "read_one" "Reader.read_one" ["self"] s_Reader_read_one f5) (D6 : MethAt K "read_repeat" "Reader.read_repeat" ["self"] s_Reader_read_repeat f6)
    (c : Cls K RC) (m1 : Meth K RC "read_look" f1) (m2 : Meth K RC "read_row" f2) (m3 : Meth K RC "read_choice" f3) (m4 : Meth K RC "read_brackets" f4) (m5 : Meth K RC "read_one" f5) (m6 : Meth K RC "read_repeat" f6) (fp : FldOk K RC "place") (fm : FldOk K RC "make") : ∀ n, RX P w K mg base (5 + 6 * n) RC "read_look" ["self"] (spRd W RC BT mk n fun t p => pLook t n p)
  | 0 => RX.vac D1 c m1 fun ds M Q E ⟨a, t, ln, p, _, _, _, _, _, h, _⟩ => Nat.not_lt_zero _ h
  | n + 1 => by
    have h_look := ok_looks T gL gmk gW hW h_way_of h_next_sign h_begins h_refuse h_read_name h_step_over D1 D2 D3 D4 D5 D6 c m1 m2 m3 m4 m5 m6 fp fm n
    have h_row := ok_readrow T gmk (by omega) h_way_of h_begins h_look D2 c m2 fm
    have h_choice := ok_readchoice T gmk (by omega) h_way_of h_next_sign h_row D3 c m3 fp fm
    have h_brk := ok_readbrackets T gmk (by omega) h_way_of h_next_sign (h_step_over.mono (by omega)) h_choice D4 c m4 fp fm
    have h_one := ok_readone T gL gmk (by omega) h_way_of h_next_sign h_begins (h_refuse.mono (by omega)) (h_read_name.mono (by omega)) (h_step_over.mono (by omega)) h_brk D5 c m5 fp fm
    have h_rep := ok_readrepeat T gmk gW hW (by omega) h_way_of h_next_sign h_one D6 c m6 fp fm
    have z := ok_readlook (k := 10 + 6 * n) T gmk gW hW (by omega) h_way_of h_next_sign (h_look.mono (by omega)) (h_rep.mono (by omega)) D1 c m1 fp fm
    rw [show 5 + 6 * (n + 1) = 10 + 6 * n + 1 from by omega]
    exact z
theorem ok_choices (T : TxtP mg) {W : WA} {RC BT mk f2 f3 : Addr} (gmk : mg "way_of" = some (.ref mk))
    (h_way_of : Fn P w K mg base 4 "way_of" ["word", "sign", "inner"] (spWayMake W)) (h_next_sign : RM P w K mg base 1 RC "next_sign" ["self"] (spNext RC)) (h_begins : RM P w K mg base 2 RC "begins" ["self"] (spBegins RC))
    (D2 : MethAt K "read_row" "Reader.read_row" ["self"] s_Reader_read_row f2) (D3 : MethAt K "read_choice" "Reader.read_choice" ["self"] s_Reader_read_choice f3)
    (c : Cls K RC) (m2 : Meth K RC "read_row" f2) (m3 : Meth K RC "read_choice" f3) (fp : FldOk K RC "place") (fm : FldOk K RC "make") {n : Nat} (h : RX P w K mg base (5 + 6 * n) RC "read_look" ["self"] (spRd W RC BT mk n fun t p => pLook t n p)) : RX P w K mg base (7 + 6 * n) RC "read_choice" ["self"] (spRd W RC BT mk n fun t p => pChoice t (pLook t n) p) := by
  have h_row := ok_readrow T gmk (by omega) h_way_of h_begins h D2 c m2 fm
  exact (ok_readchoice T gmk (by omega) h_way_of h_next_sign h_row D3 c m3 fp fm).mono (by omega)
theorem ok_readway (T : TxtP mg) {W : WA} {RC BT mk : Addr} {n k : Nat} (hk : 5 ≤ k) (gm_Reader : mg "Reader" = some (.ref RC)) (mk_Reader : ∀ f, Meth K RC "__init__" f → Mk K RC f) (h_Reader : RM P w K mg base 1 RC "__init__" ["self", "text", "line", "make"] (spRInit RC)) (h_read_choice : RX P w K mg base k RC "read_choice" ["self"] (spRd W RC BT mk n fun t p => pChoice t (pLook t n) p)) (h_read_end : RX P w K mg base 5 RC "read_end" ["self"] (spEndR RC BT)) (Df : DefAt K mg "read_way" ["text", "make"] s_read_way) : FnX P w K mg base (k + 1) "read_way" ["text", "make"] (spReadWayG W BT mk n) := by
  refine okFX Df sc_s_read_way (fun ds M Q E h => ?_) fun {_} f cdv A outer s H E Ed hr tk => ⟨_, (ss_cons (s_set (i := 2) sc_s_read_way.nd (d_makeRM h_Reader mk_Reader (hr.mono (by first | decide | omega)) gm_Reader (a_cons (d_var 0) (a_cons d_int (a_cons (d_var 1) a_nil)))))
    (ss_cons (s_set (i := 3) sc_s_read_way.nd (d_rx0 tk h_read_choice (hr.mono (by first | decide | omega)) (d_var 2)))
    (ss_cons (s_expr (d_rx0 tk h_read_end (hr.mono (by first | decide | omega)) (d_var 2)))
    (ss_one (s_ret (d_var 3)))))), fun ds M Q h => ?_⟩
  · obtain ⟨t, rfl, _⟩ := h
    rfl
  · obtain ⟨t, rfl, hl, hc, hd, q⟩ := h
    have e : startD N_s_read_way [.str (tx t), .ref mk] = [.val (.str (tx t)), .val (.ref mk), .no, .no] := rfl
    rw [e]
    walk_at "dl"
    intro y hy
    refine ⟨y, mk, t, 1, rfl, mset_same, rfl, ?_⟩
    rw [mset_mset]
    walk_at "dl"
    walk_at "rm"
    refine ⟨y, t, 1, 0, rfl, mset_same, Nat.zero_le _, hl, hc, by rw [dc_deep]; exact hd, ?_⟩
    have hless : ∀ (o : MO) (a : Addr) (u : MO), M a = some u → mset M y o a = some u := fun o a u h => by
      rw [mset_ne (fun z => by rw [z, hy] at h; cases h)]; exact h
    have q' : ∀ M' : Mem, (∀ a o, M a = some o → M' a = some o) → wayEnd W BT M' Q Ed (match pChoice t (pLook t n) 0 with
      | .bad q => .bad q
      | .ok w q => if sk t q = t.length then .ok w (sk t q) else .bad (sk t q)) := by
      intro M' h
      rw [← pWay_fuel hd]
      exact q M' h
    cases hr : pChoice t (pLook t n) 0 with
    | bad r =>
      rw [hr] at q'
      dsimp only [rdEnd] at q' ⊢
      rw [hr]
      dsimp only
      rw [mset_mset]
      exact q' _ (hless _)
    | ok w1 r =>
      have hg := goes_choice (goes_look t n) 0 w1 r (Nat.zero_le _) hr
      rw [hr] at q'
      dsimp only [rdEnd] at q' ⊢
      rw [hr]
      dsimp only
      rw [mset_mset]
      walk_at "dl"
      walk_at "rm"
      refine ⟨y, mk, t, 1, r, rfl, mset_same, hg.2, hl, hc, ?_⟩
      rw [mset_mset]
      by_cases he : sk t r = t.length
      · rw [if_pos he] at q' ⊢
        walk_at "dl"
        exact q' _ (hless _)
      · rw [if_neg he] at q' ⊢
        exact q' _ (hless _)


theorem sc_s_Way_read : FnScope N_s_Way_read ["cls", "text"] (defScope s_Way_read) := ⟨rfl, rfl, rfl, by decide +kernel, rfl, by decide +kernel, by decide +kernel⟩
theorem ok_wayread (T : TxtP mg) {W : WA} {C BT mk : Addr} {n k : Nat} (g_way_of : mg "way_of" = some (.ref mk)) (h_read_way : FnX P w K mg base k "read_way" ["text", "make"] (spReadWay W BT mk n)) (Df : CMAt K C "read" "Way.read" ["cls", "text"] s_Way_read) : CMX P w K mg base (k + 1) C "read" ["cls", "text"] (spWayRead W C BT n) := by
  refine okCMX Df sc_s_Way_read (fun ds M Q E h => ?_) fun {_} f cdv A outer s H E Ed hr tk => ⟨_, (ss_one (s_ret (d_callX tk h_read_way (hr.mono (by first | decide | omega)) (a_cons (d_var 1) (a_cons (d_globR rfl g_way_of) a_nil))))), fun ds M Q h => ?_⟩
  · obtain ⟨t, rfl, _⟩ := h
    rfl
  · obtain ⟨t, rfl, hl, hc, hd, q⟩ := h
    have e : startD N_s_Way_read [.ref C, .str (tx t)] = [.val (.ref C), .val (.str (tx t))] := rfl
    rw [e]
    walk_at "dl"
    refine ⟨t, rfl, hl, hc, hd, ?_⟩
    cases hr : pWay t with
    | bad r => rw [hr] at q; exact q
    | ok w1 r => rw [hr] at q; exact q


theorem sc_s__law_skip : FnScope N_s__law_skip ["_law_text", "_law_at"] (defScope s__law_skip) := ⟨rfl, rfl, rfl, by decide +kernel, rfl, by decide +kernel, by decide +kernel⟩
theorem ok_skip (T : TxtP mg) (Df : DefAt K mg "_law_skip" ["_law_text", "_law_at"] s__law_skip) : Fn P w K mg base 1 "_law_skip" ["_law_text", "_law_at"] spSkip := by
  refine okF Df sc_s__law_skip (fun ds M Q E h => ?_) fun f cdv A outer s H E hr => ⟨_, (ss_cons (s_while PassesOwn.never (d_tcmp (od_eq hr) (d_slice (d_var 0) (o_some (d_var 1)) (o_some (d_op od_add (d_var 1) d_int))) d_str (nomark _))
    (ss_one (s_set (i := 1) sc_s__law_skip.nd (d_op od_add (d_var 1) d_int))))
    (ss_one (s_ret (d_var 1)))), fun ds M Q Ed h => ?_⟩
  · obtain ⟨t, p, ⟨rfl, _⟩, _⟩ := h
    rfl
  · obtain ⟨t, p, ⟨rfl, hp, hl, hc⟩, q⟩ := h
    have e : startD N_s__law_skip [.str (tx t), .int (p : Nat)] = [.val (.str (tx t)), .val (.int (p : Nat))] := rfl
    rw [e]
    have hz : (tx t).length ≤ sizeLine := by rw [tx_len, sizeLine_eq]; omega
    walk_at "dl"
    refine while_ind (m := t.length - p) (fun m env M' => ∃ p' : Nat, env = [.val (.str (tx t)), .val (.int (p' : Nat))] ∧ M' = M ∧ p' ≤ t.length ∧ sk t p' = sk t p ∧ m = t.length - p') ?_ ⟨p, rfl, rfl, hp, rfl, rfl⟩
    rintro m R hR env M' ⟨p', rfl, rfl, hp', hs, rfl⟩
    walk_at "dl"
    refine ⟨hz, ?_⟩
    rw [cut_one]
    walk_at "dl"
    have okS := sgnAt_ok hc p'
    unfold sgnAt at okS
    refine ⟨okS, okEq_flat (by decide +kernel), ?_⟩
    walk_at "dl"
    rw [deq_str, tx_sp, tx_beq]
    by_cases h32 : t[p']? = some 32
    · rw [h32, decide_eq_true rfl]
      walk_at "dl"
      have hlt := (List.getElem?_eq_some_iff.mp h32).1
      exact hR (t.length - (p' + 1)) _ _ (by omega) ⟨p' + 1, rfl, rfl, by omega, by rw [← sk_step h32, hs], rfl⟩
    · rw [decide_eq_false (by
        intro z
        apply h32
        cases ht : t[p']? with
        | none => rw [ht] at z; cases z
        | some c => rw [ht] at z; cases z; rfl)]
      walk_at "dl"
      have e2 := sk_stop h32
      rw [hs] at e2
      subst e2
      exact q


theorem sc_s__law_begins : FnScope N_s__law_begins ["_law_sign"] (defScope s__law_begins) := ⟨rfl, rfl, rfl, by decide +kernel, rfl, by decide +kernel, by decide +kernel⟩
theorem ok_begins5 (T : TxtP mg) (Df : DefAt K mg "_law_begins" ["_law_sign"] s__law_begins) : Fn P w K mg base 1 "_law_begins" ["_law_sign"] spBeg5 := by
  refine okF Df sc_s__law_begins (fun ds M Q E h => ?_) fun f cdv A outer s H E hr => ⟨_, (ss_one (s_ret (d_and (d_cmp (od_ne hr) (d_var 0) d_str (nomark _)) (d_one (d_cmp od_inS (d_var 0) d_str (by rfl)))))), fun ds M Q Ed h => ?_⟩
  · obtain ⟨t, p, rfl, _⟩ := h
    rfl
  · obtain ⟨t, p, rfl, hc, q⟩ := h
    have e : startD N_s__law_begins [sgnAt t p] = [.val (sgnAt t p)] := rfl
    rw [e]
    walk_at "dl"
    refine ⟨sgnAt_ok hc _, okEq_flat (by decide +kernel), ?_⟩
    walk_at "dl"
    rw [deq_str, tx_empty, tx_beq]
    cases ht : t[p]? with
    | none =>
      rw [ht] at q
      rw [decide_eq_true rfl]
      walk_at "dl"
      exact q
    | some d =>
      rw [ht] at q
      rw [decide_eq_false (by intro z; cases z)]
      walk_at "dl"
      refine ⟨d, _, sgnAt_some ht, rfl, ?_⟩
      have eb : (("abcdefghijklmnopqrstuvwxyz.<(&!" : String) : Str) = tx (lettersN ++ [cDot, cLt, cOpen, cAmp, cBang]) := by decide +kernel
      rw [eb, tx_cps]
      have eq2 : decide (d ∈ lettersN ++ [cDot, cLt, cOpen, cAmp, cBang]) = begC d := by
        unfold begC
        by_cases h1 : d ∈ lettersN
        · rw [decide_eq_true h1, decide_eq_true (List.mem_append_left _ h1), Bool.true_or]
        · rw [decide_eq_false h1, Bool.false_or]
          congr 1
          exact propext ⟨fun z => (List.mem_append.mp z).elim (fun y => (h1 y).elim) id, fun z => List.mem_append_right _ z⟩
      rw [eq2]
      exact q


theorem sc_s__law_read_call : FnScope N_s__law_read_call ["_law_text", "_law_at"] (defScope s__law_read_call) := ⟨rfl, rfl, rfl, by decide +kernel, rfl, by decide +kernel, by decide +kernel⟩
theorem ok_call5 (T : TxtP mg) (h__law_skip : Fn P w K mg base 1 "_law_skip" ["_law_text", "_law_at"] spSkip) (Df : DefAt K mg "_law_read_call" ["_law_text", "_law_at"] s__law_read_call) : Fn P w K mg base 2 "_law_read_call" ["_law_text", "_law_at"] spLCall := by
  refine okF Df sc_s__law_read_call (fun ds M Q E h => ?_) fun f cdv A outer s H E hr => ⟨_, (ss_cons (s_set (i := 2) sc_s__law_read_call.nd (d_var 1))
    (ss_cons (s_while PassesOwn.never (d_wt (w_and (d_tcmp od_lt (d_op od_sub (d_var 2) (d_var 1)) d_int (nomark _)) (w_and (d_tcmp (od_ne hr) (d_slice (d_var 0) (o_some (d_var 2)) (o_some (d_op od_add (d_var 2) d_int))) d_str (nomark _)) (w_and1 (d_tcmp od_inS (d_ix (d_var 0) (d_var 2)) d_str (by rfl))))))
    (ss_one (s_set (i := 2) sc_s__law_read_call.nd (d_op od_add (d_var 2) d_int))))
    (ss_cons (s_if (d_wt (w_or (d_tcmp (od_eq hr) (d_var 2) (d_var 1) (nomark _)) (w_or1 (d_wt (w_and (d_tcmp (od_ne hr) (d_slice (d_var 0) (o_some (d_var 2)) (o_some (d_op od_add (d_var 2) d_int))) d_str (nomark _)) (w_and1 (d_tcmp od_inS (d_ix (d_var 0) (d_var 2)) d_str (by rfl))))))))
    (ss_one (s_ret (d_tup (a_cons d_non (a_cons (d_var 2) a_nil)))))
    ss_nil)
    (ss_cons (s_set (i := 3) sc_s__law_read_call.nd (d_callF h__law_skip (hr.mono (by first | decide | omega)) (a_cons (d_var 0) (a_cons (d_var 2) a_nil))))
    (ss_one (s_ret (d_ifExp (d_tcmp (od_eq hr) (d_slice (d_var 0) (o_some (d_var 3)) (o_some (d_op od_add (d_var 3) d_int))) d_str (nomark _)) (d_tup (a_cons (d_tup (a_cons d_str (a_cons (d_slice (d_var 0) (o_some (d_var 1)) (o_some (d_var 2))) a_nil))) (a_cons (d_op od_add (d_var 3) d_int) a_nil))) (d_tup (a_cons d_non (a_cons (d_var 3) a_nil)))))))))), fun ds M Q Ed h => ?_⟩
  · obtain ⟨t, p, ⟨rfl, _⟩, _⟩ := h
    rfl
  · obtain ⟨t, p, ⟨rfl, hp, hl, hc⟩, hsk, q⟩ := h
    have e : startD N_s__law_read_call [.str (tx t), .int (p : Nat)] = [.val (.str (tx t)), .val (.int (p : Nat)), .no, .no] := rfl
    rw [e]
    have hz : (tx t).length ≤ sizeLine := by rw [tx_len, sizeLine_eq]; omega
    have elt : (("abcdefghijklmnopqrstuvwxyz" : String) : Str) = tx lettersN := tx_letters
    walk_at "dl"
    refine while_ind (m := 12) (fun m env M' => ∃ x : Nat, env = [.val (.str (tx t)), .val (.int (p : Nat)), .val (.int (x : Nat)), .no] ∧ M' = M ∧ x ≤ t.length ∧ x + m = p + 12 ∧ p ≤ x ∧ nameEnd t m x = nameEnd t 12 p) ?_ ⟨p, rfl, rfl, hp, rfl, Nat.le_refl _, rfl⟩
    rintro m R hR env M' ⟨x, rfl, rfl, h1, h2, h3, h4⟩
    have okx := sgnAt_ok hc x
    unfold sgnAt at okx
    unfold pCall at q
    rw [pName_eq, hsk] at q
    walk_at "dl"
    by_cases h12 : (x : Int) - (p : Int) < 12
    · rw [decide_eq_true h12]
      obtain ⟨m', rfl⟩ : ∃ m', m = m' + 1 := ⟨m - 1, by omega⟩
      rw [nameEnd_succ t m'] at h4
      walk_at "dl"
      refine ⟨hz, ?_⟩
      rw [cut_one]
      walk_at "dl"
      refine ⟨okx, okEq_flat (by decide +kernel), ?_⟩
      walk_at "dl"
      rw [deq_str, tx_empty, tx_beq]
      cases ht : t[x]? with
      | none =>
        rw [if_neg (by unfold isLet; rw [ht]; decide)] at h4
        rw [← h4] at q
        rw [decide_eq_true rfl]
        walk_at "dl"
        refine ⟨okEq_nat _, okEq_nat _, ?_⟩
        walk_at "dl"
        rw [deq_int]
        by_cases hxs : x = p
        · rw [if_pos (.inl hxs)] at q
          rw [decide_eq_true (by omega)]
          walk_at "a"
          exact q
        · rw [decide_eq_false (by omega)]
          walk_at "dl"
          refine ⟨hz, ?_⟩
          rw [cut_one]
          walk_at "dl"
          refine ⟨okx, okEq_flat (by decide +kernel), ?_⟩
          walk_at "dl"
          rw [deq_str]
          try rw [tx_empty]
          rw [tx_beq]
          cases hq : t[x]? with
          | none =>
            rw [if_neg (by rintro (z | z); exact hxs z; unfold isLet at z; rw [hq] at z; cases z)] at q
            rw [decide_eq_true rfl]
            walk_at "dl"
            have okc := sgnAt_ok hc (sk t x)
            unfold sgnAt at okc
            refine ⟨t, x, ⟨rfl, h1, hl, hc⟩, ?_⟩
            walk_at "dl"
            refine ⟨hz, ?_⟩
            rw [cut_one]
            walk_at "dl"
            refine ⟨okc, okEq_flat (by decide +kernel), ?_⟩
            walk_at "dl"
            rw [deq_str, tx_gt, tx_beq]
            dsimp only at q
            unfold pStep at q
            by_cases hg : t[sk t x]? = some cGt
            · rw [if_pos hg] at q
              rw [hg, decide_eq_true rfl]
              walk_at "dl"
              refine ⟨hz, ?_⟩
              rw [cut_mid]
              walk_at "a"
              exact q
            · rw [if_neg hg] at q
              rw [decide_eq_false (by
                intro z
                apply hg
                cases hy : t[sk t x]? with
                | none => rw [hy] at z; cases z
                | some c => rw [hy] at z; cases z; rfl)]
              walk_at "a"
              exact q
          | some d2 =>
            rw [decide_eq_false (by intro z; cases z)]
            walk_at "dl"
            refine ⟨hz, ?_⟩
            rw [tx_cps, atI_k, hq]
            walk_at "dl"
            refine ⟨d2, _, rfl, rfl, ?_⟩
            try rw [elt]
            rw [tx_cps]
            by_cases hd2 : d2 ∈ lettersN
            · rw [if_pos (.inr (by unfold isLet; rw [hq]; exact decide_eq_true hd2))] at q
              rw [decide_eq_true hd2]
              walk_at "a"
              exact q
            · rw [if_neg (by rintro (z | z); exact hxs z; unfold isLet at z; rw [hq] at z; exact hd2 (of_decide_eq_true z))] at q
              rw [decide_eq_false hd2]
              walk_at "dl"
              have okc := sgnAt_ok hc (sk t x)
              unfold sgnAt at okc
              refine ⟨t, x, ⟨rfl, h1, hl, hc⟩, ?_⟩
              walk_at "dl"
              refine ⟨hz, ?_⟩
              rw [cut_one]
              walk_at "dl"
              refine ⟨okc, okEq_flat (by decide +kernel), ?_⟩
              walk_at "dl"
              rw [deq_str, tx_gt, tx_beq]
              dsimp only at q
              unfold pStep at q
              by_cases hg : t[sk t x]? = some cGt
              · rw [if_pos hg] at q
                rw [hg, decide_eq_true rfl]
                walk_at "dl"
                refine ⟨hz, ?_⟩
                rw [cut_mid]
                walk_at "a"
                exact q
              · rw [if_neg hg] at q
                rw [decide_eq_false (by
                  intro z
                  apply hg
                  cases hy : t[sk t x]? with
                  | none => rw [hy] at z; cases z
                  | some c => rw [hy] at z; cases z; rfl)]
                walk_at "a"
                exact q
      | some d =>
        rw [decide_eq_false (by intro z; cases z)]
        walk_at "dl"
        refine ⟨hz, ?_⟩
        rw [tx_cps, atI_k, ht]
        walk_at "dl"
        refine ⟨d, _, rfl, rfl, ?_⟩
        rw [elt, tx_cps]
        by_cases hd : d ∈ lettersN
        · rw [if_pos (by unfold isLet; rw [ht]; exact decide_eq_true hd)] at h4
          rw [decide_eq_true hd]
          walk_at "dl"
          have hlt := (List.getElem?_eq_some_iff.mp ht).1
          exact hR m' _ _ (Nat.lt_succ_self _) ⟨x + 1, rfl, rfl, hlt, by omega, by omega, h4⟩
        · rw [if_neg (by unfold isLet; rw [ht]; intro z; exact hd (of_decide_eq_true z))] at h4
          rw [← h4] at q
          rw [decide_eq_false hd]
          walk_at "dl"
          refine ⟨okEq_nat _, okEq_nat _, ?_⟩
          walk_at "dl"
          rw [deq_int]
          by_cases hxs : x = p
          · rw [if_pos (.inl hxs)] at q
            rw [decide_eq_true (by omega)]
            walk_at "a"
            exact q
          · rw [decide_eq_false (by omega)]
            walk_at "dl"
            refine ⟨hz, ?_⟩
            rw [cut_one]
            walk_at "dl"
            refine ⟨okx, okEq_flat (by decide +kernel), ?_⟩
            walk_at "dl"
            rw [deq_str]
            try rw [tx_empty]
            rw [tx_beq]
            cases hq : t[x]? with
            | none =>
              rw [if_neg (by rintro (z | z); exact hxs z; unfold isLet at z; rw [hq] at z; cases z)] at q
              rw [decide_eq_true rfl]
              walk_at "dl"
              have okc := sgnAt_ok hc (sk t x)
              unfold sgnAt at okc
              refine ⟨t, x, ⟨rfl, h1, hl, hc⟩, ?_⟩
              walk_at "dl"
              refine ⟨hz, ?_⟩
              rw [cut_one]
              walk_at "dl"
              refine ⟨okc, okEq_flat (by decide +kernel), ?_⟩
              walk_at "dl"
              rw [deq_str, tx_gt, tx_beq]
              dsimp only at q
              unfold pStep at q
              by_cases hg : t[sk t x]? = some cGt
              · rw [if_pos hg] at q
                rw [hg, decide_eq_true rfl]
                walk_at "dl"
                refine ⟨hz, ?_⟩
                rw [cut_mid]
                walk_at "a"
                exact q
              · rw [if_neg hg] at q
                rw [decide_eq_false (by
                  intro z
                  apply hg
                  cases hy : t[sk t x]? with
                  | none => rw [hy] at z; cases z
                  | some c => rw [hy] at z; cases z; rfl)]
                walk_at "a"
                exact q
            | some d2 =>
              rw [decide_eq_false (by intro z; cases z)]
              walk_at "dl"
              refine ⟨hz, ?_⟩
              rw [tx_cps, atI_k, hq]
              walk_at "dl"
              refine ⟨d2, _, rfl, rfl, ?_⟩
              try rw [elt]
              rw [tx_cps]
              by_cases hd2 : d2 ∈ lettersN
              · rw [if_pos (.inr (by unfold isLet; rw [hq]; exact decide_eq_true hd2))] at q
                rw [decide_eq_true hd2]
                walk_at "a"
                exact q
              · rw [if_neg (by rintro (z | z); exact hxs z; unfold isLet at z; rw [hq] at z; exact hd2 (of_decide_eq_true z))] at q
                rw [decide_eq_false hd2]
                walk_at "dl"
                have okc := sgnAt_ok hc (sk t x)
                unfold sgnAt at okc
                refine ⟨t, x, ⟨rfl, h1, hl, hc⟩, ?_⟩
                walk_at "dl"
                refine ⟨hz, ?_⟩
                rw [cut_one]
                walk_at "dl"
                refine ⟨okc, okEq_flat (by decide +kernel), ?_⟩
                walk_at "dl"
                rw [deq_str, tx_gt, tx_beq]
                dsimp only at q
                unfold pStep at q
                by_cases hg : t[sk t x]? = some cGt
                · rw [if_pos hg] at q
                  rw [hg, decide_eq_true rfl]
                  walk_at "dl"
                  refine ⟨hz, ?_⟩
                  rw [cut_mid]
                  walk_at "a"
                  exact q
                · rw [if_neg hg] at q
                  rw [decide_eq_false (by
                    intro z
                    apply hg
                    cases hy : t[sk t x]? with
                    | none => rw [hy] at z; cases z
                    | some c => rw [hy] at z; cases z; rfl)]
                  walk_at "a"
                  exact q
    · rw [decide_eq_false h12]
      obtain rfl : m = 0 := by omega
      rw [nameEnd_zero] at h4
      rw [← h4] at q
      walk_at "dl"
      refine ⟨okEq_nat _, okEq_nat _, ?_⟩
      walk_at "dl"
      rw [deq_int]
      by_cases hxs : x = p
      · rw [if_pos (.inl hxs)] at q
        rw [decide_eq_true (by omega)]
        walk_at "a"
        exact q
      · rw [decide_eq_false (by omega)]
        walk_at "dl"
        refine ⟨hz, ?_⟩
        rw [cut_one]
        walk_at "dl"
        refine ⟨okx, okEq_flat (by decide +kernel), ?_⟩
        walk_at "dl"
        rw [deq_str]
        try rw [tx_empty]
        rw [tx_beq]
        cases hq : t[x]? with
        | none =>
          rw [if_neg (by rintro (z | z); exact hxs z; unfold isLet at z; rw [hq] at z; cases z)] at q
          rw [decide_eq_true rfl]
          walk_at "dl"
          have okc := sgnAt_ok hc (sk t x)
          unfold sgnAt at okc
          refine ⟨t, x, ⟨rfl, h1, hl, hc⟩, ?_⟩
          walk_at "dl"
          refine ⟨hz, ?_⟩
          rw [cut_one]
          walk_at "dl"
          refine ⟨okc, okEq_flat (by decide +kernel), ?_⟩
          walk_at "dl"
          rw [deq_str, tx_gt, tx_beq]
          dsimp only at q
          unfold pStep at q
          by_cases hg : t[sk t x]? = some cGt
          · rw [if_pos hg] at q
            rw [hg, decide_eq_true rfl]
            walk_at "dl"
            refine ⟨hz, ?_⟩
            rw [cut_mid]
            walk_at "a"
            exact q
          · rw [if_neg hg] at q
            rw [decide_eq_false (by
              intro z
              apply hg
              cases hy : t[sk t x]? with
              | none => rw [hy] at z; cases z
              | some c => rw [hy] at z; cases z; rfl)]
            walk_at "a"
            exact q
        | some d2 =>
          rw [decide_eq_false (by intro z; cases z)]
          walk_at "dl"
          refine ⟨hz, ?_⟩
          rw [tx_cps, atI_k, hq]
          walk_at "dl"
          refine ⟨d2, _, rfl, rfl, ?_⟩
          try rw [elt]
          rw [tx_cps]
          by_cases hd2 : d2 ∈ lettersN
          · rw [if_pos (.inr (by unfold isLet; rw [hq]; exact decide_eq_true hd2))] at q
            rw [decide_eq_true hd2]
            walk_at "a"
            exact q
          · rw [if_neg (by rintro (z | z); exact hxs z; unfold isLet at z; rw [hq] at z; exact hd2 (of_decide_eq_true z))] at q
            rw [decide_eq_false hd2]
            walk_at "dl"
            have okc := sgnAt_ok hc (sk t x)
            unfold sgnAt at okc
            refine ⟨t, x, ⟨rfl, h1, hl, hc⟩, ?_⟩
            walk_at "dl"
            refine ⟨hz, ?_⟩
            rw [cut_one]
            walk_at "dl"
            refine ⟨okc, okEq_flat (by decide +kernel), ?_⟩
            walk_at "dl"
            rw [deq_str, tx_gt, tx_beq]
            dsimp only at q
            unfold pStep at q
            by_cases hg : t[sk t x]? = some cGt
            · rw [if_pos hg] at q
              rw [hg, decide_eq_true rfl]
              walk_at "dl"
              refine ⟨hz, ?_⟩
              rw [cut_mid]
              walk_at "a"
              exact q
            · rw [if_neg hg] at q
              rw [decide_eq_false (by
                intro z
                apply hg
                cases hy : t[sk t x]? with
                | none => rw [hy] at z; cases z
                | some c => rw [hy] at z; cases z; rfl)]
              walk_at "a"
              exact q


theorem sc_s__law_read_one : FnScope N_s__law_read_one ["_law_text", "_law_at"] (defScope s__law_read_one) := ⟨rfl, rfl, rfl, by decide +kernel, rfl, by decide +kernel, by decide +kernel⟩
theorem ok_one5 (T : TxtP mg) {k n : Nat} (hk : 2 ≤ k) (h__law_skip : Fn P w K mg base 1 "_law_skip" ["_law_text", "_law_at"] spSkip) (h__law_read_call : Fn P w K mg base 2 "_law_read_call" ["_law_text", "_law_at"] spLCall) (h__law_read_choice : Fn P w K mg base k "_law_read_choice" ["_law_text", "_law_at"] (spLChoice n)) (Df : DefAt K mg "_law_read_one" ["_law_text", "_law_at"] s__law_read_one) : Fn P w K mg base (k + 1) "_law_read_one" ["_law_text", "_law_at"] (spLOne n) := by
  refine okF Df sc_s__law_read_one (fun ds M Q E h => ?_) fun f cdv A outer s H E hr => ⟨_, (ss_cons (s_set (i := 2) sc_s__law_read_one.nd (d_slice (d_var 0) (o_some (d_var 1)) (o_some (d_op od_add (d_var 1) d_int))))
    (ss_cons (s_if (d_wt (w_or (d_tcmp (od_eq hr) (d_var 2) d_str (nomark _)) (w_or1 (d_tcmp od_ninS (d_var 2) d_str (by rfl)))))
    (ss_one (s_ret (d_tup (a_cons d_non (a_cons (d_var 1) a_nil)))))
    ss_nil)
    (ss_cons (s_if (d_tcmp (od_eq hr) (d_var 2) d_str (nomark _))
    (ss_one (s_ret (d_callF h__law_read_call (hr.mono (by first | decide | omega)) (a_cons (d_var 0) (a_cons (d_callF h__law_skip (hr.mono (by first | decide | omega)) (a_cons (d_var 0) (a_cons (d_op od_add (d_var 1) d_int) a_nil))) a_nil)))))
    ss_nil)
    (ss_cons (s_if (d_tcmp (od_ne hr) (d_var 2) d_str (nomark _))
    (ss_one (s_ret (d_tup (a_cons (d_ifExp (d_tcmp (od_eq hr) (d_var 2) d_str (nomark _)) (d_tup (a_cons d_str a_nil)) (d_tup (a_cons d_str (a_cons (d_var 2) a_nil)))) (a_cons (d_op od_add (d_var 1) d_int) a_nil)))))
    ss_nil)
    (ss_cons (s_set (i := 3) sc_s__law_read_one.nd (d_callF h__law_skip (hr.mono (by first | decide | omega)) (a_cons (d_var 0) (a_cons (d_op od_add (d_var 1) d_int) a_nil))))
    (ss_cons (s_if (d_tcmp (od_eq hr) (d_slice (d_var 0) (o_some (d_var 3)) (o_some (d_op od_add (d_var 3) d_int))) d_str (nomark _))
    (ss_one (s_ret (d_tup (a_cons (d_tup (a_cons d_str a_nil)) (a_cons (d_op od_add (d_var 3) d_int) a_nil)))))
    ss_nil)
    (ss_cons (s_asg (d_callF h__law_read_choice (hr.mono (by first | decide | omega)) (a_cons (d_var 0) (a_cons (d_var 3) a_nil))) (g_tup (n := 2) rfl (gs_cons (g_name (i := 4) sc_s__law_read_one.nd) (gs_cons (g_name (i := 1) sc_s__law_read_one.nd) gs_nil))))
    (ss_cons (s_if (d_tcmp od_isN (d_var 4) d_non (nomark _))
    (ss_one (s_ret (d_tup (a_cons d_non (a_cons (d_var 1) a_nil)))))
    ss_nil)
    (ss_cons (s_set (i := 1) sc_s__law_read_one.nd (d_callF h__law_skip (hr.mono (by first | decide | omega)) (a_cons (d_var 0) (a_cons (d_var 1) a_nil))))
    (ss_one (s_ret (d_ifExp (d_tcmp (od_eq hr) (d_slice (d_var 0) (o_some (d_var 1)) (o_some (d_op od_add (d_var 1) d_int))) d_str (nomark _)) (d_tup (a_cons (d_var 4) (a_cons (d_op od_add (d_var 1) d_int) a_nil))) (d_tup (a_cons d_non (a_cons (d_var 1) a_nil))))))))))))))), fun ds M Q Ed h => ?_⟩
  · obtain ⟨t, p, ⟨rfl, _⟩, _⟩ := h
    rfl
  · obtain ⟨t, p, ⟨rfl, hp, hl, hc⟩, hsk, hd, ⟨na, nb'⟩, q⟩ := h
    have e : startD N_s__law_read_one [.str (tx t), .int (p : Nat)] = [.val (.str (tx t)), .val (.int (p : Nat)), .no, .no, .no] := rfl
    rw [e]
    have hz : (tx t).length ≤ sizeLine := by rw [tx_len, sizeLine_eq]; omega
    have okx := sgnAt_ok hc p
    unfold sgnAt at okx
    unfold pOne at q
    dsimp only at q
    rw [hsk] at q
    walk_at "dl"
    refine ⟨hz, ?_⟩
    rw [cut_one]
    walk_at "dl"
    refine ⟨okx, okEq_flat (by decide +kernel), ?_⟩
    walk_at "dl"
    rw [deq_str, tx_empty, tx_beq]
    cases ht : t[p]? with
    | none =>
      rw [ht] at q
      rw [decide_eq_true rfl]
      walk_at "a"
      exact q
    | some d =>
      rw [ht] at q na nb' okx
      have n1 : d ≠ cAmp := fun z => na (by rw [z])
      have n2 : d ≠ cBang := fun z => nb' (by rw [z])
      have hlt := (List.getElem?_eq_some_iff.mp ht).1
      rw [decide_eq_false (by intro z; cases z)]
      walk_at "dl"
      refine ⟨d, _, rfl, rfl, ?_⟩
      have eb : (("abcdefghijklmnopqrstuvwxyz.<(" : String) : Str) = tx (lettersN ++ [cDot, cLt, cOpen]) := by decide +kernel
      rw [eb, tx_cps]
      have hbeg : begC d = decide (d ∈ lettersN ++ [cDot, cLt, cOpen]) := by
        unfold begC
        by_cases h1 : d ∈ lettersN
        · rw [decide_eq_true h1, decide_eq_true (List.mem_append_left _ h1), Bool.true_or]
        · rw [decide_eq_false h1, Bool.false_or]
          congr 1
          refine propext ⟨fun z => List.mem_append_right _ ?_, fun z => ?_⟩
          · simp only [List.mem_cons, List.not_mem_nil, or_false] at z ⊢
            rcases z with z | z | z | z | z
            · exact .inl z
            · exact .inr (.inl z)
            · exact .inr (.inr z)
            · exact (n1 z).elim
            · exact (n2 z).elim
          · rcases List.mem_append.mp z with z | z
            · exact (h1 z).elim
            · simp only [List.mem_cons, List.not_mem_nil, or_false] at z ⊢
              rcases z with z | z | z
              · exact .inl z
              · exact .inr (.inl z)
              · exact .inr (.inr (.inl z))
      dsimp only at q
      rw [hbeg, decide_eq_false n1, decide_eq_false n2, Bool.or_false, Bool.or_false] at q
      by_cases hin : d ∈ lettersN ++ [cDot, cLt, cOpen]
      · rw [decide_eq_true hin, if_neg (by decide)] at q
        rw [decide_eq_true hin]
        walk_at "dl"
        refine ⟨okx, okEq_flat (by decide +kernel), ?_⟩
        walk_at "dl"
        rw [deq_str, tx_lt, tx_beq]
        by_cases hlt2 : d = cLt
        · subst hlt2
          rw [if_neg (by decide), if_neg (by decide), if_pos rfl] at q
          rw [decide_eq_true rfl]
          walk_at "dl"
          refine ⟨t, p + 1, ⟨rfl, hlt, hl, hc⟩, ?_⟩
          walk_at "dl"
          refine ⟨t, sk t (p + 1), ⟨rfl, sk_le hlt, hl, hc⟩, sk_sk, ?_⟩
          rw [pCall_sk]
          exact q
        · rw [decide_eq_false (by intro z; cases z; exact hlt2 rfl)]
          walk_at "dl"
          refine ⟨okx, okEq_flat (by decide +kernel), ?_⟩
          walk_at "dl"
          rw [deq_str, tx_open, tx_beq]
          by_cases hop : d = cOpen
          · subst hop
            rw [if_neg (by decide), if_neg (by decide), if_neg (by decide)] at q
            rw [decide_eq_true rfl]
            walk_at "dl"
            refine ⟨t, p + 1, ⟨rfl, hlt, hl, hc⟩, ?_⟩
            walk_at "dl"
            refine ⟨hz, ?_⟩
            rw [cut_one]
            walk_at "dl"
            have oki := sgnAt_ok hc (sk t (p + 1))
            unfold sgnAt at oki
            refine ⟨oki, okEq_flat (by decide +kernel), ?_⟩
            walk_at "dl"
            rw [deq_str, tx_close, tx_beq]
            by_cases hcl : t[sk t (p + 1)]? = some cClose
            · rw [if_pos hcl] at q
              rw [hcl, decide_eq_true rfl]
              walk_at "a"
              exact q
            · rw [if_neg hcl] at q
              rw [decide_eq_false (by
                intro z
                apply hcl
                cases hy : t[sk t (p + 1)]? with
                | none => rw [hy] at z; cases z
                | some c => rw [hy] at z; cases z; rfl)]
              walk_at "dl"
              have hdc : dc t (sk t (p + 1)) < n := by
                have := dc_step ht (by decide)
                have := dc_mono (t := t) (sk_ge t (p + 1))
                omega
              refine ⟨t, sk t (p + 1), ⟨rfl, sk_le hlt, hl, hc⟩, hdc, ?_⟩
              cases hch : pChoice t (pLook t n) (sk t (p + 1)) with
              | bad r =>
                rw [hch] at q
                dsimp only [rE5] at q ⊢
                walk_at "a"
                exact q
              | ok w1 r =>
                have hg := goes_choice (goes_look t n) _ w1 r (sk_le hlt) hch
                rw [hch] at q
                dsimp only [rE5] at q ⊢
                obtain ⟨rr, hwd⟩ := w1.d_tup
                rw [hwd]
                walk_at "a"
                refine ⟨t, r, ⟨rfl, hg.2, hl, hc⟩, ?_⟩
                walk_at "dl"
                refine ⟨hz, ?_⟩
                rw [cut_one]
                walk_at "dl"
                have oke := sgnAt_ok hc (sk t r)
                unfold sgnAt at oke
                refine ⟨oke, okEq_flat (by decide +kernel), ?_⟩
                walk_at "dl"
                rw [deq_str]
                try rw [tx_close]
                rw [tx_beq]
                unfold pStep at q
                by_cases hce : t[sk t r]? = some cClose
                · rw [if_pos hce] at q
                  dsimp only at q
                  rw [hwd] at q
                  rw [hce, decide_eq_true rfl]
                  walk_at "a"
                  exact q
                · rw [if_neg hce] at q
                  rw [decide_eq_false (by
                    intro z
                    apply hce
                    cases hy : t[sk t r]? with
                    | none => rw [hy] at z; cases z
                    | some c => rw [hy] at z; cases z; rfl)]
                  walk_at "a"
                  exact q
          · rw [decide_eq_false (by intro z; cases z; exact hop rfl)]
            walk_at "dl"
            refine ⟨okx, okEq_flat (by decide +kernel), ?_⟩
            walk_at "dl"
            rw [deq_str, tx_dot, tx_beq]
            by_cases hdt : d = cDot
            · subst hdt
              rw [if_neg (by decide), if_pos rfl] at q
              rw [decide_eq_true rfl]
              walk_at "a"
              exact q
            · have hle : d ∈ lettersN := by
                rcases List.mem_append.mp hin with z | z
                · exact z
                · simp only [List.mem_cons, List.not_mem_nil, or_false] at z
                  rcases z with z | z | z
                  · exact (hdt z).elim
                  · exact (hlt2 z).elim
                  · exact (hop z).elim
              rw [if_pos hle] at q
              rw [decide_eq_false (by intro z; cases z; exact hdt rfl)]
              walk_at "a"
              exact q
      · rw [decide_eq_false hin, if_pos (by decide)] at q
        rw [decide_eq_false hin]
        walk_at "a"
        exact q


theorem sc_s__law_read_row : FnScope N_s__law_read_row ["_law_text", "_law_at"] (defScope s__law_read_row) := ⟨rfl, rfl, rfl, by decide +kernel, rfl, by decide +kernel, by decide +kernel⟩
theorem ok_row5 (T : TxtP mg) {k n : Nat} (hk : 1 ≤ k) (hn : 0 < n) (h__law_skip : Fn P w K mg base 1 "_law_skip" ["_law_text", "_law_at"] spSkip) (h__law_begins : Fn P w K mg base 1 "_law_begins" ["_law_sign"] spBeg5) (h__law_read_look : Fn P w K mg base k "_law_read_look" ["_law_text", "_law_at"] (spLLook n)) (Df : DefAt K mg "_law_read_row" ["_law_text", "_law_at"] s__law_read_row) : Fn P w K mg base (k + 1) "_law_read_row" ["_law_text", "_law_at"] (spLRow n) := by
  refine okF Df sc_s__law_read_row (fun ds M Q E h => ?_) fun f cdv A outer s H E hr => ⟨_, (ss_cons (s_setN (i := 2) sc_s__law_read_row.nd (n_lst a_nil))
    (ss_one (s_while PassesOwn.never (d_truth d_bl)
    (ss_cons (s_set (i := 1) sc_s__law_read_row.nd (d_callF h__law_skip (hr.mono (by first | decide | omega)) (a_cons (d_var 0) (a_cons (d_var 1) a_nil))))
    (ss_cons (s_if (d_wt (w_and (d_tneO0 hr 2) (w_and1 (d_not (d_truth (d_callF h__law_begins (hr.mono (by first | decide | omega)) (a_cons (d_slice (d_var 0) (o_some (d_var 1)) (o_some (d_op od_add (d_var 1) d_int))) a_nil)))))))
    (ss_one (s_ret (d_tup (a_cons (d_ifExp (d_tcmp (od_eq hr) (d_lenO 2 rfl T.z_len) d_int (nomark _)) (d_ixO 2 d_int) (d_tup (a_cons d_str (a_cons (d_var 2) a_nil)))) (a_cons (d_var 1) a_nil)))))
    ss_nil)
    (ss_cons (s_asg (d_callF h__law_read_look (hr.mono (by first | decide | omega)) (a_cons (d_var 0) (a_cons (d_var 1) a_nil))) (g_tup (n := 2) rfl (gs_cons (g_name (i := 3) sc_s__law_read_row.nd) (gs_cons (g_name (i := 1) sc_s__law_read_row.nd) gs_nil))))
    (ss_cons (s_if (d_tcmp od_isN (d_var 3) d_non (nomark _))
    (ss_one (s_ret (d_tup (a_cons d_non (a_cons (d_var 1) a_nil)))))
    ss_nil)
    (ss_one (s_append 2 (d_var 3)))))))))), fun ds M Q Ed h => ?_⟩
  · obtain ⟨t, p, ⟨rfl, _⟩, _⟩ := h
    rfl
  · obtain ⟨t, p, ⟨rfl, hp, hl, hc⟩, hd, q⟩ := h
    have e : startD N_s__law_read_row [.str (tx t), .int (p : Nat)] = [.val (.str (tx t)), .val (.int (p : Nat)), .no, .no] := rfl
    rw [e]
    have hz : (tx t).length ≤ sizeLine := by rw [tx_len, sizeLine_eq]; omega
    walk_at "a"
    refine while_ind (m := t.length + 1 - p) (fun m env M' => ∃ (ws : List WT) (x : Nat) (v3 : Sl), env = [.val (.str (tx t)), .val (.int (x : Nat)), .own (ws.map WT.d), v3] ∧ M' = M ∧ x ≤ t.length ∧ p ≤ x ∧ ws.length ≤ x ∧ m = t.length + 1 - x ∧ (ws = [] ∧ rE5 Q M (pRow t (pLook t n) x) ∨ ws ≠ [] ∧ ∃ k, t.length < k + sk t x ∧ rE5 Q M (pRows t (pLook t n) k ws x))) ?_ ⟨[], p, .no, rfl, rfl, hp, Nat.le_refl _, Nat.zero_le _, rfl, .inl ⟨rfl, q⟩⟩
    rintro m R hR env M' ⟨ws, x, v3, rfl, rfl, h1, h2, h3, rfl, q⟩
    have hs := sk_le h1
    have hge := sk_ge t x
    have hdc := dc_mono (t := t) (show p ≤ sk t x by omega)
    walk_at "dl"
    refine ⟨t, x, ⟨rfl, h1, hl, hc⟩, ?_⟩
    have next : ∀ v3 : Sl, (∀ w1 r, pLook t n (sk t x) = .ok w1 r → ∃ k, t.length < k + r ∧ rE5 Q M' (pRows t (pLook t n) k (ws ++ [w1]) r)) → (∀ r, pLook t n (sk t x) = .bad r → rE5 Q M' (.bad r)) → spLLook n [.str (tx t), .int ((sk t x : Nat))] M' (fun d M2 => gT 2 (gsCons (gN 3) (gsCons (gN 1) gsNil)) d [.val (.str (tx t)), .val (.int ((sk t x : Nat))), .own (ws.map WT.d), v3] M2 fun e1 M1 => (sSeq
            (sIf (dTst (dBin rdIsN (dVar 3) (dC D.non))) (sRet (dTup (dCons (dC D.non) (dCons (dVar 1) dNil)))) sNext)
            (sApp 2 (dVar 3))) { nx := R, rt := Q, ct := R } e1 M1) KX0 := by
      intro v3 ok1 ok2
      refine ⟨t, sk t x, ⟨rfl, hs, hl, hc⟩, by omega, ?_⟩
      cases hr2 : pLook t n (sk t x) with
      | bad r =>
        have q := ok2 r hr2
        dsimp only [rE5, rL5] at q ⊢
        walk_at "a"
        exact q
      | ok w1 r =>
        obtain ⟨k, k1, k2⟩ := ok1 w1 r hr2
        have hg := goes_look t n _ w1 r hs hr2
        dsimp only [rL5]
        intro q' q1 q2 q3
        obtain ⟨rr, hwd⟩ := w1.d_tup
        have hq := sk_ge t q'
        rw [hwd]
        walk_at "a"
        rw [← hwd]
        refine ⟨by rw [List.length_map, sizeLine_eq]; omega, ?_⟩
        refine hR (t.length + 1 - q') _ _ (by omega) ⟨ws ++ [w1], q', .val w1.d, by rw [List.map_append]; rfl, rfl, q2, by omega, by rw [List.length_append, List.length_singleton]; omega, rfl, .inr ⟨by simp, k, by rw [q3]; exact k1, by rw [← pRows_sk _ _ _ _ _ (by omega), q3]; exact k2⟩⟩
    rcases q with ⟨rfl, q⟩ | ⟨hne, k, k1, q⟩
    · walk_at "dl"
      refine next v3 (fun w1 r hw => ?_) (fun r hw => ?_)
      · unfold pRow at q
        rw [← pLook_sk t x hn, hw] at q
        exact ⟨t.length + 1, by omega, q⟩
      · unfold pRow at q
        rw [← pLook_sk t x hn, hw] at q
        exact q
    · obtain ⟨k', rfl⟩ : ∃ k', k = k' + 1 := ⟨k - 1, by omega⟩
      unfold pRows at q
      have hne2 : (ws.map WT.d).isEmpty = false := by cases ws with | nil => exact (hne rfl).elim | cons _ _ => rfl
      walk_at "dl"
      rw [hne2]
      walk_at "dl"
      refine ⟨hz, ?_⟩
      rw [cut_one]
      walk_at "dl"
      refine ⟨t, sk t x, rfl, hc, ?_⟩
      rw [begins_at]
      cases hb : begins t x
      · rw [hb, if_neg (by intro z; cases z)] at q
        walk_at "dl"
        cases ws with
        | nil => exact (hne rfl).elim
        | cons w0 us =>
          cases us with
          | nil =>
            walk_at "a"
            exact q
          | cons w2 us =>
            walk_at "a"
            have hd3 : (mkW false (w0 :: w2 :: us)).d = .tup [.str "row", .lst ((w0 :: w2 :: us).map WT.d)] := by
              show D.tup [.str "row", .lst (WT.dOf (w0 :: w2 :: us))] = _
              rw [WT.dOf_map]
            dsimp only [rE5] at q
            rw [hd3] at q
            exact q
      · rw [hb, if_pos rfl] at q
        walk_at "dl"
        refine next v3 (fun w1 r hw => ?_) (fun r hw => ?_)
        · rw [hw] at q
          exact ⟨k', by have := goes_look t n _ w1 r hs hw; omega, q⟩
        · rw [hw] at q
          exact q


theorem sc_s__law_read_choice : FnScope N_s__law_read_choice ["_law_text", "_law_at"] (defScope s__law_read_choice) := ⟨rfl, rfl, rfl, by decide +kernel, rfl, by decide +kernel, by decide +kernel⟩
theorem ok_choice5 (T : TxtP mg) {k n : Nat} (hk : 1 ≤ k) (hn : 0 < n) (h__law_skip : Fn P w K mg base 1 "_law_skip" ["_law_text", "_law_at"] spSkip) (h__law_read_row : Fn P w K mg base k "_law_read_row" ["_law_text", "_law_at"] (spLRow n)) (Df : DefAt K mg "_law_read_choice" ["_law_text", "_law_at"] s__law_read_choice) : Fn P w K mg base (k + 1) "_law_read_choice" ["_law_text", "_law_at"] (spLChoice n) := by
  refine okF Df sc_s__law_read_choice (fun ds M Q E h => ?_) fun f cdv A outer s H E hr => ⟨_, (ss_cons (s_setN (i := 2) sc_s__law_read_choice.nd (n_lst a_nil))
    (ss_one (s_while PassesOwn.never (d_truth d_bl)
    (ss_cons (s_asg (d_callF h__law_read_row (hr.mono (by first | decide | omega)) (a_cons (d_var 0) (a_cons (d_var 1) a_nil))) (g_tup (n := 2) rfl (gs_cons (g_name (i := 3) sc_s__law_read_choice.nd) (gs_cons (g_name (i := 1) sc_s__law_read_choice.nd) gs_nil))))
    (ss_cons (s_if (d_tcmp od_isN (d_var 3) d_non (nomark _))
    (ss_one (s_ret (d_tup (a_cons d_non (a_cons (d_var 1) a_nil)))))
    ss_nil)
    (ss_cons (s_append 2 (d_var 3))
    (ss_cons (s_set (i := 1) sc_s__law_read_choice.nd (d_callF h__law_skip (hr.mono (by first | decide | omega)) (a_cons (d_var 0) (a_cons (d_var 1) a_nil))))
    (ss_cons (s_if (d_tcmp (od_ne hr) (d_slice (d_var 0) (o_some (d_var 1)) (o_some (d_op od_add (d_var 1) d_int))) d_str (nomark _))
    (ss_one (s_ret (d_tup (a_cons (d_ifExp (d_tcmp (od_eq hr) (d_lenO 2 rfl T.z_len) d_int (nomark _)) (d_ixO 2 d_int) (d_tup (a_cons d_str (a_cons (d_var 2) a_nil)))) (a_cons (d_var 1) a_nil)))))
    ss_nil)
    (ss_one (s_set (i := 1) sc_s__law_read_choice.nd (d_op od_add (d_var 1) d_int))))))))))), fun ds M Q Ed h => ?_⟩
  · obtain ⟨t, p, ⟨rfl, _⟩, _⟩ := h
    rfl
  · obtain ⟨t, p, ⟨rfl, hp, hl, hc⟩, hd, q⟩ := h
    have e : startD N_s__law_read_choice [.str (tx t), .int (p : Nat)] = [.val (.str (tx t)), .val (.int (p : Nat)), .no, .no] := rfl
    rw [e]
    have hz : (tx t).length ≤ sizeLine := by rw [tx_len, sizeLine_eq]; omega
    walk_at "a"
    refine while_ind (m := t.length + 1 - p) (fun m env M' => ∃ (ws : List WT) (x : Nat) (v3 : Sl), env = [.val (.str (tx t)), .val (.int (x : Nat)), .own (ws.map WT.d), v3] ∧ M' = M ∧ x ≤ t.length ∧ p ≤ x ∧ ws.length ≤ x ∧ m = t.length + 1 - x ∧ (ws = [] ∧ rE5 Q M (pChoice t (pLook t n) x) ∨ ws ≠ [] ∧ ∃ k, t.length < k + x ∧ rE5 Q M (match pRow t (pLook t n) x with
      | .bad q => .bad q
      | .ok w q => pAlts t (pRow t (pLook t n)) k (ws ++ [w]) q))) ?_ ⟨[], p, .no, rfl, rfl, hp, Nat.le_refl _, Nat.zero_le _, rfl, .inl ⟨rfl, q⟩⟩
    rintro m R hR env M' ⟨ws, x, v3, rfl, rfl, h1, h2, h3, rfl, q⟩
    have hdc := dc_mono (t := t) h2
    obtain ⟨k, k1, q⟩ : ∃ k, t.length < k + x ∧ rE5 Q M' (match pRow t (pLook t n) x with
      | .bad q => .bad q
      | .ok w q => pAlts t (pRow t (pLook t n)) k (ws ++ [w]) q) := by
      rcases q with ⟨rfl, q⟩ | ⟨_, k, k1, q⟩
      · exact ⟨t.length + 1, by omega, q⟩
      · exact ⟨k, k1, q⟩
    walk_at "dl"
    refine ⟨t, x, ⟨rfl, h1, hl, hc⟩, by omega, ?_⟩
    cases hr2 : pRow t (pLook t n) x with
    | bad r =>
      rw [hr2] at q
      dsimp only [rE5] at q ⊢
      walk_at "a"
      exact q
    | ok w1 r =>
      have hg := goes_row (goes_look t n) _ w1 r h1 hr2
      have hs := sk_le hg.2
      have hge := sk_ge t r
      rw [hr2] at q
      dsimp only [rE5] at q ⊢
      obtain ⟨rr, hwd⟩ := w1.d_tup
      rw [hwd]
      walk_at "a"
      rw [← hwd]
      refine ⟨by rw [List.length_map, sizeLine_eq]; omega, ?_⟩
      refine ⟨t, r, ⟨rfl, hg.2, hl, hc⟩, ?_⟩
      walk_at "dl"
      refine ⟨hz, ?_⟩
      rw [cut_one]
      walk_at "dl"
      have oks := sgnAt_ok hc (sk t r)
      unfold sgnAt at oks
      refine ⟨oks, okEq_flat (by decide +kernel), ?_⟩
      walk_at "dl"
      rw [deq_str, tx_sl, tx_beq]
      obtain ⟨k', rfl⟩ : ∃ k', k = k' + 1 := ⟨k - 1, by omega⟩
      unfold pAlts at q
      have hmap : ws.map WT.d ++ [w1.d] = (ws ++ [w1]).map WT.d := by rw [List.map_append]; rfl
      by_cases hsl : t[sk t r]? = some cSlash
      · rw [if_pos hsl] at q
        rw [hsl, decide_eq_true rfl]
        have hlt := (List.getElem?_eq_some_iff.mp hsl).1
        walk_at "dl"
        rw [hmap]
        exact hR (t.length + 1 - (sk t r + 1)) _ _ (by omega) ⟨ws ++ [w1], sk t r + 1, .val w1.d, rfl, rfl, hlt, by omega, by rw [List.length_append, List.length_singleton]; omega, rfl, .inr ⟨by simp, k', by omega, q⟩⟩
      · rw [if_neg hsl] at q
        rw [decide_eq_false (by
          intro z
          apply hsl
          cases hy : t[sk t r]? with
          | none => rw [hy] at z; cases z
          | some c => rw [hy] at z; cases z; rfl)]
        walk_at "dl"
        rw [hmap]
        cases ws with
        | nil =>
          walk_at "a"
          exact q
        | cons w0 us =>
          walk_at "a"
          rw [decide_eq_false (by rw [List.length_map, List.length_append, List.length_cons, List.length_singleton]; omega)]
          walk_at "a"
          have hd3 : (mkW true ((w0 :: us) ++ [w1])).d = .tup [.str "choice", .lst (((w0 :: us) ++ [w1]).map WT.d)] := by
            cases us with
            | nil => rfl
            | cons u us =>
              show D.tup [.str "choice", .lst (WT.dOf _)] = _
              rw [WT.dOf_map]
          dsimp only [rE5] at q
          rw [hd3] at q
          exact q


theorem sc_s__law_read_look : FnScope N_s__law_read_look ["_law_text", "_law_at"] (defScope s__law_read_look) := ⟨rfl, rfl, rfl, by decide +kernel, rfl, by decide +kernel, by decide +kernel⟩
theorem ok_look5 (T : TxtP mg) {k n : Nat} (hk : 1 ≤ k) (h__law_skip : Fn P w K mg base 1 "_law_skip" ["_law_text", "_law_at"] spSkip) (h__law_read_one : Fn P w K mg base k "_law_read_one" ["_law_text", "_law_at"] (spLOne n)) (h__law_read_look : Fn P w K mg base k "_law_read_look" ["_law_text", "_law_at"] (spLLook n)) (Df : DefAt K mg "_law_read_look" ["_law_text", "_law_at"] s__law_read_look) : Fn P w K mg base (k + 1) "_law_read_look" ["_law_text", "_law_at"] (spLLook (n + 1)) := by
  refine okF Df sc_s__law_read_look (fun ds M Q E h => ?_) fun f cdv A outer s H E hr => ⟨_, (ss_cons (s_set (i := 1) sc_s__law_read_look.nd (d_callF h__law_skip (hr.mono (by first | decide | omega)) (a_cons (d_var 0) (a_cons (d_var 1) a_nil))))
    (ss_cons (s_if (d_tcmp od_in (d_slice (d_var 0) (o_some (d_var 1)) (o_some (d_op od_add (d_var 1) d_int))) (d_lst (a_cons d_str (a_cons d_str a_nil))) (by rfl))
    (ss_cons (s_asg (d_callF h__law_read_look (hr.mono (by first | decide | omega)) (a_cons (d_var 0) (a_cons (d_op od_add (d_var 1) d_int) a_nil))) (g_tup (n := 2) rfl (gs_cons (g_name (i := 3) sc_s__law_read_look.nd) (gs_cons (g_name (i := 2) sc_s__law_read_look.nd) gs_nil))))
    (ss_cons (s_if (d_tcmp od_isN (d_var 3) d_non (nomark _))
    (ss_one (s_ret (d_tup (a_cons d_non (a_cons (d_var 2) a_nil)))))
    ss_nil)
    (ss_one (s_ret (d_tup (a_cons (d_tup (a_cons (d_ifExp (d_tcmp (od_eq hr) (d_ix (d_var 0) (d_var 1)) d_str (nomark _)) d_str d_str) (a_cons (d_var 3) a_nil))) (a_cons (d_var 2) a_nil)))))))
    ss_nil)
    (ss_cons (s_asg (d_callF h__law_read_one (hr.mono (by first | decide | omega)) (a_cons (d_var 0) (a_cons (d_var 1) a_nil))) (g_tup (n := 2) rfl (gs_cons (g_name (i := 3) sc_s__law_read_look.nd) (gs_cons (g_name (i := 1) sc_s__law_read_look.nd) gs_nil))))
    (ss_cons (s_if (d_tcmp od_isN (d_var 3) d_non (nomark _))
    (ss_one (s_ret (d_tup (a_cons d_non (a_cons (d_var 1) a_nil)))))
    ss_nil)
    (ss_cons (s_while PassesOwn.never (d_tcmp od_in (d_slice (d_var 0) (o_some (d_callF h__law_skip (hr.mono (by first | decide | omega)) (a_cons (d_var 0) (a_cons (d_var 1) a_nil)))) (o_some (d_op od_add (d_callF h__law_skip (hr.mono (by first | decide | omega)) (a_cons (d_var 0) (a_cons (d_var 1) a_nil))) d_int))) (d_lst (a_cons d_str (a_cons d_str a_nil))) (by rfl))
    (ss_cons (s_set (i := 1) sc_s__law_read_look.nd (d_callF h__law_skip (hr.mono (by first | decide | omega)) (a_cons (d_var 0) (a_cons (d_var 1) a_nil))))
    (ss_cons (s_set (i := 3) sc_s__law_read_look.nd (d_tup (a_cons (d_ifExp (d_tcmp (od_eq hr) (d_ix (d_var 0) (d_var 1)) d_str (nomark _)) d_str d_str) (a_cons (d_var 3) a_nil))))
    (ss_one (s_set (i := 1) sc_s__law_read_look.nd (d_op od_add (d_var 1) d_int))))))
    (ss_one (s_ret (d_tup (a_cons (d_var 3) (a_cons (d_var 1) a_nil)))))))))), fun ds M Q Ed h => ?_⟩
  · obtain ⟨t, p, ⟨rfl, _⟩, _⟩ := h
    rfl
  · obtain ⟨t, p, ⟨rfl, hp, hl, hc⟩, hd, q⟩ := h
    have e : startD N_s__law_read_look [.str (tx t), .int (p : Nat)] = [.val (.str (tx t)), .val (.int (p : Nat)), .no, .no] := rfl
    rw [e]
    have hz : (tx t).length ≤ sizeLine := by rw [tx_len, sizeLine_eq]; omega
    have hs := sk_le hp
    have hge := sk_ge t p
    have okx := sgnAt_ok hc (sk t p)
    unfold sgnAt at okx
    unfold pLook at q
    walk_at "dl"
    refine ⟨t, p, ⟨rfl, hp, hl, hc⟩, ?_⟩
    walk_at "dl"
    refine ⟨hz, ?_⟩
    rw [cut_one]
    walk_at "a"
    rw [eqF_str, eqF_str, tx_and, tx_not, tx_beq, tx_beq]
    by_cases hlook : t[sk t p]? = some cAmp ∨ t[sk t p]? = some cBang
    · obtain ⟨d, hd0, hd1⟩ : ∃ d, t[sk t p]? = some d ∧ (d = cAmp ∨ d = cBang) := by
        rcases hlook with z | z
        · exact ⟨_, z, .inl rfl⟩
        · exact ⟨_, z, .inr rfl⟩
      have hlt := (List.getElem?_eq_some_iff.mp hd0).1
      have hdc := dc_step hd0 (by rcases hd1 with rfl | rfl <;> decide)
      have hmm := dc_mono (t := t) hge
      rw [hd0] at q
      dsimp only at q
      rw [if_pos hd1] at q
      rw [hd0, show (decide ([38] = [d]) || decide ([33] = [d])) = true from by rcases hd1 with rfl | rfl <;> decide]
      walk_at "dl"
      refine ⟨t, sk t p + 1, ⟨rfl, hlt, hl, hc⟩, by omega, ?_⟩
      cases hr2 : pLook t n (sk t p + 1) with
      | bad r =>
        rw [hr2] at q
        dsimp only [rL5] at q ⊢
        walk_at "a"
        exact q
      | ok w1 r =>
        rw [hr2] at q
        dsimp only [rL5] at q ⊢
        intro q' q1 q2 q3
        obtain ⟨rr, hwd⟩ := w1.d_tup
        have q := q q' (by omega) q2 q3
        rw [hwd]
        walk_at "a"
        rw [tx_cps, atI_k, hd0]
        walk_at "dl"
        refine ⟨okEq_tx fun x hx => by rw [List.mem_singleton.mp hx]; exact hc d (List.mem_of_getElem? hd0), okEq_flat (by decide +kernel), ?_⟩
        walk_at "dl"
        rw [deq_str, show ({ cps := #[d] } : Str) = tx [d] from rfl]
        try rw [tx_and]
        rw [tx_beq]
        rcases hd1 with rfl | rfl
        · rw [if_pos rfl] at q
          rw [decide_eq_true rfl]
          walk_at "a"
          rw [← hwd]
          exact q
        · rw [if_neg (by decide)] at q
          rw [decide_eq_false (by decide)]
          walk_at "a"
          rw [← hwd]
          exact q
    · have hn : ∀ d, t[sk t p]? = some d → ¬ (d = cAmp ∨ d = cBang) := fun d hd0 z => hlook (by rw [hd0]; rcases z with rfl | rfl; exact .inl rfl; exact .inr rfl)
      have q : rL5 Q M t (p + 1) (pRepeat t (pChoice t (pLook t n)) (sk t p)) := by
        cases hy : t[sk t p]? with
        | none => rw [hy] at q; exact q
        | some d =>
          rw [hy] at q
          dsimp only at q
          rw [if_neg (hn d hy)] at q
          exact q
      rw [@decide_eq_false ([38] = _) _ ?h1, @decide_eq_false ([33] = _) _ ?h2]
      case h1 =>
        intro z
        cases hy : t[sk t p]? with
        | none => rw [hy] at z; cases z
        | some d => rw [hy] at z; cases z; exact hn _ hy (.inl rfl)
      case h2 =>
        intro z
        cases hy : t[sk t p]? with
        | none => rw [hy] at z; cases z
        | some d => rw [hy] at z; cases z; exact hn _ hy (.inr rfl)
      walk_at "dl"
      have hmm := dc_mono (t := t) hge
      refine ⟨t, sk t p, ⟨rfl, hs, hl, hc⟩, sk_sk, by omega, ⟨fun z => hlook (.inl z), fun z => hlook (.inr z)⟩, ?_⟩
      unfold pRepeat at q
      cases ho : pOne t (pChoice t (pLook t n)) (sk t p) with
      | bad r =>
        rw [ho] at q
        dsimp only [rE5, rL5] at q ⊢
        walk_at "a"
        exact q
      | ok w1 r =>
        have hg := goes_one (goes_choice (goes_look t n)) _ w1 r hs ho
        rw [ho] at q
        dsimp only [rE5, rL5] at q ⊢
        obtain ⟨rr, hwd⟩ := w1.d_tup
        rw [hwd]
        walk_at "a"
        rw [← hwd]
        obtain ⟨wf, hwf⟩ : ∃ wf, pReps t (t.length + 1) w1 r = wf := ⟨_, rfl⟩
        rw [hwf] at q
        refine while_ind (m := t.length + 1) (fun m env M' => ∃ (w2 : WT) (x : Nat), env = [.val (.str (tx t)), .val (.int (x : Nat)), .no, .val w2.d] ∧ M' = M ∧ x ≤ t.length ∧ r ≤ x ∧ t.length < m + x ∧ pReps t m w2 x = wf) ?_ ⟨w1, r, rfl, rfl, hg.2, Nat.le_refl _, by omega, hwf⟩
        rintro m R hR env M' ⟨w2, x, rfl, rfl, h1, h2, h3, h4⟩
        have hsx := sk_le h1
        have hgx := sk_ge t x
        have oks := sgnAt_ok hc (sk t x)
        unfold sgnAt at oks
        obtain ⟨m', rfl⟩ : ∃ m', m = m' + 1 := ⟨m - 1, by omega⟩
        unfold pReps at h4
        walk_at "dl"
        refine ⟨t, x, ⟨rfl, h1, hl, hc⟩, ?_⟩
        walk_at "dl"
        refine ⟨t, x, ⟨rfl, h1, hl, hc⟩, ?_⟩
        walk_at "dl"
        refine ⟨hz, ?_⟩
        rw [cut_one]
        walk_at "a"
        rw [eqF_str, eqF_str, tx_star, tx_quest, tx_beq, tx_beq]
        cases hy : t[sk t x]? with
        | none =>
          rw [hy] at h4
          dsimp only at h4
          rw [decide_eq_false (by intro z; cases z), decide_eq_false (by intro z; cases z)]
          walk_at "a"
          have z := q x (by omega) h1 (by rw [← h4])
          rw [← h4] at z
          exact z
        | some d =>
          rw [hy] at h4 oks
          dsimp only at h4
          by_cases hst : d = cStar
          · subst hst
            rw [if_pos rfl] at h4
            rw [decide_eq_true rfl, Bool.true_or]
            have hlt := (List.getElem?_eq_some_iff.mp hy).1
            walk_at "dl"
            refine ⟨t, x, ⟨rfl, h1, hl, hc⟩, ?_⟩
            walk_at "a"
            rw [tx_cps, atI_k, hy]
            walk_at "dl"
            refine ⟨okEq_tx fun y hyy => by rw [List.mem_singleton.mp hyy]; decide, okEq_flat (by decide +kernel), ?_⟩
            walk_at "dl"
            rw [deq_str]
            try rw [tx_star]
            rw [show (({ cps := #[cStar] } : Str) == tx [42]) = true from by decide +kernel]
            walk_at "a"
            exact hR m' _ _ (Nat.lt_succ_self _) ⟨.un .again w2, sk t x + 1, rfl, rfl, hlt, by omega, by omega, h4⟩
          · rw [if_neg hst] at h4
            by_cases hqu : d = cQuest
            · subst hqu
              rw [if_pos rfl] at h4
              rw [decide_eq_true (p := [63] = [cQuest]) rfl, Bool.or_true]
              have hlt := (List.getElem?_eq_some_iff.mp hy).1
              walk_at "dl"
              refine ⟨t, x, ⟨rfl, h1, hl, hc⟩, ?_⟩
              walk_at "a"
              rw [tx_cps, atI_k, hy]
              walk_at "dl"
              refine ⟨okEq_tx fun y hyy => by rw [List.mem_singleton.mp hyy]; decide, okEq_flat (by decide +kernel), ?_⟩
              walk_at "dl"
              rw [deq_str]
              try rw [tx_star]
              rw [show (({ cps := #[cQuest] } : Str) == tx [42]) = false from by decide +kernel]
              walk_at "a"
              exact hR m' _ _ (Nat.lt_succ_self _) ⟨.un .maybe w2, sk t x + 1, rfl, rfl, hlt, by omega, by omega, h4⟩
            · rw [if_neg hqu] at h4
              rw [decide_eq_false (by intro z; cases z; exact hst rfl), decide_eq_false (by intro z; cases z; exact hqu rfl)]
              walk_at "a"
              have z := q x (by omega) h1 (by rw [← h4])
              rw [← h4] at z
              exact z


theorem sc_s__law_due : FnScope N_s__law_due ["_law_text"] (defScope s__law_due) := ⟨rfl, rfl, rfl, by decide +kernel, rfl, by decide +kernel, by decide +kernel⟩
theorem ok_looks5 (T : TxtP mg) (h__law_skip : Fn P w K mg base 1 "_law_skip" ["_law_text", "_law_at"] spSkip) (h__law_begins : Fn P w K mg base 1 "_law_begins" ["_law_sign"] spBeg5) (h__law_read_call : Fn P w K mg base 2 "_law_read_call" ["_law_text", "_law_at"] spLCall)
    (D1 : DefAt K mg "_law_read_look" ["_law_text", "_law_at"] s__law_read_look) (D2 : DefAt K mg "_law_read_row" ["_law_text", "_law_at"] s__law_read_row) (D3 : DefAt K mg "_law_read_choice" ["_law_text", "_law_at"] s__law_read_choice) (D4 : DefAt K mg "_law_read_one" ["_law_text", "_law_at"] s__law_read_one) : ∀ n, Fn P w K mg base (2 + 4 * n) "_law_read_look" ["_law_text", "_law_at"] (spLLook n)
  | 0 => Fn.vac D1 fun ds M Q E ⟨t, p, _, h, _⟩ => Nat.not_lt_zero _ h
  | n + 1 => by
    have h_look := ok_looks5 T h__law_skip h__law_begins h__law_read_call D1 D2 D3 D4 n
    have h_choice : Fn P w K mg base (4 + 4 * n) "_law_read_choice" ["_law_text", "_law_at"] (spLChoice n) := by
      cases n with
      | zero => exact Fn.vac D3 fun ds M Q E ⟨t, p, _, h, _⟩ => Nat.not_lt_zero _ h
      | succ n =>
        have h_row := ok_row5 T (by omega) (Nat.succ_pos _) h__law_skip h__law_begins h_look D2
        exact (ok_choice5 T (by omega) (Nat.succ_pos _) h__law_skip h_row D3).mono (by omega)
    have h_one := ok_one5 T (by omega) h__law_skip h__law_read_call h_choice D4
    have z := ok_look5 (k := 5 + 4 * n) T (by omega) h__law_skip (h_one.mono (by omega)) (h_look.mono (by omega)) D1
    rw [show 2 + 4 * (n + 1) = 5 + 4 * n + 1 from by omega]
    exact z
theorem ok_due5 (T : TxtP mg) {W : WA} {n S k : Nat} (hn : 0 < n) (hk1 : 4 + 4 * n ≤ k) (hk2 : 3 + S ≤ k) (h__law_skip : Fn P w K mg base 1 "_law_skip" ["_law_text", "_law_at"] spSkip) (h__law_read_choice : Fn P w K mg base (4 + 4 * n) "_law_read_choice" ["_law_text", "_law_at"] (spLChoice n)) (h__law_made : Fn P w K mg base (3 + S) "_law_made" ["_law_way_here"] (spMade W S)) (Df : DefAt K mg "_law_due" ["_law_text"] s__law_due) : Fn P w K mg base (k + 1) "_law_due" ["_law_text"] (spDue5 W n S) := by
  refine okF Df sc_s__law_due (fun ds M Q E h => ?_) fun f cdv A outer s H E hr => ⟨_, (ss_cons (s_asg (d_callF h__law_read_choice (hr.mono (by first | decide | omega)) (a_cons (d_var 0) (a_cons d_int a_nil))) (g_tup (n := 2) rfl (gs_cons (g_name (i := 1) sc_s__law_due.nd) (gs_cons (g_name (i := 2) sc_s__law_due.nd) gs_nil))))
    (ss_cons (s_if (d_tcmp od_isN (d_var 1) d_non (nomark _))
    (ss_one (s_ret (d_var 2)))
    ss_nil)
    (ss_cons (s_set (i := 2) sc_s__law_due.nd (d_callF h__law_skip (hr.mono (by first | decide | omega)) (a_cons (d_var 0) (a_cons (d_var 2) a_nil))))
    (ss_one (s_ret (d_ifExp (d_tcmp (od_eq hr) (d_var 2) (d_callB cd_len rfl T.z_len PySem.boot_len (a_cons (d_var 0) a_nil)) (nomark _)) (d_callF h__law_made (hr.mono (by first | decide | omega)) (a_cons (d_var 1) a_nil)) (d_var 2))))))), fun ds M Q Ed h => ?_⟩
  · obtain ⟨t, rfl, _⟩ := h
    rfl
  · obtain ⟨t, rfl, hl, hc, hd, hS, hS2, q⟩ := h
    have e : startD N_s__law_due [.str (tx t)] = [.val (.str (tx t)), Sl.no, Sl.no] := rfl
    rw [e]
    have hz : (tx t).length ≤ sizeLine := by rw [tx_len, sizeLine_eq]; omega
    have hsz : ∀ w1 r, pWay t = .ok w1 r → w1.size + 1 ≤ 2 * nC t := fun w1 r h => pWay_size h
    have q0 : Q (resD W (match pChoice t (pLook t n) 0 with
      | .bad q => .bad q
      | .ok w q => if sk t q = t.length then .ok w (sk t q) else .bad (sk t q))) M := by
      rw [← pWay_fuel hd]
      exact q
    have hsz0 : ∀ w1 r, pChoice t (pLook t n) 0 = .ok w1 r → sk t r = t.length → w1.size + 1 ≤ 2 * nC t := fun w1 r h h2 => by
      refine hsz w1 (sk t r) ?_
      unfold pWay
      rw [pWay_fuel hd, h]
      dsimp only
      rw [if_pos h2]
    walk_at "dl"
    refine ⟨t, 0, ⟨rfl, Nat.zero_le _, hl, hc⟩, by rw [dc_deep]; exact hd, ?_⟩
    cases hch : pChoice t (pLook t n) 0 with
    | bad r =>
      rw [hch] at q0
      dsimp only [rE5] at q0 ⊢
      walk_at "a"
      exact q0
    | ok w1 r =>
      have hg := goes_choice (goes_look t n) _ w1 r (Nat.zero_le _) hch
      rw [hch] at q0
      dsimp only [rE5] at q0 ⊢
      obtain ⟨rr, hwd⟩ := w1.d_tup
      rw [hwd]
      walk_at "a"
      rw [← hwd]
      refine ⟨t, r, ⟨rfl, hg.2, hl, hc⟩, ?_⟩
      walk_at "dl"
      refine ⟨hz, ?_⟩
      walk_at "dl"
      refine ⟨okEq_nat _, okEq_nat _, ?_⟩
      walk_at "dl"
      rw [deq_int, show (tx t).length = t.length from rfl]
      by_cases he : sk t r = t.length
      · rw [if_pos he] at q0
        rw [decide_eq_true (by omega)]
        have := hsz0 w1 r hch he
        walk_at "dl"
        exact ⟨w1, rfl, by omega, by omega, q0⟩
      · rw [if_neg he] at q0
        rw [decide_eq_false (by omega)]
        walk_at "dl"
        exact q0


theorem sc_s__law_told : FnScope N_s__law_told ["_law_text"] (defScope s__law_told) := ⟨rfl, rfl, rfl, by decide +kernel, rfl, by decide +kernel, by decide +kernel⟩
theorem ok_told5 (T : TxtP mg) {W : WA} {CW BT AW : Addr} {n k : Nat} (hk : 2 ≤ k) (gW : mg "Way" = some (.ref CW)) (gWE : mg "WayError" = some (.ref AW)) (h_BadText : ExCl P w K mg base 2 "BadText" BT ["line", "place"]) (xf : XfOk K BT "line") (xf2 : XfOk K BT "place") (xi : XiC K BT) (em : PySem.W.exmOne K (.ref BT) (.ref BT) = some true) (ki : PySem.W.kitOne K (.ref BT) (.ref AW) = some true)
    (h_wayread : CMX P w K mg base k CW "read" ["cls", "text"] (spWayRead W CW BT n)) (Df : DefAt K mg "_law_told" ["_law_text"] s__law_told) : Fn P w K mg base (k + 1) "_law_told" ["_law_text"] (spTold5 W n) := by
  refine okF Df sc_s__law_told (fun ds M Q E h => ?_) fun f cdv A outer s H E hr => ⟨_, (ss_cons (s_tryAs (i := 2) takesD0 sc_s__law_told.nd ⟨rfl, by decide, .inl h_BadText.gm⟩ (fun Wd pn xe tk po => (ss_one (s_set (i := 1) sc_s__law_told.nd (d_cmx tk h_wayread (hr.mono (by first | decide | omega)) (d_globR rfl gW) (a_cons (d_var 0) a_nil)))))
    (fun a C d ns es oe pn xr hz hf => (ss_one (s_ret (d_ifExp (d_wt (w_and (d_tcmp (od_eqU hr.units) (d_xf xr hz hf (d_var 2)) d_int (nomark _)) (w_and1 (d_truth (d_callB (cd_isX xr hz hf) rfl T.z_isinstance (by decide +kernel) (a_cons (d_var 2) (a_cons (d_globR rfl gWE) a_nil))))))) (d_xf xr hz hf (d_var 2)) d_str)))))
    (ss_one (s_ret (d_var 1)))), fun ds M Q Ed h => ?_⟩
  · obtain ⟨t, rfl, _⟩ := h
    rfl
  · obtain ⟨t, rfl, hl, hc, hd, q⟩ := h
    have e : startD N_s__law_told [.str (tx t)] = [.val (.str (tx t)), Sl.no, Sl.no] := rfl
    rw [e]
    walk_at "dl"
    refine ⟨rfl, ?_⟩
    walk_at "dl"
    refine ⟨t, rfl, hl, hc, hd, ?_⟩
    cases hp : pWay t with
    | ok w1 r =>
      rw [hp] at q
      exact q
    | bad r =>
      rw [hp] at q
      dsimp only [wayEnd, resD] at q ⊢
      refine ⟨true, em, fun _ a => ?_, fun q => by cases q⟩
      walk_at "dl"
      refine ⟨xf, ?_⟩
      walk_at "dl"
      refine ⟨rfl, ?_⟩
      rw [fx_line]
      walk_at "a"
      rw [decide_eq_true (by rfl)]
      walk_at "dl"
      refine ⟨_, true, rfl, xi, .inl ⟨AW, rfl, ki⟩, ?_⟩
      walk_at "dl"
      refine ⟨xf2, ?_⟩
      walk_at "dl"
      refine ⟨rfl, ?_⟩
      rw [fx_place]
      walk_at "dl"
      exact q


theorem sc_s__law_bent : FnScope N_s__law_bent ["_law_pen_here", "_law_text"] (defScope s__law_bent) := ⟨rfl, rfl, rfl, by decide +kernel, rfl, by decide +kernel, by decide +kernel⟩
theorem ok_bent5 (T : TxtP mg) (h__law_draw : Fn P w K mg base 1 "_law_draw" ["_law_pen_here", "_law_many"] spDraw) (h__law_pick : Fn P w K mg base 2 "_law_pick" ["_law_pen_here", "_law_items"] spPick) (Df : DefAt K mg "_law_bent" ["_law_pen_here", "_law_text"] s__law_bent) : Fn P w K mg base 3 "_law_bent" ["_law_pen_here", "_law_text"] spBent5 := by
  refine okF Df sc_s__law_bent (fun ds M Q E h => ?_) fun f cdv A outer s H E hr => ⟨_, (ss_cons (s_par (i := 2) (j := 3) (ka := (.v _)) (kb := (.v _)) rfl sc_s__law_bent.nd (d_callF h__law_draw (hr.mono (by first | decide | omega)) (a_cons (d_var 0) (a_cons (d_op od_add (d_callB cd_len rfl T.z_len PySem.boot_len (a_cons (d_var 1) a_nil)) d_int) a_nil))) (d_callF h__law_draw (hr.mono (by first | decide | omega)) (a_cons (d_var 0) (a_cons d_int a_nil))))
    (ss_cons (s_set (i := 4) sc_s__law_bent.nd (d_lst (a_cons d_str (a_cons d_str (a_cons d_str (a_cons d_str (a_cons d_str (a_cons d_str (a_cons d_str (a_cons d_str (a_cons d_str (a_cons d_str (a_cons d_str (a_cons d_str (a_cons d_str (a_cons d_str (a_cons d_str (a_cons d_str (a_cons d_str (a_cons d_str a_nil))))))))))))))))))))
    (ss_cons (s_set (i := 4) sc_s__law_bent.nd (d_callF h__law_pick (hr.mono (by first | decide | omega)) (a_cons (d_var 0) (a_cons (d_var 4) a_nil))))
    (ss_cons (s_if (d_tcmp (od_eq hr) (d_var 3) d_int (nomark _))
    (ss_one (s_ret (d_op od_add (d_slice (d_var 1) o_none (o_some (d_var 2))) (d_slice (d_var 1) (o_some (d_op od_add (d_var 2) d_int)) o_none))))
    ss_nil)
    (ss_cons (s_if (d_tcmp (od_eq hr) (d_var 3) d_int (nomark _))
    (ss_one (s_ret (d_op od_add (d_op od_add (d_slice (d_var 1) o_none (o_some (d_var 2))) (d_var 4)) (d_slice (d_var 1) (o_some (d_var 2)) o_none))))
    ss_nil)
    (ss_cons (s_if (d_tcmp (od_eq hr) (d_var 3) d_int (nomark _))
    (ss_one (s_ret (d_op od_add (d_op od_add (d_slice (d_var 1) o_none (o_some (d_var 2))) (d_var 4)) (d_slice (d_var 1) (o_some (d_op od_add (d_var 2) d_int)) o_none))))
    ss_nil)
    (ss_one (s_ret (d_ifExp (d_tcmp (od_eq hr) (d_var 3) d_int (nomark _)) (d_op od_add (d_slice (d_var 1) o_none (o_some (d_var 2))) (d_slice (d_var 1) (o_some (d_callB (cd_max rfl) rfl T.z_max (by decide +kernel) (a_cons d_int (a_cons (d_op od_sub (d_var 2) d_int) a_nil)))) o_none)) (d_slice (d_var 1) o_none (o_some (d_var 2)))))))))))), fun ds M Q Ed h => ?_⟩
  · obtain ⟨p, t, n, o, rfl, _⟩ := h
    rfl
  · obtain ⟨p, t, n, o, rfl, hl, hc, h1, h2, h3, k⟩ := h
    have e : startD N_s__law_bent [.ref p, .str (tx t)] = [.val (.ref p), .val (.str (tx t)), Sl.no, Sl.no, Sl.no] := rfl
    rw [e]
    have hz : (tx t).length ≤ sizeLine := by rw [tx_len, sizeLine_eq]; omega
    walk_at "dl"
    refine ⟨hz, ?_⟩
    walk_at "dl"
    refine ⟨p, t.length + 1, n, o, (show [D.ref p, D.int (((tx t).length : Int) + 1)] = _ from rfl), by omega, by omega, by omega, h2, h3, fun x o1 c1 c2 c3 => ?_⟩
    obtain ⟨x, rfl⟩ := Int.eq_ofNat_of_zero_le c1
    walk_at "dl"
    refine ⟨p, 5, n + 1, o1, rfl, by decide, by decide, by omega, mset_same, c3, fun y o2 d1 d2 d3 => ?_⟩
    obtain ⟨y, rfl⟩ := Int.eq_ofNat_of_zero_le d1
    rw [mset_mset]
    walk_at "a"
    refine ⟨p, _, _, n + 1 + 1, o2, rfl, rfl, by decide, by decide, by omega, mset_same, d3, fun r o3 r1 r2 => ?_⟩
    obtain ⟨u, rfl, hu1, hu2, hu3⟩ : ∃ u : List Nat, r = .str (tx u) ∧ u.length ≤ 4 ∧ CpOk u ∧ nC u ≤ 3 := by
      simp only [List.mem_cons, List.not_mem_nil, or_false] at r1
      have key : ∀ s : Str, (s.cps.toList.length ≤ 4 ∧ (∀ c ∈ s.cps.toList, c < 1114112) ∧ nC s.cps.toList ≤ 3) → ∃ u : List Nat, D.str s = .str (tx u) ∧ u.length ≤ 4 ∧ CpOk u ∧ nC u ≤ 3 := fun s h => ⟨s.cps.toList, by rw [tx_eta], h.1, h.2.1, h.2.2⟩
      rcases r1 with rfl | rfl | rfl | rfl | rfl | rfl | rfl | rfl | rfl | rfl | rfl | rfl | rfl | rfl | rfl | rfl | rfl | rfl <;> exact key _ (by decide +kernel)
    rw [mset_mset]
    have ok0 : ∀ z : Int, okEq (.int z) := fun z => okEq_flat rfl
    have e5 : ((x : Int) + 1) = ((x + 1 : Nat) : Int) := by omega
    have htd : nC (t.take x) + nC (t.drop (x + 1)) ≤ nC t := nC_take_drop t (by omega)
    have htd0 := nC_take_drop t (Nat.le_refl x)
    have hdb := nC_dbl t x
    have hcl : ∀ c ∈ t.take x, c < 1114112 := fun c h => hc c (List.mem_of_mem_take h)
    have hcr : ∀ j, ∀ c ∈ t.drop j, c < 1114112 := fun j c h => hc c (List.mem_of_mem_drop h)
    have hle : ∀ j, (t.drop j).length ≤ t.length := fun j => by rw [List.length_drop]; omega
    have htk : (t.take x).length ≤ x := by rw [List.length_take]; omega
    have fin3 : PenO o3 (n + 3) := r2.mono (by omega)
    refine ⟨ok0 _, ok0 _, ?_⟩
    walk_at "dl"
    rw [deq_int]
    by_cases y0 : y = 0
    · rw [decide_eq_true (by omega)]
      walk_at "dl"
      refine ⟨hz, ?_⟩
      walk_at "dl"
      refine ⟨hz, ?_⟩
      walk_at "dl"
      rw [e5, cut_lo, cut_hi]
      refine ⟨by rw [tx_len, tx_len, sizeLine_eq]; have := hle (x + 1); omega, ?_⟩
      rw [tx_add]
      refine k _ o3 (by rw [List.length_append, List.length_take, List.length_drop]; omega) (fun c h => ?_) (by rw [nC_app]; omega) fin3
      rcases List.mem_append.mp h with h | h
      · exact hcl c h
      · exact hcr _ c h
    rw [decide_eq_false (by omega)]
    walk_at "dl"
    refine ⟨ok0 _, ok0 _, ?_⟩
    walk_at "dl"
    rw [deq_int]
    by_cases y1 : y = 1
    · rw [decide_eq_true (by omega)]
      walk_at "dl"
      refine ⟨hz, ?_⟩
      rw [cut_lo]
      walk_at "dl"
      refine ⟨by rw [tx_len, tx_len, sizeLine_eq]; omega, ?_⟩
      rw [tx_add]
      walk_at "dl"
      refine ⟨hz, ?_⟩
      rw [cut_hi]
      walk_at "dl"
      refine ⟨by rw [tx_len, tx_len, sizeLine_eq, List.length_append]; have := hle x; omega, ?_⟩
      rw [tx_add]
      refine k _ o3 (by rw [List.length_append, List.length_append, List.length_take, List.length_drop]; omega) (fun c h => ?_) (by rw [nC_app, nC_app]; omega) fin3
      rcases List.mem_append.mp h with h | h
      · rcases List.mem_append.mp h with h | h
        · exact hcl c h
        · exact hu2 c h
      · exact hcr _ c h
    rw [decide_eq_false (by omega)]
    walk_at "dl"
    refine ⟨ok0 _, ok0 _, ?_⟩
    walk_at "dl"
    rw [deq_int]
    by_cases y2 : y = 2
    · rw [decide_eq_true (by omega)]
      walk_at "dl"
      refine ⟨hz, ?_⟩
      rw [cut_lo]
      walk_at "dl"
      refine ⟨by rw [tx_len, tx_len, sizeLine_eq]; omega, ?_⟩
      rw [tx_add]
      walk_at "dl"
      refine ⟨hz, ?_⟩
      rw [e5, cut_hi]
      walk_at "dl"
      refine ⟨by rw [tx_len, tx_len, sizeLine_eq, List.length_append]; have := hle (x + 1); omega, ?_⟩
      rw [tx_add]
      refine k _ o3 (by rw [List.length_append, List.length_append, List.length_take, List.length_drop]; omega) (fun c h => ?_) (by rw [nC_app, nC_app]; omega) fin3
      rcases List.mem_append.mp h with h | h
      · rcases List.mem_append.mp h with h | h
        · exact hcl c h
        · exact hu2 c h
      · exact hcr _ c h
    rw [decide_eq_false (by omega)]
    walk_at "dl"
    refine ⟨ok0 _, ok0 _, ?_⟩
    walk_at "dl"
    rw [deq_int]
    by_cases y3 : y = 3
    · rw [decide_eq_true (by omega)]
      walk_at "dl"
      refine ⟨hz, ?_⟩
      rw [cut_lo]
      walk_at "dl"
      refine ⟨hz, ?_⟩
      rw [show (if (x : Int) - 1 > 0 then (x : Int) - 1 else 0) = ((x - 1 : Nat) : Int) from by split <;> omega, cut_hi]
      refine ⟨by rw [tx_len, tx_len, sizeLine_eq]; have := hle (x - 1); omega, ?_⟩
      rw [tx_add]
      refine k _ o3 (by rw [List.length_append, List.length_take, List.length_drop]; omega) (fun c h => ?_) (by rw [nC_app]; omega) fin3
      rcases List.mem_append.mp h with h | h
      · exact hcl c h
      · exact hcr _ c h
    · rw [decide_eq_false (by omega)]
      walk_at "dl"
      refine ⟨hz, ?_⟩
      rw [cut_lo]
      exact k _ o3 (by rw [List.length_take]; omega) hcl (by omega) fin3


theorem sc_s_law : FnScope N_s_law ["_law_script"] (defScope s_law) := ⟨rfl, rfl, rfl, by decide +kernel, rfl, by decide +kernel, by decide +kernel⟩
theorem ok_law (T : TxtP mg) {W : WA} {CW fq : Addr} (gW : mg "Way" = some (.ref CW)) (G : WEq K W CW fq) (hI : PySem.W.kitOne K (.type "int") (.ref CW) = some false) (h__law_draw : Fn P w K mg base 1 "_law_draw" ["_law_pen_here", "_law_many"] spDraw) (h__law_pen : Fn P w K mg base 1 "_law_pen" ["_law_script"] spPen) (h__law_signs : Fn P w K mg base 2 "_law_signs" ["_law_pen_here", "_law_many"] spSigns) (h__law_way : Fn P w K mg base 20 "_law_way" ["_law_pen_here", "_law_signs_here", "_law_most"] (spWay 10)) (h__law_made : Fn P w K mg base 19 "_law_made" ["_law_way_here"] (spMade W 16))
    (h__law_told : Fn P w K mg base 166 "_law_told" ["_law_text"] (spTold5 W 26)) (h__law_due : Fn P w K mg base 109 "_law_due" ["_law_text"] (spDue5 W 26 50)) (h__law_bent : Fn P w K mg base 3 "_law_bent" ["_law_pen_here", "_law_text"] spBent5) (h_eq : EqM P w K mg base W 50 151) (h_str : OwnM P w K mg base W "__str__" 34 (spStrW W (fun v => tx (wtx v)) (fun v => v.size ≤ 16 ∧ (wtx v).length ≤ 1000000))) {f0 : Addr} {fd : FuncData} (Df : FunD K "law" "law" (defArgs s_law) (defBody s_law) (defScope s_law) [] [] f0 fd) : FnOk P w K mg base CX0 220 f0 fd ["_law_script"] (LSp K spTrue) := by
  refine okD Df sc_s_law (fun ds M Q E h => ?_) fun cdv A outer s H E hr => ⟨_, (ss_cons (s_set (i := 1) sc_s_law.nd (d_callF h__law_pen (hr.mono (by first | decide | omega)) (a_cons (d_var 0) a_nil)))
    (ss_cons (s_for PassesOwn.never rfl (i_rng1 rfl T.z_range (a_cons (d_op od_add d_int (d_callB (cd_min rfl) rfl T.z_min (by decide +kernel) (a_cons d_int (a_cons (d_callB cd_len rfl T.z_len PySem.boot_len (a_cons (d_var 0) a_nil)) a_nil)))) a_nil)) (g_name (i := 2) sc_s_law.nd)
    (ss_cons (s_set (i := 3) sc_s_law.nd (d_callF h__law_signs (hr.mono (by first | decide | omega)) (a_cons (d_var 1) (a_cons (d_op od_add d_int (d_callF h__law_draw (hr.mono (by first | decide | omega)) (a_cons (d_var 1) (a_cons d_int a_nil)))) a_nil))))
    (ss_cons (s_set (i := 9) sc_s_law.nd (d_callTy (cd_strW h_str (hr.mono (by omega))) rfl T.z_str (by decide +kernel) (a_cons (d_callF h__law_made (hr.mono (by first | decide | omega)) (a_cons (d_callF h__law_way (hr.mono (by first | decide | omega)) (a_cons (d_var 1) (a_cons (d_var 3) (a_cons d_int a_nil)))) a_nil)) a_nil)))
    (ss_cons (s_if (d_not (d_tcmp (od_eq5 h_eq (hr.mono (by first | decide | omega))) (d_callF h__law_told (hr.mono (by first | decide | omega)) (a_cons (d_var 9) a_nil)) (d_callF h__law_due (hr.mono (by first | decide | omega)) (a_cons (d_var 9) a_nil)) (nomark _)))
    (ss_one (s_ret d_bl))
    ss_nil)
    (ss_one (s_for PassesOwn.never rfl (i_rng1 rfl T.z_range (a_cons d_int a_nil)) (g_name (i := 4) sc_s_law.nd)
    (ss_cons (s_set (i := 5) sc_s_law.nd (d_var 9))
    (ss_cons (s_for PassesOwn.never rfl (i_rng1 rfl T.z_range (a_cons (d_op od_add d_int (d_callF h__law_draw (hr.mono (by first | decide | omega)) (a_cons (d_var 1) (a_cons d_int a_nil)))) a_nil)) (g_name (i := 6) sc_s_law.nd)
    (ss_one (s_set (i := 5) sc_s_law.nd (d_callF h__law_bent (hr.mono (by first | decide | omega)) (a_cons (d_var 1) (a_cons (d_var 5) a_nil))))))
    (ss_cons (s_par (i := 7) (j := 8) (ka := (.v _)) (kb := (.v _)) rfl sc_s_law.nd (d_callF h__law_told (hr.mono (by first | decide | omega)) (a_cons (d_var 5) a_nil)) (d_callF h__law_due (hr.mono (by first | decide | omega)) (a_cons (d_var 5) a_nil)))
    (ss_one (s_if (d_wt (w_or (d_tcmp (od_ne hr) (d_callB cd_isi rfl T.z_isinstance (by decide +kernel) (a_cons (d_var 7) (a_cons (d_globR rfl gW) a_nil))) (d_callB cd_isi rfl T.z_isinstance (by decide +kernel) (a_cons (d_var 8) (a_cons (d_globR rfl gW) a_nil))) (nomark _)) (w_or1 (d_not (d_tcmp (od_eq5 h_eq (hr.mono (by first | decide | omega))) (d_var 7) (d_var 8) (nomark _))))))
    (ss_one (s_ret d_bl))
    ss_nil)))))))))))
    (ss_cons (s_for PassesOwn.never rfl (i_any (d_lst (a_cons d_str (a_cons d_str (a_cons d_str (a_cons d_str (a_cons d_str (a_cons d_str (a_cons d_str (a_cons d_str (a_cons d_str (a_cons d_str a_nil)))))))))))) (g_name (i := 9) sc_s_law.nd)
    (ss_one (s_if (d_not (d_tcmp (od_eq5 h_eq (hr.mono (by first | decide | omega))) (d_callF h__law_told (hr.mono (by first | decide | omega)) (a_cons (d_var 9) a_nil)) (d_callF h__law_due (hr.mono (by first | decide | omega)) (a_cons (d_var 9) a_nil)) (nomark _)))
    (ss_one (s_ret d_bl))
    ss_nil)))
    (ss_one (s_ret d_bl))))), fun ds M Q Ed h => ?_⟩
  · obtain ⟨ns, rfl, _⟩ := h
    rfl
  · obtain ⟨ns, rfl, h1, k⟩ := h
    have e : startD N_s_law [.lstK (ns.map D.int)] = [.val (.lstK (ns.map D.int)), Sl.no, Sl.no, Sl.no, Sl.no, Sl.no, Sl.no, Sl.no, Sl.no, Sl.no] := rfl
    rw [e]
    walk_at "dl"
    refine ⟨ns, rfl, h1, fun p o hMp hpo => ?_⟩
    walk_at "dl"
    obtain ⟨L, hL, hL0, hL6⟩ : ∃ L : Int, (5 + if ((ns.map D.int).length : Int) < 6 then ((ns.map D.int).length : Int) else 6) = L ∧ 0 ≤ L ∧ L ≤ 11 := ⟨_, rfl, by split <;> omega, by split <;> omega⟩
    rw [hL]
    refine ⟨⟨by omega, by omega⟩, ?_⟩
    have due : ∀ {t : List Nat} {S : Nat}, (pWay t = pWay t) → nC t ≤ 25 → ∀ w q, pWay t = .ok w q → w.size ≤ 50 := fun {t S} _ h w q e => by have := pWay_size e; omega
    refine forW_rng (fun i env M' => ∃ (o' : MO) (v2 v3 v4 v5 v6 v7 v8 v9 : Sl), env = [.val (.lstK (ns.map D.int)), .val (.ref p), v2, v3, v4, v5, v6, v7, v8, v9] ∧ M' = mset M p o' ∧ PenO o' (i * 1000)) _ 0 ?_ ?_ _ _ ⟨o, .no, .no, .no, .no, .no, .no, .no, .no, rfl, rfl, by rw [Int.zero_mul]; exact hpo⟩
    · rintro env M' ⟨o', v2, v3, v4, v5, v6, v7, v8, v9, rfl, rfl, g⟩
      walk_at "dl"
      refine ⟨by rw [sizeLine_eq]; decide, ?_⟩
      refine forW_ind (fun r env M' => (∀ d ∈ r, ∃ t : List Nat, d = .str (tx t) ∧ t.length ≤ 20 ∧ CpOk t ∧ nC t ≤ 15) ∧ ∃ v9 : Sl, env = [.val (.lstK (ns.map D.int)), .val (.ref p), v2, v3, v4, v5, v6, v7, v8, v9] ∧ M' = mset M p o') ?_ ?_ _ _ _ ⟨?_, v9, rfl, rfl⟩
      · rintro env M' ⟨_, v9, rfl, rfl⟩
        walk_at "dl"
        exact k _
      · rintro d r go env M' ⟨hd, v9, rfl, rfl⟩
        obtain ⟨t, rfl, t1, t2, t3⟩ := hd d List.mem_cons_self
        walk_at "dl"
        have := deep_nC t
        refine ⟨t, rfl, by omega, t2, by omega, ?_⟩
        walk_at "dl"
        refine ⟨t, rfl, by omega, t2, by omega, by omega, by omega, ?_⟩
        refine rd5_self (due (S := 0) rfl (by omega)) ?_
        walk_at "dl"
        exact go _ _ ⟨fun d hd' => hd d (List.mem_cons_of_mem _ hd'), _, rfl, rfl⟩
      · intro d hd
        simp only [List.mem_cons, List.not_mem_nil, or_false] at hd
        have key : ∀ s : Str, (s.cps.toList.length ≤ 20 ∧ (∀ c ∈ s.cps.toList, c < 1114112) ∧ nC s.cps.toList ≤ 15) → ∃ u : List Nat, D.str s = .str (tx u) ∧ u.length ≤ 20 ∧ CpOk u ∧ nC u ≤ 15 := fun s h => ⟨s.cps.toList, by rw [tx_eta], h.1, h.2.1, h.2.2⟩
        rcases hd with rfl | rfl | rfl | rfl | rfl | rfl | rfl | rfl | rfl | rfl <;> exact key _ (by decide +kernel)
    · rintro i R i1 i2 hR env M' ⟨o1, v2, v3, v4, v5, v6, v7, v8, v9, rfl, rfl, g⟩
      walk_at "dl"
      refine ⟨p, 3, i * 1000, o1, rfl, by omega, by omega, by omega, mset_same, g, fun x o2 c1 c2 c3 => ?_⟩
      obtain ⟨x, rfl⟩ := Int.eq_ofNat_of_zero_le c1
      walk_at "dl"
      rw [mset_mset]
      refine ⟨p, 1 + x, i * 1000 + 1, o2, (show [D.ref p, D.int (1 + (x : Int))] = _ from by rw [show 1 + (x : Int) = ((1 + x : Nat) : Int) from by omega]), by omega, by omega, mset_same, c3, fun l o3 d1 d2 d3 => ?_⟩
      walk_at "dl"
      rw [mset_mset]
      have hll : ∀ c ∈ l, c ∈ lettersN := d2.2
      refine ⟨p, l, 10, _, o3, rfl, by decide, by decide, by decide, hll, by omega, by omega, ?_, mset_same, d3, fun w0 o4 f1 f2 f3 => ?_⟩
      · omega
      walk_at "dl"
      rw [mset_mset]
      obtain ⟨tl, tc, tn⟩ := drawn_text hll f2 f1
      refine ⟨w0, rfl, by omega, by omega, ?_⟩
      walk_at "dl"
      refine ⟨w0, rfl, ⟨by omega, by omega⟩, ?_⟩
      walk_at "dl"
      have := deep_nC (wtx w0)
      refine ⟨wtx w0, rfl, by omega, tc, by omega, ?_⟩
      walk_at "dl"
      refine ⟨wtx w0, rfl, by omega, tc, by omega, by omega, by omega, ?_⟩
      refine rd5_self (due (S := 0) rfl (by omega)) ?_
      walk_at "dl"
      refine ⟨⟨by decide, by decide⟩, ?_⟩
      refine forW_rng (fun j env M' => ∃ (o' : MO) (v4 v5 v6 v7 v8 : Sl), env = [.val (.lstK (ns.map D.int)), .val (.ref p), .val (.int i), .val (.str (tx l)), v4, v5, v6, v7, v8, .val (.str (tx (wtx w0)))] ∧ M' = mset M p o' ∧ PenO o' (i * 1000 + 100 + j * 10)) _ 0 ?_ ?_ _ _ ⟨o4, v4, v5, v6, v7, v8, rfl, rfl, f3.mono (by omega)⟩
      · rintro env M' ⟨o', v4, v5, v6, v7, v8, rfl, rfl, g⟩
        refine hR _ _ ⟨o', _, _, _, _, _, _, _, _, rfl, rfl, g.mono ?_⟩
        show _ ≤ _
        have : (((8 : Int).toNat : Nat) : Int) = 8 := rfl
        omega
      · rintro j R2 j1 j2 hR2 env M' ⟨o', v4, v5, v6, v7, v8, rfl, rfl, g⟩
        have j3 : j < 8 := j2
        walk_at "dl"
        refine ⟨p, 2, _, o', rfl, by decide, by decide, by omega, mset_same, g, fun x o2 c1 c2 c3 => ?_⟩
        obtain ⟨y, rfl⟩ := Int.eq_ofNat_of_zero_le c1
        walk_at "dl"
        rw [mset_mset]
        refine ⟨⟨by omega, by omega⟩, ?_⟩
        refine forW_rng (fun c env M' => ∃ (o' : MO) (u : List Nat) (v6 : Sl), env = [.val (.lstK (ns.map D.int)), .val (.ref p), .val (.int i), .val (.str (tx l)), .val (.int j), .val (.str (tx u)), v6, v7, v8, .val (.str (tx (wtx w0)))] ∧ M' = mset M p o' ∧ ((u.length : Int) ≤ (wtx w0).length + 4 * c) ∧ CpOk u ∧ ((nC u : Int) ≤ nC (wtx w0) + 3 * c) ∧ PenO o' (i * 1000 + 100 + j * 10 + 1 + 3 * c)) _ 0 ?_ ?_ _ _ ⟨o2, wtx w0, v6, rfl, rfl, by omega, tc, by omega, c3.mono (by omega)⟩
        · rintro env M' ⟨o', u, v6, rfl, rfl, u1, u2, u3, g⟩
          have hy : ((((1 : Int) + y).toNat : Nat) : Int) ≤ 2 := by omega
          have hul : u.length < 100000 := by omega
          have hun : nC u ≤ 25 := by omega
          have := deep_nC u
          walk_at "dl"
          refine ⟨u, rfl, hul, u2, by omega, ?_⟩
          walk_at "dl"
          refine ⟨u, rfl, hul, u2, by omega, by omega, by omega, ?_⟩
          walk_at "dl"
          refine ⟨_, isI_res G hI _, ?_⟩
          walk_at "dl"
          refine ⟨_, isI_res G hI _, ?_⟩
          refine ⟨okEq_flat rfl, okEq_flat rfl, ?_⟩
          have eb : ∀ b : Bool, nb (deq (.bl b) (.bl b)) = false := by decide +kernel
          rw [eb]
          walk_at "dl"
          refine rd5_self (due (S := 0) rfl hun) ?_
          walk_at "dl"
          exact hR2 _ _ ⟨o', _, _, _, _, _, rfl, rfl, g.mono (by omega)⟩
        · rintro c R3 k1 k2 hR3 env M' ⟨o', u, v6, rfl, rfl, u1, u2, u3, g⟩
          walk_at "dl"
          refine ⟨p, u, _, o', rfl, by omega, u2, by omega, mset_same, g, fun t o3 t1 t2 t3 t4 => ?_⟩
          rw [mset_mset]
          walk_at "dl"
          refine hR3 _ _ ⟨o3, t, _, rfl, rfl, by omega, t2, by omega, t4.mono (by omega)⟩


end
set_option maxHeartbeats 0
theorem run (w : World) : HandSHeadRun.RunEq R (PySem.W.view R.prog [47]) hk ob 20000 loose w := PySem.W.byRow2 "special-get-raises" (P := fun w => HandSHeadRun.RunEq R (PySem.W.view R.prog [47]) hk ob 20000 loose w) run0 run1 w
theorem facts {w : World} {K : PySem.W.Frag} {h : Heap} {mg : Str → Option Value} {f : Addr} (X : K.In h) (G : h.Ns mainGlobals mg) (hfa : mg ("law" : Str) = some (.ref f)) (c1 : SaysP fa fa2 fn sn ex cs ts w K) :
    ∃ fd : FuncData, (∀ (s : Shared) (v : Value), BindsTo s fd ⟨[v], []⟩ [("_law_script", v)]) ∧ ∀ base : Heap, K.In base → base.Ns mainGlobals mg → FnOk PySem.Challenge.pw_waystaken_k05_wrong_texts_of_ways w K mg base CX0 220 f fd ["_law_script"] (LSp K spTrue) := by
  have c0 := c1.z
  have c := c1.y
  have cd := c.d
  obtain ⟨cm1, cm2⟩ := He.ba (show ((snw.all fun d => supB PySem.Challenge.pw_waystaken_k05_wrong_texts_of_ways.main.file K d && baseB K (He.ga K d.at_.1) (way0 K)) && (exB PySem.Challenge.pw_waystaken_k05_wrong_texts_of_ways.main.file K d_BadText___init__ ["line", "place"] && (exmB K "BadText" "BadText" && (kitB K "BadText" "WayError" && (eqWB K && (decide (PySem.W.kitOne K (.type "int") (.ref (He.ga K "Way")) = some false) && (He.valsB K (He.ga K "MARKS") marksV && (He.valsB K (He.ga K "WORDS") wordsV && (cmB K "Way" "read" d_cm_Way_read && (metB K "__str__" && (true))))))))))) = true from c.more)
  obtain ⟨c_x_BadText, cm2⟩ := He.ba cm2
  obtain ⟨c_e_BadText, cm2⟩ := He.ba cm2
  obtain ⟨c_k_BadText, cm2⟩ := He.ba cm2
  obtain ⟨c_eqW, cm2⟩ := He.ba cm2
  obtain ⟨c_int_Way, cm2⟩ := He.ba cm2
  obtain ⟨c_marks, cm2⟩ := He.ba cm2
  obtain ⟨c_words, cm2⟩ := He.ba cm2
  obtain ⟨c_cm_Way_read, cm2⟩ := He.ba cm2
  obtain ⟨c_m_str, cm2⟩ := He.ba cm2
  have T : TxtP mg := ⟨He.free_ok X G (cd.fact 36 (f := .free "len") rfl), He.free_ok X G (cd.fact 37 (f := .free "int") rfl), He.free_ok X G (cd.fact 38 (f := .free "list") rfl), He.free_ok X G (cd.fact 39 (f := .free "range") rfl), He.free_ok X G (cd.fact 40 (f := .free "min") rfl), He.free_ok X G (cd.fact 41 (f := .free "max") rfl), He.free_ok X G (cd.fact 42 (f := .free "sum") rfl), He.free_ok X G (cd.fact 43 (f := .free "isinstance") rfl), He.free_ok X G (cd.fact 44 (f := .free "tuple") rfl), He.free_ok X G (cd.fact 45 (f := .free "set") rfl), He.free_ok X G (cd.fact 46 (f := .free "sorted") rfl), He.free_ok X G (cd.fact 47 (f := .free "str") rfl), He.free_ok X G (cd.fact 48 (f := .free "enumerate") rfl), He.free_ok X G (cd.fact 49 (f := .free "reversed") rfl), He.free_ok X G (cd.fact 50 (f := .free "all") rfl), He.free_ok X G (cd.fact 51 (f := .free "any") rfl), He.free_ok X G (cd.fact 52 (f := .free "divmod") rfl), He.free_ok X G (cd.fact 53 (f := .free "dict") rfl), He.free_ok X G (cd.fact 54 (f := .free "super") rfl), He.free_ok X G (cd.fact 55 (f := .free "iter") rfl), He.free_ok X G (cd.fact 56 (f := .free "zip") rfl), He.free_ok X G (cd.fact 57 (f := .free "bool") rfl), He.free_ok X G (cd.fact 58 (f := .free "abs") rfl), He.free_ok X G (cd.fact 59 (f := .free "type") rfl)⟩
  have D_cm_Way_read : CMAt K (He.ga K "Way") "read" "Way.read" ["cls", "text"] s_Way_read := cmAt_of (d := d_cm_Way_read) c_cm_Way_read (c1.cm 0 (d := d_cm_Way_read) rfl) rfl rfl rfl rfl rfl rfl fun _ _ _ _ _ _ us hl => match us, hl with | [_, _], _ => rfl
  obtain ⟨fd0, F0⟩ := cd.def_ 0 (d := d__law_draw) rfl
  have D__law_draw : DefAt K mg "_law_draw" ["_law_pen_here", "_law_many"] s__law_draw := ⟨⟨_, fd0, F0, He.glo_ok X G (cd.fact 0 (f := .glo "_law_draw") rfl), F0.kp, F0.bindsN fun _ _ _ _ _ _ us hl => match us, hl with | [_, _], _ => rfl⟩⟩
  obtain ⟨fd1, F1⟩ := cd.def_ 1 (d := d__law_pen) rfl
  have D__law_pen : DefAt K mg "_law_pen" ["_law_script"] s__law_pen := ⟨⟨_, fd1, F1, He.glo_ok X G (cd.fact 1 (f := .glo "_law_pen") rfl), F1.kp, F1.bindsN fun _ _ _ _ _ _ us hl => match us, hl with | [_], _ => rfl⟩⟩
  obtain ⟨fd2, F2⟩ := cd.def_ 2 (d := d__law_pick) rfl
  have D__law_pick : DefAt K mg "_law_pick" ["_law_pen_here", "_law_items"] s__law_pick := ⟨⟨_, fd2, F2, He.glo_ok X G (cd.fact 2 (f := .glo "_law_pick") rfl), F2.kp, F2.bindsN fun _ _ _ _ _ _ us hl => match us, hl with | [_, _], _ => rfl⟩⟩
  obtain ⟨fd3, F3⟩ := cd.def_ 3 (d := d__law_signs) rfl
  have D__law_signs : DefAt K mg "_law_signs" ["_law_pen_here", "_law_many"] s__law_signs := ⟨⟨_, fd3, F3, He.glo_ok X G (cd.fact 3 (f := .glo "_law_signs") rfl), F3.kp, F3.bindsN fun _ _ _ _ _ _ us hl => match us, hl with | [_, _], _ => rfl⟩⟩
  obtain ⟨fd4, F4⟩ := cd.def_ 4 (d := d__law_leaf) rfl
  have D__law_leaf : DefAt K mg "_law_leaf" ["_law_pen_here", "_law_signs_here"] s__law_leaf := ⟨⟨_, fd4, F4, He.glo_ok X G (cd.fact 4 (f := .glo "_law_leaf") rfl), F4.kp, F4.bindsN fun _ _ _ _ _ _ us hl => match us, hl with | [_, _], _ => rfl⟩⟩
  obtain ⟨fd5, F5⟩ := cd.def_ 5 (d := d__law_way_of) rfl
  have D__law_way_of : DefAt K mg "_law_way_of" ["_law_pen_here", "_law_signs_here", "_law_size"] s__law_way_of := ⟨⟨_, fd5, F5, He.glo_ok X G (cd.fact 5 (f := .glo "_law_way_of") rfl), F5.kp, F5.bindsN fun _ _ _ _ _ _ us hl => match us, hl with | [_, _, _], _ => rfl⟩⟩
  obtain ⟨fd6, F6⟩ := cd.def_ 6 (d := d__law_way) rfl
  have D__law_way : DefAt K mg "_law_way" ["_law_pen_here", "_law_signs_here", "_law_most"] s__law_way := ⟨⟨_, fd6, F6, He.glo_ok X G (cd.fact 6 (f := .glo "_law_way") rfl), F6.kp, F6.bindsN fun _ _ _ _ _ _ us hl => match us, hl with | [_, _, _], _ => rfl⟩⟩
  obtain ⟨fd7, F7⟩ := cd.def_ 7 (d := d__law_inner) rfl
  have D__law_inner : DefAt K mg "_law_inner" ["_law_way_here"] s__law_inner := ⟨⟨_, fd7, F7, He.glo_ok X G (cd.fact 7 (f := .glo "_law_inner") rfl), F7.kp, F7.bindsN fun _ _ _ _ _ _ us hl => match us, hl with | [_], _ => rfl⟩⟩
  obtain ⟨fd8, F8⟩ := cd.def_ 8 (d := d_Way___init__) rfl
  have D_Way___init__ : MethAt K "__init__" "Way.__init__" ["self", "word", "sign", "inner"] s_Way___init__ (He.fAd K d_Way___init__.at_) := ⟨⟨fd8, F8, F8.bindsN fun _ _ _ _ _ _ us hl => match us, hl with | [_, _, _, _], _ => rfl⟩⟩
  obtain ⟨fd9, F9⟩ := cd.def_ 9 (d := d__law_made) rfl
  have D__law_made : DefAt K mg "_law_made" ["_law_way_here"] s__law_made := ⟨⟨_, fd9, F9, He.glo_ok X G (cd.fact 8 (f := .glo "_law_made") rfl), F9.kp, F9.bindsN fun _ _ _ _ _ _ us hl => match us, hl with | [_], _ => rfl⟩⟩
  obtain ⟨fd10, F10⟩ := cd.def_ 10 (d := d_Way___eq__) rfl
  have D_Way___eq__ : MethAt K "__eq__" "Way.__eq__" ["self", "other"] s_Way___eq__ (He.fAd K d_Way___eq__.at_) := ⟨⟨fd10, F10, F10.bindsN fun _ _ _ _ _ _ us hl => match us, hl with | [_, _], _ => rfl⟩⟩
  obtain ⟨fd11, F11⟩ := cd.def_ 11 (d := d_is_put_in_brackets) rfl
  have D_is_put_in_brackets : DefAt K mg "is_put_in_brackets" ["way", "around"] s_is_put_in_brackets := ⟨⟨_, fd11, F11, He.glo_ok X G (cd.fact 9 (f := .glo "is_put_in_brackets") rfl), F11.kp, F11.bindsN fun _ _ _ _ _ _ us hl => match us, hl with | [_, _], _ => rfl⟩⟩
  obtain ⟨fd12, F12⟩ := cd.def_ 12 (d := d_inner_text) rfl
  have D_inner_text : DefAt K mg "inner_text" ["way", "around"] s_inner_text := ⟨⟨_, fd12, F12, He.glo_ok X G (cd.fact 10 (f := .glo "inner_text") rfl), F12.kp, F12.bindsN fun _ _ _ _ _ _ us hl => match us, hl with | [_, _], _ => rfl⟩⟩
  obtain ⟨fd13, F13⟩ := cd.def_ 13 (d := d_way_text) rfl
  have D_way_text : DefAt K mg "way_text" ["way"] s_way_text := ⟨⟨_, fd13, F13, He.glo_ok X G (cd.fact 11 (f := .glo "way_text") rfl), F13.kp, F13.bindsN fun _ _ _ _ _ _ us hl => match us, hl with | [_], _ => rfl⟩⟩
  obtain ⟨fd14, F14⟩ := cd.def_ 14 (d := d_Way___str__) rfl
  have D_Way___str__ : MethAt K "__str__" "Way.__str__" ["self"] s_Way___str__ (He.fAd K d_Way___str__.at_) := ⟨⟨fd14, F14, F14.bindsN fun _ _ _ _ _ _ us hl => match us, hl with | [_], _ => rfl⟩⟩
  obtain ⟨fd15, F15⟩ := cd.def_ 15 (d := d_way_of) rfl
  have D_way_of : DefAt K mg "way_of" ["word", "sign", "inner"] s_way_of := ⟨⟨_, fd15, F15, He.glo_ok X G (cd.fact 12 (f := .glo "way_of") rfl), F15.kp, F15.bindsN fun _ _ _ _ _ _ us hl => match us, hl with | [_, _, _], _ => rfl⟩⟩
  obtain ⟨fd16, F16⟩ := cd.def_ 16 (d := d_Reader___init__) rfl
  have D_Reader___init__ : MethAt K "__init__" "Reader.__init__" ["self", "text", "line", "make"] s_Reader___init__ (He.fAd K d_Reader___init__.at_) := ⟨⟨fd16, F16, F16.bindsN fun _ _ _ _ _ _ us hl => match us, hl with | [_, _, _, _], _ => rfl⟩⟩
  obtain ⟨fd17, F17⟩ := cd.def_ 17 (d := d_Reader_next_sign) rfl
  have D_Reader_next_sign : MethAt K "next_sign" "Reader.next_sign" ["self"] s_Reader_next_sign (He.fAd K d_Reader_next_sign.at_) := ⟨⟨fd17, F17, F17.bindsN fun _ _ _ _ _ _ us hl => match us, hl with | [_], _ => rfl⟩⟩
  obtain ⟨fd18, F18⟩ := cd.def_ 18 (d := d_Reader_refuse) rfl
  have D_Reader_refuse : MethAt K "refuse" "Reader.refuse" ["self"] s_Reader_refuse (He.fAd K d_Reader_refuse.at_) := ⟨⟨fd18, F18, F18.bindsN fun _ _ _ _ _ _ us hl => match us, hl with | [_], _ => rfl⟩⟩
  obtain ⟨fd19, F19⟩ := cd.def_ 19 (d := d_Reader_step_over) rfl
  have D_Reader_step_over : MethAt K "step_over" "Reader.step_over" ["self", "sign"] s_Reader_step_over (He.fAd K d_Reader_step_over.at_) := ⟨⟨fd19, F19, F19.bindsN fun _ _ _ _ _ _ us hl => match us, hl with | [_, _], _ => rfl⟩⟩
  obtain ⟨fd20, F20⟩ := cd.def_ 20 (d := d_Reader_read_name) rfl
  have D_Reader_read_name : MethAt K "read_name" "Reader.read_name" ["self"] s_Reader_read_name (He.fAd K d_Reader_read_name.at_) := ⟨⟨fd20, F20, F20.bindsN fun _ _ _ _ _ _ us hl => match us, hl with | [_], _ => rfl⟩⟩
  obtain ⟨fd21, F21⟩ := cd.def_ 21 (d := d_Reader_is_letter) rfl
  have D_Reader_is_letter : MethAt K "is_letter" "Reader.is_letter" ["self"] s_Reader_is_letter (He.fAd K d_Reader_is_letter.at_) := ⟨⟨fd21, F21, F21.bindsN fun _ _ _ _ _ _ us hl => match us, hl with | [_], _ => rfl⟩⟩
  obtain ⟨fd22, F22⟩ := cd.def_ 22 (d := d_Reader_begins) rfl
  have D_Reader_begins : MethAt K "begins" "Reader.begins" ["self"] s_Reader_begins (He.fAd K d_Reader_begins.at_) := ⟨⟨fd22, F22, F22.bindsN fun _ _ _ _ _ _ us hl => match us, hl with | [_], _ => rfl⟩⟩
  obtain ⟨fd23, F23⟩ := cd.def_ 23 (d := d_Reader_read_row) rfl
  have D_Reader_read_row : MethAt K "read_row" "Reader.read_row" ["self"] s_Reader_read_row (He.fAd K d_Reader_read_row.at_) := ⟨⟨fd23, F23, F23.bindsN fun _ _ _ _ _ _ us hl => match us, hl with | [_], _ => rfl⟩⟩
  obtain ⟨fd24, F24⟩ := cd.def_ 24 (d := d_Reader_read_choice) rfl
  have D_Reader_read_choice : MethAt K "read_choice" "Reader.read_choice" ["self"] s_Reader_read_choice (He.fAd K d_Reader_read_choice.at_) := ⟨⟨fd24, F24, F24.bindsN fun _ _ _ _ _ _ us hl => match us, hl with | [_], _ => rfl⟩⟩
  obtain ⟨fd25, F25⟩ := cd.def_ 25 (d := d_Reader_read_look) rfl
  have D_Reader_read_look : MethAt K "read_look" "Reader.read_look" ["self"] s_Reader_read_look (He.fAd K d_Reader_read_look.at_) := ⟨⟨fd25, F25, F25.bindsN fun _ _ _ _ _ _ us hl => match us, hl with | [_], _ => rfl⟩⟩
  obtain ⟨fd26, F26⟩ := cd.def_ 26 (d := d_Reader_read_repeat) rfl
  have D_Reader_read_repeat : MethAt K "read_repeat" "Reader.read_repeat" ["self"] s_Reader_read_repeat (He.fAd K d_Reader_read_repeat.at_) := ⟨⟨fd26, F26, F26.bindsN fun _ _ _ _ _ _ us hl => match us, hl with | [_], _ => rfl⟩⟩
  obtain ⟨fd27, F27⟩ := cd.def_ 27 (d := d_Reader_read_one) rfl
  have D_Reader_read_one : MethAt K "read_one" "Reader.read_one" ["self"] s_Reader_read_one (He.fAd K d_Reader_read_one.at_) := ⟨⟨fd27, F27, F27.bindsN fun _ _ _ _ _ _ us hl => match us, hl with | [_], _ => rfl⟩⟩
  obtain ⟨fd28, F28⟩ := cd.def_ 28 (d := d_Reader_read_brackets) rfl
  have D_Reader_read_brackets : MethAt K "read_brackets" "Reader.read_brackets" ["self"] s_Reader_read_brackets (He.fAd K d_Reader_read_brackets.at_) := ⟨⟨fd28, F28, F28.bindsN fun _ _ _ _ _ _ us hl => match us, hl with | [_], _ => rfl⟩⟩
  obtain ⟨fd29, F29⟩ := cd.def_ 29 (d := d_Reader_read_end) rfl
  have D_Reader_read_end : MethAt K "read_end" "Reader.read_end" ["self"] s_Reader_read_end (He.fAd K d_Reader_read_end.at_) := ⟨⟨fd29, F29, F29.bindsN fun _ _ _ _ _ _ us hl => match us, hl with | [_], _ => rfl⟩⟩
  obtain ⟨fd30, F30⟩ := cd.def_ 30 (d := d_read_way) rfl
  have D_read_way : DefAt K mg "read_way" ["text", "make"] s_read_way := ⟨⟨_, fd30, F30, He.glo_ok X G (cd.fact 13 (f := .glo "read_way") rfl), F30.kp, F30.bindsN fun _ _ _ _ _ _ us hl => match us, hl with | [_, _], _ => rfl⟩⟩
  obtain ⟨fd31, F31⟩ := cd.def_ 31 (d := d__law_skip) rfl
  have D__law_skip : DefAt K mg "_law_skip" ["_law_text", "_law_at"] s__law_skip := ⟨⟨_, fd31, F31, He.glo_ok X G (cd.fact 14 (f := .glo "_law_skip") rfl), F31.kp, F31.bindsN fun _ _ _ _ _ _ us hl => match us, hl with | [_, _], _ => rfl⟩⟩
  obtain ⟨fd32, F32⟩ := cd.def_ 32 (d := d__law_begins) rfl
  have D__law_begins : DefAt K mg "_law_begins" ["_law_sign"] s__law_begins := ⟨⟨_, fd32, F32, He.glo_ok X G (cd.fact 15 (f := .glo "_law_begins") rfl), F32.kp, F32.bindsN fun _ _ _ _ _ _ us hl => match us, hl with | [_], _ => rfl⟩⟩
  obtain ⟨fd33, F33⟩ := cd.def_ 33 (d := d__law_read_call) rfl
  have D__law_read_call : DefAt K mg "_law_read_call" ["_law_text", "_law_at"] s__law_read_call := ⟨⟨_, fd33, F33, He.glo_ok X G (cd.fact 16 (f := .glo "_law_read_call") rfl), F33.kp, F33.bindsN fun _ _ _ _ _ _ us hl => match us, hl with | [_, _], _ => rfl⟩⟩
  obtain ⟨fd34, F34⟩ := cd.def_ 34 (d := d__law_read_one) rfl
  have D__law_read_one : DefAt K mg "_law_read_one" ["_law_text", "_law_at"] s__law_read_one := ⟨⟨_, fd34, F34, He.glo_ok X G (cd.fact 17 (f := .glo "_law_read_one") rfl), F34.kp, F34.bindsN fun _ _ _ _ _ _ us hl => match us, hl with | [_, _], _ => rfl⟩⟩
  obtain ⟨fd35, F35⟩ := cd.def_ 35 (d := d__law_read_row) rfl
  have D__law_read_row : DefAt K mg "_law_read_row" ["_law_text", "_law_at"] s__law_read_row := ⟨⟨_, fd35, F35, He.glo_ok X G (cd.fact 18 (f := .glo "_law_read_row") rfl), F35.kp, F35.bindsN fun _ _ _ _ _ _ us hl => match us, hl with | [_, _], _ => rfl⟩⟩
  obtain ⟨fd36, F36⟩ := cd.def_ 36 (d := d__law_read_choice) rfl
  have D__law_read_choice : DefAt K mg "_law_read_choice" ["_law_text", "_law_at"] s__law_read_choice := ⟨⟨_, fd36, F36, He.glo_ok X G (cd.fact 19 (f := .glo "_law_read_choice") rfl), F36.kp, F36.bindsN fun _ _ _ _ _ _ us hl => match us, hl with | [_, _], _ => rfl⟩⟩
  obtain ⟨fd37, F37⟩ := cd.def_ 37 (d := d__law_read_look) rfl
  have D__law_read_look : DefAt K mg "_law_read_look" ["_law_text", "_law_at"] s__law_read_look := ⟨⟨_, fd37, F37, He.glo_ok X G (cd.fact 20 (f := .glo "_law_read_look") rfl), F37.kp, F37.bindsN fun _ _ _ _ _ _ us hl => match us, hl with | [_, _], _ => rfl⟩⟩
  obtain ⟨fd38, F38⟩ := cd.def_ 38 (d := d__law_due) rfl
  have D__law_due : DefAt K mg "_law_due" ["_law_text"] s__law_due := ⟨⟨_, fd38, F38, He.glo_ok X G (cd.fact 21 (f := .glo "_law_due") rfl), F38.kp, F38.bindsN fun _ _ _ _ _ _ us hl => match us, hl with | [_], _ => rfl⟩⟩
  obtain ⟨fd39, F39⟩ := cd.def_ 39 (d := d__law_told) rfl
  have D__law_told : DefAt K mg "_law_told" ["_law_text"] s__law_told := ⟨⟨_, fd39, F39, He.glo_ok X G (cd.fact 22 (f := .glo "_law_told") rfl), F39.kp, F39.bindsN fun _ _ _ _ _ _ us hl => match us, hl with | [_], _ => rfl⟩⟩
  obtain ⟨fd40, F40⟩ := cd.def_ 40 (d := d__law_bent) rfl
  have D__law_bent : DefAt K mg "_law_bent" ["_law_pen_here", "_law_text"] s__law_bent := ⟨⟨_, fd40, F40, He.glo_ok X G (cd.fact 23 (f := .glo "_law_bent") rfl), F40.kp, F40.bindsN fun _ _ _ _ _ _ us hl => match us, hl with | [_, _], _ => rfl⟩⟩
  obtain ⟨fd41, F41⟩ := cd.def_ 41 (d := d_law) rfl
  have F_Letter : ∀ n ∈ fldN, FldOk K (He.ga K "Letter") n := fun n hn => ⟨He.cls_ok (cd.fact 60 (f := .cls "Letter") rfl), by
    simp only [fldN, List.mem_cons, List.not_mem_nil, or_false] at hn
    rcases hn with rfl | rfl | rfl | rfl | rfl | rfl | rfl
    · exact He.noat_ok (cd.fact 80 (f := .noat "Letter" "word") rfl)
    · exact He.noat_ok (cd.fact 81 (f := .noat "Letter" "sign") rfl)
    · exact He.noat_ok (cd.fact 82 (f := .noat "Letter" "inner") rfl)
    · exact He.noat_ok (cd.fact 83 (f := .noat "Letter" "letter") rfl)
    · exact He.noat_ok (cd.fact 84 (f := .noat "Letter" "name") rfl)
    · exact He.noat_ok (cd.fact 85 (f := .noat "Letter" "part") rfl)
    · exact He.noat_ok (cd.fact 86 (f := .noat "Letter" "ways") rfl)⟩
  have F_One : ∀ n ∈ fldN, FldOk K (He.ga K "One") n := fun n hn => ⟨He.cls_ok (cd.fact 61 (f := .cls "One") rfl), by
    simp only [fldN, List.mem_cons, List.not_mem_nil, or_false] at hn
    rcases hn with rfl | rfl | rfl | rfl | rfl | rfl | rfl
    · exact He.noat_ok (cd.fact 87 (f := .noat "One" "word") rfl)
    · exact He.noat_ok (cd.fact 88 (f := .noat "One" "sign") rfl)
    · exact He.noat_ok (cd.fact 89 (f := .noat "One" "inner") rfl)
    · exact He.noat_ok (cd.fact 90 (f := .noat "One" "letter") rfl)
    · exact He.noat_ok (cd.fact 91 (f := .noat "One" "name") rfl)
    · exact He.noat_ok (cd.fact 92 (f := .noat "One" "part") rfl)
    · exact He.noat_ok (cd.fact 93 (f := .noat "One" "ways") rfl)⟩
  have F_Nothing : ∀ n ∈ fldN, FldOk K (He.ga K "Nothing") n := fun n hn => ⟨He.cls_ok (cd.fact 62 (f := .cls "Nothing") rfl), by
    simp only [fldN, List.mem_cons, List.not_mem_nil, or_false] at hn
    rcases hn with rfl | rfl | rfl | rfl | rfl | rfl | rfl
    · exact He.noat_ok (cd.fact 94 (f := .noat "Nothing" "word") rfl)
    · exact He.noat_ok (cd.fact 95 (f := .noat "Nothing" "sign") rfl)
    · exact He.noat_ok (cd.fact 96 (f := .noat "Nothing" "inner") rfl)
    · exact He.noat_ok (cd.fact 97 (f := .noat "Nothing" "letter") rfl)
    · exact He.noat_ok (cd.fact 98 (f := .noat "Nothing" "name") rfl)
    · exact He.noat_ok (cd.fact 99 (f := .noat "Nothing" "part") rfl)
    · exact He.noat_ok (cd.fact 100 (f := .noat "Nothing" "ways") rfl)⟩
  have F_Row : ∀ n ∈ fldN, FldOk K (He.ga K "Row") n := fun n hn => ⟨He.cls_ok (cd.fact 63 (f := .cls "Row") rfl), by
    simp only [fldN, List.mem_cons, List.not_mem_nil, or_false] at hn
    rcases hn with rfl | rfl | rfl | rfl | rfl | rfl | rfl
    · exact He.noat_ok (cd.fact 101 (f := .noat "Row" "word") rfl)
    · exact He.noat_ok (cd.fact 102 (f := .noat "Row" "sign") rfl)
    · exact He.noat_ok (cd.fact 103 (f := .noat "Row" "inner") rfl)
    · exact He.noat_ok (cd.fact 104 (f := .noat "Row" "letter") rfl)
    · exact He.noat_ok (cd.fact 105 (f := .noat "Row" "name") rfl)
    · exact He.noat_ok (cd.fact 106 (f := .noat "Row" "part") rfl)
    · exact He.noat_ok (cd.fact 107 (f := .noat "Row" "ways") rfl)⟩
  have F_Choice : ∀ n ∈ fldN, FldOk K (He.ga K "Choice") n := fun n hn => ⟨He.cls_ok (cd.fact 64 (f := .cls "Choice") rfl), by
    simp only [fldN, List.mem_cons, List.not_mem_nil, or_false] at hn
    rcases hn with rfl | rfl | rfl | rfl | rfl | rfl | rfl
    · exact He.noat_ok (cd.fact 108 (f := .noat "Choice" "word") rfl)
    · exact He.noat_ok (cd.fact 109 (f := .noat "Choice" "sign") rfl)
    · exact He.noat_ok (cd.fact 110 (f := .noat "Choice" "inner") rfl)
    · exact He.noat_ok (cd.fact 111 (f := .noat "Choice" "letter") rfl)
    · exact He.noat_ok (cd.fact 112 (f := .noat "Choice" "name") rfl)
    · exact He.noat_ok (cd.fact 113 (f := .noat "Choice" "part") rfl)
    · exact He.noat_ok (cd.fact 114 (f := .noat "Choice" "ways") rfl)⟩
  have F_Again : ∀ n ∈ fldN, FldOk K (He.ga K "Again") n := fun n hn => ⟨He.cls_ok (cd.fact 65 (f := .cls "Again") rfl), by
    simp only [fldN, List.mem_cons, List.not_mem_nil, or_false] at hn
    rcases hn with rfl | rfl | rfl | rfl | rfl | rfl | rfl
    · exact He.noat_ok (cd.fact 115 (f := .noat "Again" "word") rfl)
    · exact He.noat_ok (cd.fact 116 (f := .noat "Again" "sign") rfl)
    · exact He.noat_ok (cd.fact 117 (f := .noat "Again" "inner") rfl)
    · exact He.noat_ok (cd.fact 118 (f := .noat "Again" "letter") rfl)
    · exact He.noat_ok (cd.fact 119 (f := .noat "Again" "name") rfl)
    · exact He.noat_ok (cd.fact 120 (f := .noat "Again" "part") rfl)
    · exact He.noat_ok (cd.fact 121 (f := .noat "Again" "ways") rfl)⟩
  have F_Maybe : ∀ n ∈ fldN, FldOk K (He.ga K "Maybe") n := fun n hn => ⟨He.cls_ok (cd.fact 66 (f := .cls "Maybe") rfl), by
    simp only [fldN, List.mem_cons, List.not_mem_nil, or_false] at hn
    rcases hn with rfl | rfl | rfl | rfl | rfl | rfl | rfl
    · exact He.noat_ok (cd.fact 122 (f := .noat "Maybe" "word") rfl)
    · exact He.noat_ok (cd.fact 123 (f := .noat "Maybe" "sign") rfl)
    · exact He.noat_ok (cd.fact 124 (f := .noat "Maybe" "inner") rfl)
    · exact He.noat_ok (cd.fact 125 (f := .noat "Maybe" "letter") rfl)
    · exact He.noat_ok (cd.fact 126 (f := .noat "Maybe" "name") rfl)
    · exact He.noat_ok (cd.fact 127 (f := .noat "Maybe" "part") rfl)
    · exact He.noat_ok (cd.fact 128 (f := .noat "Maybe" "ways") rfl)⟩
  have F_Ahead : ∀ n ∈ fldN, FldOk K (He.ga K "Ahead") n := fun n hn => ⟨He.cls_ok (cd.fact 67 (f := .cls "Ahead") rfl), by
    simp only [fldN, List.mem_cons, List.not_mem_nil, or_false] at hn
    rcases hn with rfl | rfl | rfl | rfl | rfl | rfl | rfl
    · exact He.noat_ok (cd.fact 129 (f := .noat "Ahead" "word") rfl)
    · exact He.noat_ok (cd.fact 130 (f := .noat "Ahead" "sign") rfl)
    · exact He.noat_ok (cd.fact 131 (f := .noat "Ahead" "inner") rfl)
    · exact He.noat_ok (cd.fact 132 (f := .noat "Ahead" "letter") rfl)
    · exact He.noat_ok (cd.fact 133 (f := .noat "Ahead" "name") rfl)
    · exact He.noat_ok (cd.fact 134 (f := .noat "Ahead" "part") rfl)
    · exact He.noat_ok (cd.fact 135 (f := .noat "Ahead" "ways") rfl)⟩
  have F_Unless : ∀ n ∈ fldN, FldOk K (He.ga K "Unless") n := fun n hn => ⟨He.cls_ok (cd.fact 68 (f := .cls "Unless") rfl), by
    simp only [fldN, List.mem_cons, List.not_mem_nil, or_false] at hn
    rcases hn with rfl | rfl | rfl | rfl | rfl | rfl | rfl
    · exact He.noat_ok (cd.fact 136 (f := .noat "Unless" "word") rfl)
    · exact He.noat_ok (cd.fact 137 (f := .noat "Unless" "sign") rfl)
    · exact He.noat_ok (cd.fact 138 (f := .noat "Unless" "inner") rfl)
    · exact He.noat_ok (cd.fact 139 (f := .noat "Unless" "letter") rfl)
    · exact He.noat_ok (cd.fact 140 (f := .noat "Unless" "name") rfl)
    · exact He.noat_ok (cd.fact 141 (f := .noat "Unless" "part") rfl)
    · exact He.noat_ok (cd.fact 142 (f := .noat "Unless" "ways") rfl)⟩
  have F_Call : ∀ n ∈ fldN, FldOk K (He.ga K "Call") n := fun n hn => ⟨He.cls_ok (cd.fact 69 (f := .cls "Call") rfl), by
    simp only [fldN, List.mem_cons, List.not_mem_nil, or_false] at hn
    rcases hn with rfl | rfl | rfl | rfl | rfl | rfl | rfl
    · exact He.noat_ok (cd.fact 143 (f := .noat "Call" "word") rfl)
    · exact He.noat_ok (cd.fact 144 (f := .noat "Call" "sign") rfl)
    · exact He.noat_ok (cd.fact 145 (f := .noat "Call" "inner") rfl)
    · exact He.noat_ok (cd.fact 146 (f := .noat "Call" "letter") rfl)
    · exact He.noat_ok (cd.fact 147 (f := .noat "Call" "name") rfl)
    · exact He.noat_ok (cd.fact 148 (f := .noat "Call" "part") rfl)
    · exact He.noat_ok (cd.fact 149 (f := .noat "Call" "ways") rfl)⟩
  have gW : mg "Way" = some (.ref (He.ga K "Way")) := He.glo_ok X G (cd.fact 35 (f := .glo "Way") rfl)
  have hW : WOk K (WAof K) := by
    rintro C (rfl | rfl | rfl | rfl | ⟨k, rfl⟩ | ⟨b, rfl⟩)
    · exact F_Nothing
    · exact F_One
    · exact F_Letter
    · exact F_Call
    · cases k
      · exact F_Again
      · exact F_Maybe
      · exact F_Ahead
      · exact F_Unless
    · cases b
      · exact F_Row
      · exact F_Choice
  obtain ⟨s0, t0⟩ := He.ba (List.all_eq_true.mp cm1 d_Letter___init__ (List.mem_of_getElem? (show snw[0]? = some d_Letter___init__ from rfl)))
  have S_Letter : SupAt PySem.Challenge.pw_waystaken_k05_wrong_texts_of_ways K (He.ga K "Letter") "__init__" "Letter.__init__" ["self", "letter"] s_Letter___init__ (He.fAd K d_Letter___init__.at_) (way0 K) := supAt_of (P := PySem.Challenge.pw_waystaken_k05_wrong_texts_of_ways) (d := d_Letter___init__) (c.sup 0 (d := d_Letter___init__) rfl) s0 t0 (by rfl) rfl rfl rfl fun _ _ _ _ _ _ _ us hl => match us, hl with | [_, _], _ => rfl
  obtain ⟨s1, t1⟩ := He.ba (List.all_eq_true.mp cm1 d_One___init__ (List.mem_of_getElem? (show snw[1]? = some d_One___init__ from rfl)))
  have S_One : SupAt PySem.Challenge.pw_waystaken_k05_wrong_texts_of_ways K (He.ga K "One") "__init__" "One.__init__" ["self"] s_One___init__ (He.fAd K d_One___init__.at_) (way0 K) := supAt_of (P := PySem.Challenge.pw_waystaken_k05_wrong_texts_of_ways) (d := d_One___init__) (c.sup 1 (d := d_One___init__) rfl) s1 t1 (by rfl) rfl rfl rfl fun _ _ _ _ _ _ _ us hl => match us, hl with | [_], _ => rfl
  obtain ⟨s2, t2⟩ := He.ba (List.all_eq_true.mp cm1 d_Nothing___init__ (List.mem_of_getElem? (show snw[2]? = some d_Nothing___init__ from rfl)))
  have S_Nothing : SupAt PySem.Challenge.pw_waystaken_k05_wrong_texts_of_ways K (He.ga K "Nothing") "__init__" "Nothing.__init__" ["self"] s_Nothing___init__ (He.fAd K d_Nothing___init__.at_) (way0 K) := supAt_of (P := PySem.Challenge.pw_waystaken_k05_wrong_texts_of_ways) (d := d_Nothing___init__) (c.sup 2 (d := d_Nothing___init__) rfl) s2 t2 (by rfl) rfl rfl rfl fun _ _ _ _ _ _ _ us hl => match us, hl with | [_], _ => rfl
  obtain ⟨s3, t3⟩ := He.ba (List.all_eq_true.mp cm1 d_Row___init__ (List.mem_of_getElem? (show snw[3]? = some d_Row___init__ from rfl)))
  have S_Row : SupAt PySem.Challenge.pw_waystaken_k05_wrong_texts_of_ways K (He.ga K "Row") "__init__" "Row.__init__" ["self", "ways"] s_Row___init__ (He.fAd K d_Row___init__.at_) (way0 K) := supAt_of (P := PySem.Challenge.pw_waystaken_k05_wrong_texts_of_ways) (d := d_Row___init__) (c.sup 3 (d := d_Row___init__) rfl) s3 t3 (by rfl) rfl rfl rfl fun _ _ _ _ _ _ _ us hl => match us, hl with | [_, _], _ => rfl
  obtain ⟨s4, t4⟩ := He.ba (List.all_eq_true.mp cm1 d_Choice___init__ (List.mem_of_getElem? (show snw[4]? = some d_Choice___init__ from rfl)))
  have S_Choice : SupAt PySem.Challenge.pw_waystaken_k05_wrong_texts_of_ways K (He.ga K "Choice") "__init__" "Choice.__init__" ["self", "ways"] s_Choice___init__ (He.fAd K d_Choice___init__.at_) (way0 K) := supAt_of (P := PySem.Challenge.pw_waystaken_k05_wrong_texts_of_ways) (d := d_Choice___init__) (c.sup 4 (d := d_Choice___init__) rfl) s4 t4 (by rfl) rfl rfl rfl fun _ _ _ _ _ _ _ us hl => match us, hl with | [_, _], _ => rfl
  obtain ⟨s5, t5⟩ := He.ba (List.all_eq_true.mp cm1 d_Again___init__ (List.mem_of_getElem? (show snw[5]? = some d_Again___init__ from rfl)))
  have S_Again : SupAt PySem.Challenge.pw_waystaken_k05_wrong_texts_of_ways K (He.ga K "Again") "__init__" "Again.__init__" ["self", "part"] s_Again___init__ (He.fAd K d_Again___init__.at_) (way0 K) := supAt_of (P := PySem.Challenge.pw_waystaken_k05_wrong_texts_of_ways) (d := d_Again___init__) (c.sup 5 (d := d_Again___init__) rfl) s5 t5 (by rfl) rfl rfl rfl fun _ _ _ _ _ _ _ us hl => match us, hl with | [_, _], _ => rfl
  obtain ⟨s6, t6⟩ := He.ba (List.all_eq_true.mp cm1 d_Maybe___init__ (List.mem_of_getElem? (show snw[6]? = some d_Maybe___init__ from rfl)))
  have S_Maybe : SupAt PySem.Challenge.pw_waystaken_k05_wrong_texts_of_ways K (He.ga K "Maybe") "__init__" "Maybe.__init__" ["self", "part"] s_Maybe___init__ (He.fAd K d_Maybe___init__.at_) (way0 K) := supAt_of (P := PySem.Challenge.pw_waystaken_k05_wrong_texts_of_ways) (d := d_Maybe___init__) (c.sup 6 (d := d_Maybe___init__) rfl) s6 t6 (by rfl) rfl rfl rfl fun _ _ _ _ _ _ _ us hl => match us, hl with | [_, _], _ => rfl
  obtain ⟨s7, t7⟩ := He.ba (List.all_eq_true.mp cm1 d_Ahead___init__ (List.mem_of_getElem? (show snw[7]? = some d_Ahead___init__ from rfl)))
  have S_Ahead : SupAt PySem.Challenge.pw_waystaken_k05_wrong_texts_of_ways K (He.ga K "Ahead") "__init__" "Ahead.__init__" ["self", "part"] s_Ahead___init__ (He.fAd K d_Ahead___init__.at_) (way0 K) := supAt_of (P := PySem.Challenge.pw_waystaken_k05_wrong_texts_of_ways) (d := d_Ahead___init__) (c.sup 7 (d := d_Ahead___init__) rfl) s7 t7 (by rfl) rfl rfl rfl fun _ _ _ _ _ _ _ us hl => match us, hl with | [_, _], _ => rfl
  obtain ⟨s8, t8⟩ := He.ba (List.all_eq_true.mp cm1 d_Unless___init__ (List.mem_of_getElem? (show snw[8]? = some d_Unless___init__ from rfl)))
  have S_Unless : SupAt PySem.Challenge.pw_waystaken_k05_wrong_texts_of_ways K (He.ga K "Unless") "__init__" "Unless.__init__" ["self", "part"] s_Unless___init__ (He.fAd K d_Unless___init__.at_) (way0 K) := supAt_of (P := PySem.Challenge.pw_waystaken_k05_wrong_texts_of_ways) (d := d_Unless___init__) (c.sup 8 (d := d_Unless___init__) rfl) s8 t8 (by rfl) rfl rfl rfl fun _ _ _ _ _ _ _ us hl => match us, hl with | [_, _], _ => rfl
  obtain ⟨s9, t9⟩ := He.ba (List.all_eq_true.mp cm1 d_Call___init__ (List.mem_of_getElem? (show snw[9]? = some d_Call___init__ from rfl)))
  have S_Call : SupAt PySem.Challenge.pw_waystaken_k05_wrong_texts_of_ways K (He.ga K "Call") "__init__" "Call.__init__" ["self", "name"] s_Call___init__ (He.fAd K d_Call___init__.at_) (way0 K) := supAt_of (P := PySem.Challenge.pw_waystaken_k05_wrong_texts_of_ways) (d := d_Call___init__) (c.sup 9 (d := d_Call___init__) rfl) s9 t9 (by rfl) rfl rfl rfl fun _ _ _ _ _ _ _ us hl => match us, hl with | [_, _], _ => rfl
  have X_BadText : ExFac PySem.Challenge.pw_waystaken_k05_wrong_texts_of_ways K (He.ga K "BadText") "__init__" "BadText.__init__" ["self", "line", "place"] s_BadText___init__ (He.fAd K d_BadText___init__.at_) ["line", "place"] := exFac_of (P := PySem.Challenge.pw_waystaken_k05_wrong_texts_of_ways) (d := d_BadText___init__) (c.sup 10 (d := d_BadText___init__) rfl) c_x_BadText (by rfl) rfl rfl rfl fun _ _ _ _ _ _ _ us hl => match us, hl with | [_, _, _], _ => rfl
  have e := hfa.symm.trans (He.glo_ok X G (cd.fact 24 (f := .glo "law") rfl))
  cases e
  have b := FunD.bindsA (ps := ["_law_script"]) F41 fun _ _ _ _ _ _ us hl => match us, hl with | [_], _ => rfl
  refine ⟨fd41, fun s v => b s [v] rfl, fun base _ _ => ?_⟩
  have C_Letter : ∃ fd, FnOk PySem.Challenge.pw_waystaken_k05_wrong_texts_of_ways w K mg base CX0 2 (He.ma K (He.ga K "Letter") "__init__") fd ["self", "letter"] (LSp K (spInit (He.ga K "Letter") (gLeaf "letter" "letter"))) ∧ Binds K fd ["self", "letter"] [] := by
    obtain ⟨fdw, gw, bw⟩ := ok_Way_init (P := PySem.Challenge.pw_waystaken_k05_wrong_texts_of_ways) (w := w) (base := base) T F_Letter D_Way___init__
    exact ok_Letter_init T F_Letter S_Letter gw bw
  have C_One : ∃ fd, FnOk PySem.Challenge.pw_waystaken_k05_wrong_texts_of_ways w K mg base CX0 2 (He.ma K (He.ga K "One") "__init__") fd ["self"] (LSp K (spInit (He.ga K "One") (gBare "one"))) ∧ Binds K fd ["self"] [] := by
    obtain ⟨fdw, gw, bw⟩ := ok_Way_init (P := PySem.Challenge.pw_waystaken_k05_wrong_texts_of_ways) (w := w) (base := base) T F_One D_Way___init__
    exact ok_One_init T F_One S_One gw bw
  have C_Nothing : ∃ fd, FnOk PySem.Challenge.pw_waystaken_k05_wrong_texts_of_ways w K mg base CX0 2 (He.ma K (He.ga K "Nothing") "__init__") fd ["self"] (LSp K (spInit (He.ga K "Nothing") (gBare "nothing"))) ∧ Binds K fd ["self"] [] := by
    obtain ⟨fdw, gw, bw⟩ := ok_Way_init (P := PySem.Challenge.pw_waystaken_k05_wrong_texts_of_ways) (w := w) (base := base) T F_Nothing D_Way___init__
    exact ok_Nothing_init T F_Nothing S_Nothing gw bw
  have C_Row : ∃ fd, FnOk PySem.Challenge.pw_waystaken_k05_wrong_texts_of_ways w K mg base CX0 2 (He.ma K (He.ga K "Row") "__init__") fd ["self", "ways"] (LSp K (spInit (He.ga K "Row") (gMany "row"))) ∧ Binds K fd ["self", "ways"] [] := by
    obtain ⟨fdw, gw, bw⟩ := ok_Way_init (P := PySem.Challenge.pw_waystaken_k05_wrong_texts_of_ways) (w := w) (base := base) T F_Row D_Way___init__
    exact ok_Row_init T F_Row S_Row gw bw
  have C_Choice : ∃ fd, FnOk PySem.Challenge.pw_waystaken_k05_wrong_texts_of_ways w K mg base CX0 2 (He.ma K (He.ga K "Choice") "__init__") fd ["self", "ways"] (LSp K (spInit (He.ga K "Choice") (gMany "choice"))) ∧ Binds K fd ["self", "ways"] [] := by
    obtain ⟨fdw, gw, bw⟩ := ok_Way_init (P := PySem.Challenge.pw_waystaken_k05_wrong_texts_of_ways) (w := w) (base := base) T F_Choice D_Way___init__
    exact ok_Choice_init T F_Choice S_Choice gw bw
  have C_Again : ∃ fd, FnOk PySem.Challenge.pw_waystaken_k05_wrong_texts_of_ways w K mg base CX0 2 (He.ma K (He.ga K "Again") "__init__") fd ["self", "part"] (LSp K (spInit (He.ga K "Again") (gUn "again"))) ∧ Binds K fd ["self", "part"] [] := by
    obtain ⟨fdw, gw, bw⟩ := ok_Way_init (P := PySem.Challenge.pw_waystaken_k05_wrong_texts_of_ways) (w := w) (base := base) T F_Again D_Way___init__
    exact ok_Again_init T F_Again S_Again gw bw
  have C_Maybe : ∃ fd, FnOk PySem.Challenge.pw_waystaken_k05_wrong_texts_of_ways w K mg base CX0 2 (He.ma K (He.ga K "Maybe") "__init__") fd ["self", "part"] (LSp K (spInit (He.ga K "Maybe") (gUn "maybe"))) ∧ Binds K fd ["self", "part"] [] := by
    obtain ⟨fdw, gw, bw⟩ := ok_Way_init (P := PySem.Challenge.pw_waystaken_k05_wrong_texts_of_ways) (w := w) (base := base) T F_Maybe D_Way___init__
    exact ok_Maybe_init T F_Maybe S_Maybe gw bw
  have C_Ahead : ∃ fd, FnOk PySem.Challenge.pw_waystaken_k05_wrong_texts_of_ways w K mg base CX0 2 (He.ma K (He.ga K "Ahead") "__init__") fd ["self", "part"] (LSp K (spInit (He.ga K "Ahead") (gUn "ahead"))) ∧ Binds K fd ["self", "part"] [] := by
    obtain ⟨fdw, gw, bw⟩ := ok_Way_init (P := PySem.Challenge.pw_waystaken_k05_wrong_texts_of_ways) (w := w) (base := base) T F_Ahead D_Way___init__
    exact ok_Ahead_init T F_Ahead S_Ahead gw bw
  have C_Unless : ∃ fd, FnOk PySem.Challenge.pw_waystaken_k05_wrong_texts_of_ways w K mg base CX0 2 (He.ma K (He.ga K "Unless") "__init__") fd ["self", "part"] (LSp K (spInit (He.ga K "Unless") (gUn "unless"))) ∧ Binds K fd ["self", "part"] [] := by
    obtain ⟨fdw, gw, bw⟩ := ok_Way_init (P := PySem.Challenge.pw_waystaken_k05_wrong_texts_of_ways) (w := w) (base := base) T F_Unless D_Way___init__
    exact ok_Unless_init T F_Unless S_Unless gw bw
  have C_Call : ∃ fd, FnOk PySem.Challenge.pw_waystaken_k05_wrong_texts_of_ways w K mg base CX0 2 (He.ma K (He.ga K "Call") "__init__") fd ["self", "name"] (LSp K (spInit (He.ga K "Call") (gLeaf "call" "name"))) ∧ Binds K fd ["self", "name"] [] := by
    obtain ⟨fdw, gw, bw⟩ := ok_Way_init (P := PySem.Challenge.pw_waystaken_k05_wrong_texts_of_ways) (w := w) (base := base) T F_Call D_Way___init__
    exact ok_Call_init T F_Call S_Call gw bw
  have hC : WCl PySem.Challenge.pw_waystaken_k05_wrong_texts_of_ways w K mg base (WAof K) := {
    c_nothing := by
      obtain ⟨fdc, gc, bc⟩ := C_Nothing
      exact ⟨⟨_, fdc, gc, He.mkr_ok (cd.fact 72 (f := .mkr "Nothing") rfl), He.glo_ok X G (cd.fact 27 (f := .glo "Nothing") rfl), bc⟩⟩
    c_one := by
      obtain ⟨fdc, gc, bc⟩ := C_One
      exact ⟨⟨_, fdc, gc, He.mkr_ok (cd.fact 71 (f := .mkr "One") rfl), He.glo_ok X G (cd.fact 26 (f := .glo "One") rfl), bc⟩⟩
    c_letter := by
      obtain ⟨fdc, gc, bc⟩ := C_Letter
      exact ⟨⟨_, fdc, gc, He.mkr_ok (cd.fact 70 (f := .mkr "Letter") rfl), He.glo_ok X G (cd.fact 25 (f := .glo "Letter") rfl), bc⟩⟩
    c_call := by
      obtain ⟨fdc, gc, bc⟩ := C_Call
      exact ⟨⟨_, fdc, gc, He.mkr_ok (cd.fact 79 (f := .mkr "Call") rfl), He.glo_ok X G (cd.fact 34 (f := .glo "Call") rfl), bc⟩⟩
    c_again := by
      obtain ⟨fdc, gc, bc⟩ := C_Again
      exact ⟨⟨_, fdc, gc, He.mkr_ok (cd.fact 75 (f := .mkr "Again") rfl), He.glo_ok X G (cd.fact 30 (f := .glo "Again") rfl), bc⟩⟩
    c_maybe := by
      obtain ⟨fdc, gc, bc⟩ := C_Maybe
      exact ⟨⟨_, fdc, gc, He.mkr_ok (cd.fact 76 (f := .mkr "Maybe") rfl), He.glo_ok X G (cd.fact 31 (f := .glo "Maybe") rfl), bc⟩⟩
    c_ahead := by
      obtain ⟨fdc, gc, bc⟩ := C_Ahead
      exact ⟨⟨_, fdc, gc, He.mkr_ok (cd.fact 77 (f := .mkr "Ahead") rfl), He.glo_ok X G (cd.fact 32 (f := .glo "Ahead") rfl), bc⟩⟩
    c_unless := by
      obtain ⟨fdc, gc, bc⟩ := C_Unless
      exact ⟨⟨_, fdc, gc, He.mkr_ok (cd.fact 78 (f := .mkr "Unless") rfl), He.glo_ok X G (cd.fact 33 (f := .glo "Unless") rfl), bc⟩⟩
    c_row := by
      obtain ⟨fdc, gc, bc⟩ := C_Row
      exact ⟨⟨_, fdc, gc, He.mkr_ok (cd.fact 73 (f := .mkr "Row") rfl), He.glo_ok X G (cd.fact 28 (f := .glo "Row") rfl), bc⟩⟩
    c_choice := by
      obtain ⟨fdc, gc, bc⟩ := C_Choice
      exact ⟨⟨_, fdc, gc, He.mkr_ok (cd.fact 74 (f := .mkr "Choice") rfl), He.glo_ok X G (cd.fact 29 (f := .glo "Choice") rfl), bc⟩⟩
  }
  obtain ⟨tkL, gL0⟩ := He.str_ok X G (cd.fact 156 (f := .str "LETTERS" "abcdefghijklmnopqrstuvwxyz") rfl)
  have gL : mg "LETTERS" = some (.str (tx lettersN) tkL) := by rw [← tx_letters]; exact gL0
  obtain ⟨tkN, gN⟩ := He.int_ok X G (cd.fact 157 (f := .int "MOST_LETTERS" 12) rfl)
  have f_draw := ok_draw (P := PySem.Challenge.pw_waystaken_k05_wrong_texts_of_ways) (w := w) (base := base) T D__law_draw
  have f_pen := ok_pen (P := PySem.Challenge.pw_waystaken_k05_wrong_texts_of_ways) (w := w) (base := base) T D__law_pen
  have f_pick := ok_pick T f_draw D__law_pick
  have f_signs := ok_signs T f_draw D__law_signs
  have f_leaf := ok_leaf T f_draw f_pick D__law_leaf
  have f_wayof := ok_way_of T f_draw f_pick f_leaf D__law_way_of 10
  have f_way := (ok_way T f_draw f_wayof D__law_way).mono (show 14 ≤ 20 by decide)
  have f_inner := ok_inner (P := PySem.Challenge.pw_waystaken_k05_wrong_texts_of_ways) (w := w) (base := base) T D__law_inner
  have f_made := ok_made T hC f_inner D__law_made 16
  have f_made5 := ok_made T hC f_inner D__law_made 50
  have weq := eqWB_ok c_eqW hW
  have f_eq := ok_Way_eq (P := PySem.Challenge.pw_waystaken_k05_wrong_texts_of_ways) (w := w) (base := base) T gW hW weq 50 D_Way___eq__
  have f_br := ok_brackets (P := PySem.Challenge.pw_waystaken_k05_wrong_texts_of_ways) (w := w) (base := base) T hW D_is_put_in_brackets
  have gM : mg "MARKS" = some (.ref (He.ga K "MARKS")) := He.glo_ok X G (cd.fact 152 (f := .glo "MARKS") rfl)
  have hM : TabK K w (He.ga K "MARKS") marksD := marks_tab (c0.tab 0) c_marks
  have f_wt := ok_way_text T hW gM hM f_br D_inner_text D_way_text 16 (by decide)
  have f_str := ok_Way_str T 16 (by decide) f_wt D_Way___str__ (metB_ok c_m_str).2.1 (metB_ok c_m_str).1
  have x_BadText : ExCl PySem.Challenge.pw_waystaken_k05_wrong_texts_of_ways w K mg base 2 "BadText" (He.ga K "BadText") ["line", "place"] := (ExCl.of X_BadText.at_ (He.glo_ok X G (cd.fact 150 (f := .glo "BadText") rfl)) X_BadText.init X_BadText.ty (ok_BadText_init T X_BadText.at_ (X_BadText.no _ (by simp)) (X_BadText.no _ (by simp)))).mono (by decide)
  have cR : Cls K (He.ga K "Reader") := He.cls_ok (cd.fact 154 (f := .cls "Reader") rfl)
  have ft : FldOk K (He.ga K "Reader") "text" := ⟨cR, He.noat_ok (cd.fact 159 (f := .noat "Reader" "text") rfl)⟩
  have fl : FldOk K (He.ga K "Reader") "line" := ⟨cR, He.noat_ok (cd.fact 160 (f := .noat "Reader" "line") rfl)⟩
  have fm : FldOk K (He.ga K "Reader") "make" := ⟨cR, He.noat_ok (cd.fact 161 (f := .noat "Reader" "make") rfl)⟩
  have fp : FldOk K (He.ga K "Reader") "place" := ⟨cR, He.noat_ok (cd.fact 162 (f := .noat "Reader" "place") rfl)⟩
  have gmk : mg "way_of" = some (.ref (He.ga K "way_of")) := He.glo_ok X G (cd.fact 12 (f := .glo "way_of") rfl)
  have gWd : mg "WORDS" = some (.ref (He.ga K "WORDS")) := He.glo_ok X G (cd.fact 158 (f := .glo "WORDS") rfl)
  have hWd : TabK K w (He.ga K "WORDS") wrdsK := words_tab (c0.tab 1) c_words
  have f_wof := ok_wayof T hC D_way_of
  have r_init := ok_readerinit (P := PySem.Challenge.pw_waystaken_k05_wrong_texts_of_ways) (w := w) (base := base) T D_Reader___init__ cR (He.meth_ok (cd.fact 163 (f := .meth "Reader" "__init__") rfl)) ft fl fm fp
  have r_next := ok_next (P := PySem.Challenge.pw_waystaken_k05_wrong_texts_of_ways) (w := w) (base := base) T D_Reader_next_sign cR (He.meth_ok (cd.fact 164 (f := .meth "Reader" "next_sign") rfl)) ft fp
  have r_islet := ok_islet (P := PySem.Challenge.pw_waystaken_k05_wrong_texts_of_ways) (w := w) (base := base) T gL D_Reader_is_letter cR (He.meth_ok (cd.fact 168 (f := .meth "Reader" "is_letter") rfl)) ft fp
  have r_begins := ok_begins T gL r_next D_Reader_begins cR (He.meth_ok (cd.fact 169 (f := .meth "Reader" "begins") rfl))
  have r_refuse := ok_refuse (k := 3) T (by decide) x_BadText D_Reader_refuse cR (He.meth_ok (cd.fact 165 (f := .meth "Reader" "refuse") rfl)) fl fp
  have r_step := ok_stepover (k := 4) T (by decide) r_next r_refuse D_Reader_step_over cR (He.meth_ok (cd.fact 166 (f := .meth "Reader" "step_over") rfl)) fp
  have r_name := ok_readname (k := 4) T gN (by decide) r_next r_islet r_refuse D_Reader_read_name cR (He.meth_ok (cd.fact 167 (f := .meth "Reader" "read_name") rfl)) ft fp
  have r_end := ok_readend (k := 4) T (by decide) r_next r_refuse D_Reader_read_end cR (He.meth_ok (cd.fact 176 (f := .meth "Reader" "read_end") rfl))
  have r_look := ok_looks T gL gmk gWd hWd f_wof r_next r_begins r_refuse r_name r_step D_Reader_read_look D_Reader_read_row D_Reader_read_choice D_Reader_read_brackets D_Reader_read_one D_Reader_read_repeat cR (He.meth_ok (cd.fact 172 (f := .meth "Reader" "read_look") rfl)) (He.meth_ok (cd.fact 170 (f := .meth "Reader" "read_row") rfl)) (He.meth_ok (cd.fact 171 (f := .meth "Reader" "read_choice") rfl)) (He.meth_ok (cd.fact 175 (f := .meth "Reader" "read_brackets") rfl)) (He.meth_ok (cd.fact 174 (f := .meth "Reader" "read_one") rfl)) (He.meth_ok (cd.fact 173 (f := .meth "Reader" "read_repeat") rfl)) fp fm 26
  have r_choice := ok_choices T gmk f_wof r_next r_begins D_Reader_read_row D_Reader_read_choice cR (He.meth_ok (cd.fact 170 (f := .meth "Reader" "read_row") rfl)) (He.meth_ok (cd.fact 171 (f := .meth "Reader" "read_choice") rfl)) fp fm r_look
  have r_way := readWay_of (ok_readway (k := 7 + 6 * 26) T (by decide) (He.glo_ok X G (cd.fact 153 (f := .glo "Reader") rfl)) (mk_of (He.mkr_ok (cd.fact 155 (f := .mkr "Reader") rfl))) r_init r_choice r_end D_read_way)
  have r_read := ok_wayread T gmk r_way D_cm_Way_read
  have f_skip := ok_skip (P := PySem.Challenge.pw_waystaken_k05_wrong_texts_of_ways) (w := w) (base := base) T D__law_skip
  have f_begins := ok_begins5 (P := PySem.Challenge.pw_waystaken_k05_wrong_texts_of_ways) (w := w) (base := base) T D__law_begins
  have f_call := ok_call5 T f_skip D__law_read_call
  have f_look26 := ok_looks5 T f_skip f_begins f_call D__law_read_look D__law_read_row D__law_read_choice D__law_read_one 26
  have f_row26 := ok_row5 (k := 106) T (by decide) (by decide) f_skip f_begins f_look26 D__law_read_row
  have f_choice := ok_choice5 (k := 107) T (by decide) (by decide) f_skip f_row26 D__law_read_choice
  have f_due := ok_due5 (n := 26) (S := 50) (k := 108) T (by decide) (by decide) (by decide) f_skip f_choice f_made5 D__law_due
  have gWE : mg "WayError" = some (.ref (He.ga K "WayError")) := He.glo_ok X G (cd.fact 151 (f := .glo "WayError") rfl)
  have f_told := ok_told5 (k := 165) T (by decide) gW gWE x_BadText ⟨X_BadText.xf, X_BadText.no _ (by simp)⟩ ⟨X_BadText.xf, X_BadText.no _ (by simp)⟩ X_BadText.xi (of_decide_eq_true c_e_BadText) (of_decide_eq_true c_k_BadText) r_read D__law_told
  have f_bent := ok_bent5 T f_draw f_pick D__law_bent
  exact ok_law T gW weq (of_decide_eq_true c_int_Way) f_draw f_pen f_signs f_way f_made f_told f_due f_bent f_eq f_str F41

end K05
open PySem PySem.W PySem.Calls PyProof.Rows
theorem PySem.Challenge.cw_waystaken_k05_wrong_texts_of_ways_holds : PySem.Challenge.rw_waystaken_k05_wrong_texts_of_ways.Holds := by
  w_on; o_law
  refine HandSHeadRun.head_any (r := OpenLaw.row PySem.Challenge.rw_waystaken_k05_wrong_texts_of_ways) (q := view (OpenLaw.row PySem.Challenge.rw_waystaken_k05_wrong_texts_of_ways).prog [47]) (H := K05.hk) (ob := K05.ob) (M := 20000) (loose := K05.loose) (d := HandSHeadRun.topDef (OpenLaw.row PySem.Challenge.rw_waystaken_k05_wrong_texts_of_ways).prog 47) (kwd := []) K05.ob_eq
    (by kernel_rfl) (fun s => by kernel_rfl) K05.run (by kernel_rfl) (by kernel_rfl) (by kernel_rfl) (by rfl) (by first | assumption | decide +kernel) (by decide +kernel) ⟨rfl, rfl, rfl, rfl, rfl, by decide +kernel⟩ ?hw ?hc
  case hw => w_witness2
  case hc =>
    refine L2.walk_ofE (l := PySem.Challenge.rw_waystaken_k05_wrong_texts_of_ways) (n := 63) (k := 220) (x := "_law_script") (CX := L2.CX0) rfl (by decide) (by kernel_rfl) ⟨rfl, by decide, by decide⟩ ?F (fun _ _ _ _ z => z)
    intro w mg fa h Y G hmg0
    obtain ⟨K, KX, c⟩ := Y
    have hmg : mg ("law" : PySem.Str) = some (.ref fa) := by
      have e : (HandSHeadRun.topDef (OpenLaw.row PySem.Challenge.rw_waystaken_k05_wrong_texts_of_ways).prog 47).name = ("law" : PySem.Str) := by kernel_rfl
      rw [← e]
      exact hmg0
    obtain ⟨fd, hb, hF⟩ := K05.facts (w := w) KX G hmg c
    exact ⟨K, fd, DL.LSp K DL.spTrue, KX, hb, fun H a ns hl _ hS => DL.law_start hl hS (fun _ => rfl), hF⟩
