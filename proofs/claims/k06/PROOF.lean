import PyProof.Rows.All
import Wide.All
import OpenK.AllK
import Wide.FinOn
import KE.KStateDown
import Lean
import HandS.ForMost
import HandS.WordsExc
import HandS.Defaults
import HandS.Style
import HandS.Wide
import HandS.IsInst
import HandS.NestedK
import HandS.ClsMeth
import KE.KSuper
import KE.GoesMore
import HandS.Star
import HandS.Head0
import HandS.Head1
import HandS.Head2
import HandS.HeadEnd
import HandS.HeadHook1
import HandS.HeadHook2
import PySem.Challenge.RW_waystaken_k06_takes_of_short_texts
set_option Elab.async false
set_option linter.all false
set_option maxRecDepth 100000
set_option maxHeartbeats 1000000
/-! DL1: values as trees (D), what is mutable (Mem), the slots of a def (Sl); readings over these, lifted to the hand layer's. -/
namespace DL
open PySem PySem.Spec PyProof.Rows L2

/-- a value as a tree; ref: a thing that is known by its address alone -/
inductive D where
  | non | bl (b : Bool) | int (i : Int) | str (s : Str) | ref (a : Addr) | ty (n : String)
  | tup (ds : List D) | lst (ds : List D) | lstK (ds : List D) | obj (C : Addr) (ns : List Str) (ds : List D)

mutual
def Rep (K : PySem.W.Frag) (S : Hp) : D → V → Prop
  | .non, v => v = .non
  | .bl b, v => v = .bl b
  | .int i, v => v = .int i
  | .str s, v => v = .str s
  | .ref a, v => v = .ref a
  | .ty n, v => v = .ty n
  | .tup ds, v => ∃ a xs, v = .ref a ∧ SqT K S a xs ∧ Reps K S ds xs
  | .lst ds, v => ∃ a xs, v = .ref a ∧ S a = some (.lst xs) ∧ Reps K S ds xs
  | .lstK ds, v => ∃ a xs, v = .ref a ∧ SqL K S a xs ∧ Reps K S ds xs
  | .obj C ns ds, v => ∃ a dx xs, v = .ref a ∧ S a = some (.ins C dx (ns.zip xs)) ∧ xs.length = ns.length ∧ Reps K S ds xs
def Reps (K : PySem.W.Frag) (S : Hp) : List D → List V → Prop
  | [], [] => True
  | d :: ds, v :: vs => Rep K S d v ∧ Reps K S ds vs
  | _, _ => False
end

theorem Same.tup {K : PySem.W.Frag} {H H' : Hp} {a : Addr} {xs : List V} (e : Same H H') (h : SqT K H a xs) : SqT K H' a xs := by
  rcases h with (h | ⟨o, h⟩) | h
  · exact .inl (.inl (e _ _ h))
  · exact .inl (.inr ⟨o, e _ _ h⟩)
  · exact .inr h

section
variable {K : PySem.W.Frag} {S S' : Hp}
mutual
theorem Rep.mono (e : Same S S') : ∀ {d : D} {v : V}, Rep K S d v → Rep K S' d v
  | .non, _, h => h
  | .bl _, _, h => h
  | .int _, _, h => h
  | .str _, _, h => h
  | .ref _, _, h => h
  | .ty _, _, h => h
  | .tup ds, v, h => by
    obtain ⟨a, xs, r, q, t⟩ := h
    exact ⟨a, xs, r, Same.tup e q, Reps.mono e t⟩
  | .lst ds, v, h => by
    obtain ⟨a, xs, r, q, t⟩ := h
    exact ⟨a, xs, r, e _ _ q, Reps.mono e t⟩
  | .lstK ds, v, h => by
    obtain ⟨a, xs, r, q, t⟩ := h
    exact ⟨a, xs, r, L2.Same.seq e q, Reps.mono e t⟩
  | .obj C ns ds, v, h => by
    obtain ⟨a, dx, xs, r, q, l, t⟩ := h
    exact ⟨a, dx, xs, r, e _ _ q, l, Reps.mono e t⟩
theorem Reps.mono (e : Same S S') : ∀ {ds : List D} {vs : List V}, Reps K S ds vs → Reps K S' ds vs
  | [], [], _ => trivial
  | d :: ds, v :: vs, h => ⟨Rep.mono e h.1, Reps.mono e h.2⟩
  | [], _ :: _, h => h
  | _ :: _, [], h => h
end
theorem Reps.length : ∀ {ds : List D} {vs : List V}, Reps K S ds vs → ds.length = vs.length
  | [], [], _ => rfl
  | _ :: _, _ :: _, h => congrArg Nat.succ (Reps.length h.2)
  | [], _ :: _, h => h.elim
  | _ :: _, [], h => h.elim
theorem Reps.append : ∀ {ds es : List D} {vs us : List V}, Reps K S ds vs → Reps K S es us → Reps K S (ds ++ es) (vs ++ us)
  | [], _, [], _, _, h => h
  | _ :: _, _, _ :: _, _, h, q => ⟨h.1, Reps.append h.2 q⟩
  | [], _, _ :: _, _, h, _ => h.elim
  | _ :: _, _, [], _, h, _ => h.elim
theorem Reps.take : ∀ {ds : List D} {vs : List V} (n : Nat), Reps K S ds vs → Reps K S (ds.take n) (vs.take n)
  | _, _, 0, _ => by rw [List.take_zero, List.take_zero]; trivial
  | [], [], n + 1, _ => trivial
  | _ :: _, _ :: _, n + 1, h => ⟨h.1, Reps.take n h.2⟩
  | [], _ :: _, _ + 1, h => h.elim
  | _ :: _, [], _ + 1, h => h.elim
theorem Reps.drop : ∀ {ds : List D} {vs : List V} (n : Nat), Reps K S ds vs → Reps K S (ds.drop n) (vs.drop n)
  | _, _, 0, h => by rw [List.drop_zero, List.drop_zero]; exact h
  | [], [], n + 1, _ => trivial
  | _ :: _, _ :: _, n + 1, h => Reps.drop n h.2
  | [], _ :: _, _ + 1, h => h.elim
  | _ :: _, [], _ + 1, h => h.elim
theorem Reps.get : ∀ {ds : List D} {vs : List V} {i : Nat} {d : D}, Reps K S ds vs → ds[i]? = some d → ∃ v, vs[i]? = some v ∧ Rep K S d v
  | [], [], _, _, _, e => by simp at e
  | _ :: _, v :: _, 0, _, h, e => by
    simp at e
    subst e
    exact ⟨v, rfl, h.1⟩
  | _ :: _, _ :: _, i + 1, _, h, e => by
    obtain ⟨v, e1, r⟩ := Reps.get (i := i) h.2 (by simpa using e)
    exact ⟨v, by simpa using e1, r⟩
  | [], _ :: _, _, _, h, _ => h.elim
  | _ :: _, [], _, _, h, _ => h.elim
theorem Reps.get' : ∀ {ds : List D} {vs : List V} {i : Nat} {v : V}, Reps K S ds vs → vs[i]? = some v → ∃ d, ds[i]? = some d ∧ Rep K S d v
  | [], [], _, _, _, e => by simp at e
  | d :: _, _ :: _, 0, _, h, e => by
    simp at e
    subst e
    exact ⟨d, rfl, h.1⟩
  | _ :: _, _ :: _, i + 1, _, h, e => by
    obtain ⟨v, e1, r⟩ := Reps.get' (i := i) h.2 (by simpa using e)
    exact ⟨v, by simpa using e1, r⟩
  | [], _ :: _, _, _, h, _ => h.elim
  | _ :: _, [], _, _, h, _ => h.elim
theorem Reps.set : ∀ {ds : List D} {vs : List V} {d : D} {v : V} (i : Nat), Reps K S ds vs → Rep K S d v → Reps K S (ds.set i d) (vs.set i v)
  | [], [], _, _, _, _, _ => trivial
  | _ :: _, _ :: _, _, _, 0, h, r => ⟨r, h.2⟩
  | _ :: _, _ :: _, _, _, i + 1, h, r => ⟨h.1, Reps.set i h.2 r⟩
  | [], _ :: _, _, _, _, h, _ => h.elim
  | _ :: _, [], _, _, _, h, _ => h.elim
theorem Reps.one {d : D} {vs : List V} (h : Reps K S [d] vs) : ∃ v, vs = [v] ∧ Rep K S d v := by
  cases vs with
  | nil => exact h.elim
  | cons v r =>
    cases r with
    | nil => exact ⟨v, rfl, h.1⟩
    | cons _ _ => exact h.2.elim
theorem Reps.two {d e : D} {vs : List V} (h : Reps K S [d, e] vs) : ∃ v u, vs = [v, u] ∧ Rep K S d v ∧ Rep K S e u := by
  cases vs with
  | nil => exact h.elim
  | cons v r =>
    obtain ⟨u, rfl, q⟩ := Reps.one h.2
    exact ⟨v, u, rfl, h.1, q⟩
theorem Reps.cons_inv {d : D} {ds : List D} {vs : List V} (h : Reps K S (d :: ds) vs) : ∃ v us, vs = v :: us ∧ Rep K S d v ∧ Reps K S ds us := by
  cases vs with
  | nil => exact h.elim
  | cons v r => exact ⟨v, r, rfl, h.1, h.2⟩
theorem Reps.nil_inv {vs : List V} (h : Reps K S [] vs) : vs = [] := by
  cases vs with
  | nil => rfl
  | cons _ _ => exact h.elim
/-- the script's ints -/
theorem Reps.ints : ∀ (ns : List Int), Reps K S (ns.map D.int) (ns.map V.int)
  | [] => trivial
  | _ :: r => ⟨rfl, Reps.ints r⟩
end

/-- what is mutable and known by its address -/
inductive MO where
  | lst (ds : List D)
  | dK (ks : List Key) (ds : List D)
  | ins (C : Addr) (ns : List Str) (ds : List D)
abbrev Mem := Addr → Option MO
def mset (M : Mem) (a : Addr) (o : MO) : Mem := fun b => if b = a then some o else M b
theorem mset_same {M : Mem} {a : Addr} {o : MO} : mset M a o a = some o := by unfold mset; rw [if_pos rfl]
theorem mset_ne {M : Mem} {a b : Addr} {o : MO} (h : b ≠ a) : mset M a o b = M b := by unfold mset; rw [if_neg h]
theorem mset_mset {M : Mem} {a : Addr} {o u : MO} : mset (mset M a o) a u = mset M a u := by
  funext b
  unfold mset
  split <;> rfl
def m0 : Mem := fun _ => none
/-- one thing alone -/
def mone (a : Addr) (o : MO) : Mem := mset m0 a o
theorem mone_same {a : Addr} {o : MO} : mone a o a = some o := mset_same
theorem mone_set {a : Addr} {o u : MO} : mset (mone a o) a u = mone a u := mset_mset

def MOk (K : PySem.W.Frag) (S H : Hp) (a : Addr) : MO → Prop
  | .lst ds => ∃ xs, H a = some (.lst xs) ∧ Reps K S ds xs
  | .dK ks ds => ∃ xs, H a = some (.dK (ks.zip xs)) ∧ xs.length = ks.length ∧ Reps K S ds xs
  | .ins C ns ds => ∃ dx xs, H a = some (.ins C dx (ns.zip xs)) ∧ xs.length = ns.length ∧ Reps K S ds xs
theorem MOk.some {K : PySem.W.Frag} {S H : Hp} {a : Addr} {o : MO} (h : MOk K S H a o) : ∃ u, H a = some u := by
  cases o with
  | lst ds => obtain ⟨xs, e, _⟩ := h; exact ⟨_, e⟩
  | dK ks ds => obtain ⟨xs, e, _⟩ := h; exact ⟨_, e⟩
  | ins C ns ds => obtain ⟨dx, xs, e, _⟩ := h; exact ⟨_, e⟩
theorem MOk.mono {K : PySem.W.Frag} {S S' H H' : Hp} {a : Addr} {o : MO} (h : MOk K S H a o) (e : Same S S') (q : H' a = H a) : MOk K S' H' a o := by
  cases o with
  | lst ds => obtain ⟨xs, e1, r⟩ := h; exact ⟨xs, q.trans e1, r.mono e⟩
  | dK ks ds => obtain ⟨xs, e1, l, r⟩ := h; exact ⟨xs, q.trans e1, l, r.mono e⟩
  | ins C ns ds => obtain ⟨dx, xs, e1, l, r⟩ := h; exact ⟨dx, xs, q.trans e1, l, r.mono e⟩

/-- the heap's parts: S never changes, M is mutable, F is the callers' -/
structure RelC (K : PySem.W.Frag) (F S H : Hp) (M : Mem) : Prop where
  same : Same S H
  fr : ∀ a o, F a = some o → H a = some o ∧ S a = none ∧ M a = none
  mem : ∀ a o, M a = some o → S a = none ∧ MOk K S H a o
theorem RelC.sfree {K : PySem.W.Frag} {F S H : Hp} {M : Mem} (R : RelC K F S H M) {p : Addr} (h : H p = none) : S p = none := R.same.free h
theorem RelC.ffree {K : PySem.W.Frag} {F S H : Hp} {M : Mem} (R : RelC K F S H M) {p : Addr} (h : H p = none) : F p = none := by
  cases e : F p with
  | none => rfl
  | some o => rw [(R.fr p o e).1] at h; cases h
theorem RelC.mfree {K : PySem.W.Frag} {F S H : Hp} {M : Mem} (R : RelC K F S H M) {p : Addr} (h : H p = none) : M p = none := by
  cases e : M p with
  | none => rfl
  | some o =>
    obtain ⟨u, q⟩ := (R.mem p o e).2.some
    rw [q] at h
    cases h

/-- a slot of a def: unset, a value, a list of one's own -/
inductive Sl where
  | no | val (d : D) | own (ds : List D)
abbrev Ev := List Sl
@[reducible] def look : Ev → Nat → Sl
  | [], _ => .no
  | s :: _, 0 => s
  | _ :: r, n + 1 => look r n
@[reducible] def put : Ev → Nat → Sl → Ev
  | [], _, _ => []
  | _ :: r, 0, x => x :: r
  | s :: r, n + 1, x => s :: put r n x
theorem put_length (x : Sl) : ∀ (e : Ev) (i : Nat), (put e i x).length = e.length
  | [], _ => rfl
  | _ :: _, 0 => rfl
  | _ :: r, n + 1 => congrArg Nat.succ (put_length x r n)
theorem look_put_same {x : Sl} : ∀ {e : Ev} {i : Nat}, i < e.length → look (put e i x) i = x
  | [], _, h => absurd h (Nat.not_lt_zero _)
  | _ :: _, 0, _ => rfl
  | _ :: r, n + 1, h => look_put_same (e := r) (Nat.lt_of_succ_lt_succ h)
theorem look_put_ne {x : Sl} : ∀ {e : Ev} {i j : Nat}, i ≠ j → look (put e i x) j = look e j
  | [], _, _, _ => rfl
  | _ :: _, 0, 0, h => absurd rfl h
  | _ :: _, 0, _ + 1, _ => rfl
  | _ :: _, _ + 1, 0, _ => rfl
  | _ :: r, n + 1, m + 1, h => look_put_ne (e := r) (fun q => h (congrArg Nat.succ q))
theorem look_lt : ∀ {e : Ev} {i : Nat} {s : Sl}, look e i = s → s ≠ .no → i < e.length
  | [], _, _, h, n => absurd h.symm n
  | _ :: _, 0, _, _, _ => Nat.succ_pos _
  | _ :: r, n + 1, _, h, q => Nat.succ_lt_succ (look_lt (e := r) h q)

structure Rel (K : PySem.W.Frag) (F S : Hp) (σ : L2.St) (H : Hp) (env : Ev) (M : Mem) : Prop where
  c : RelC K F S H M
  len : env.length = σ.length
  val : ∀ i d, look env i = .val d → ∃ v, σ[i]? = some (some v) ∧ Rep K S d v
  own : ∀ i ds, look env i = .own ds → ∃ a xs, σ[i]? = some (some (.ref a)) ∧ H a = some (.lst xs) ∧ S a = none ∧ M a = none ∧ F a = none ∧ Reps K S ds xs
  dis : ∀ i j a ds es, i ≠ j → look env i = .own ds → look env j = .own es → σ[i]? = some (some (.ref a)) → σ[j]? ≠ some (some (.ref a))

/-- the abstract heap grows by a thing that never changes -/
theorem RelC.new {K : PySem.W.Frag} {F S H : Hp} {M : Mem} (R : RelC K F S H M) {p : Addr} {o : HO} (h : H p = none) : RelC K F (upd S p o) (upd H p o) M ∧ Same S (upd S p o) := by
  have sp := R.sfree h
  have fp := R.ffree h
  have mp := R.mfree h
  have ss : Same S (upd S p o) := fun b u e => by rw [upd_ne (fun z => by rw [z, sp] at e; cases e)]; exact e
  refine ⟨⟨fun b u e => ?_, fun b u e => ?_, fun b u e => ?_⟩, ss⟩
  · by_cases hb : b = p
    · subst hb; rw [upd_same] at e ⊢; exact e
    · rw [upd_ne hb] at e ⊢; exact R.same b u e
  · have hb : b ≠ p := fun z => by rw [z, fp] at e; cases e
    rw [upd_ne hb, upd_ne hb]
    exact R.fr b u e
  · have hb : b ≠ p := fun z => by rw [z, mp] at e; cases e
    rw [upd_ne hb]
    exact ⟨(R.mem b u e).1, (R.mem b u e).2.mono ss (upd_ne hb)⟩
/-- .. by something that nobody names -/
theorem RelC.more {K : PySem.W.Frag} {F S H H' : Hp} {M : Mem} (R : RelC K F S H M) (k : Same H H') : RelC K F S H' M := by
  refine ⟨R.same.trans k, fun b u e => ⟨k _ _ (R.fr b u e).1, (R.fr b u e).2⟩, fun b u e => ?_⟩
  obtain ⟨h1, h2⟩ := R.mem b u e
  obtain ⟨o, ho⟩ := h2.some
  exact ⟨h1, h2.mono (Same.refl _) ((k _ _ ho).trans ho.symm)⟩
theorem RelC.newM {K : PySem.W.Frag} {F S H : Hp} {M : Mem} (R : RelC K F S H M) {p : Addr} {o : HO} {m : MO} (h : H p = none) (hm : MOk K S (upd H p o) p m) : RelC K F S (upd H p o) (mset M p m) := by
  have sp := R.sfree h
  have fp := R.ffree h
  refine ⟨fun b u e => ?_, fun b u e => ?_, fun b u e => ?_⟩
  · rw [upd_ne (fun z => by rw [z, sp] at e; cases e)]; exact R.same b u e
  · have hb : b ≠ p := fun z => by rw [z, fp] at e; cases e
    rw [upd_ne hb, mset_ne hb]
    exact R.fr b u e
  · by_cases hb : b = p
    · subst hb
      rw [mset_same] at e
      cases e
      exact ⟨sp, hm⟩
    · rw [mset_ne hb] at e
      exact ⟨(R.mem b u e).1, (R.mem b u e).2.mono (Same.refl _) (upd_ne hb)⟩
/-- a mutable thing changes -/
theorem RelC.setM {K : PySem.W.Frag} {F S H : Hp} {M : Mem} (R : RelC K F S H M) {p : Addr} {o : HO} {m m' : MO} (h : M p = some m) (hm : MOk K S (upd H p o) p m') : RelC K F S (upd H p o) (mset M p m') := by
  have sp := (R.mem p m h).1
  refine ⟨fun b u e => ?_, fun b u e => ?_, fun b u e => ?_⟩
  · rw [upd_ne (fun z => by rw [z, sp] at e; cases e)]; exact R.same b u e
  · have hb : b ≠ p := fun z => by rw [z] at e; rw [(R.fr p u e).2.2] at h; cases h
    rw [upd_ne hb, mset_ne hb]
    exact R.fr b u e
  · by_cases hb : b = p
    · subst hb
      rw [mset_same] at e
      cases e
      exact ⟨sp, hm⟩
    · rw [mset_ne hb] at e
      exact ⟨(R.mem b u e).1, (R.mem b u e).2.mono (Same.refl _) (upd_ne hb)⟩

section
variable {K : PySem.W.Frag} {F S H : Hp} {M : Mem} {σ : L2.St} {env : Ev}
/-- the def's slots stay, the heap's parts move on -/
theorem Rel.grow {S' H' : Hp} {M' : Mem} (R : Rel K F S σ H env M) (c : RelC K F S' H' M') (ss : Same S S')
    (ko : ∀ i a, σ[i]? = some (some (.ref a)) → (∃ ds, look env i = .own ds) → H' a = H a ∧ S' a = none ∧ M' a = none) : Rel K F S' σ H' env M' := by
  refine ⟨c, R.len, fun i d e => ?_, fun i ds e => ?_, R.dis⟩
  · obtain ⟨v, e1, r⟩ := R.val i d e
    exact ⟨v, e1, r.mono ss⟩
  · obtain ⟨a, xs, e1, e2, e3, e4, e5, r⟩ := R.own i ds e
    obtain ⟨k1, k2, k3⟩ := ko i a e1 ⟨ds, e⟩
    exact ⟨a, xs, e1, k1.trans e2, k2, k3, e5, r.mono ss⟩
theorem Rel.ownNe (R : Rel K F S σ H env M) {i : Nat} {a p : Addr} (e : σ[i]? = some (some (.ref a))) (h : ∃ ds, look env i = .own ds) (hp : H p = none) : a ≠ p := by
  obtain ⟨ds, h⟩ := h
  obtain ⟨b, xs, e1, e2, _⟩ := R.own i ds h
  rw [e] at e1
  cases e1
  exact ne_of_none e2 hp
theorem Rel.new (R : Rel K F S σ H env M) {p : Addr} {o : HO} (h : H p = none) : Rel K F (upd S p o) σ (upd H p o) env M ∧ Same S (upd S p o) := by
  obtain ⟨c, ss⟩ := R.c.new (o := o) h
  refine ⟨R.grow c ss fun i a e hi => ?_, ss⟩
  have n := R.ownNe e hi h
  obtain ⟨ds, hi⟩ := hi
  obtain ⟨b, xs, e1, e2, e3, e4, _⟩ := R.own i ds hi
  rw [e] at e1
  cases e1
  exact ⟨upd_ne n, by rw [upd_ne n]; exact e3, e4⟩
theorem Rel.more (R : Rel K F S σ H env M) {H' : Hp} (k : Same H H') : Rel K F S σ H' env M := by
  refine R.grow (R.c.more k) (Same.refl _) fun i a e hi => ?_
  obtain ⟨ds, hi⟩ := hi
  obtain ⟨b, xs, e1, e2, e3, e4, _⟩ := R.own i ds hi
  rw [e] at e1
  cases e1
  exact ⟨(k _ _ e2).trans e2.symm, e3, e4⟩
theorem Rel.newM (R : Rel K F S σ H env M) {p : Addr} {o : HO} {m : MO} (h : H p = none) (hm : MOk K S (upd H p o) p m) : Rel K F S σ (upd H p o) env (mset M p m) := by
  refine R.grow (R.c.newM h hm) (Same.refl _) fun i a e hi => ?_
  have n := R.ownNe e hi h
  obtain ⟨ds, hi⟩ := hi
  obtain ⟨b, xs, e1, e2, e3, e4, _⟩ := R.own i ds hi
  rw [e] at e1
  cases e1
  exact ⟨upd_ne n, e3, by rw [mset_ne n]; exact e4⟩
theorem Rel.setM (R : Rel K F S σ H env M) {p : Addr} {o : HO} {m m' : MO} (h : M p = some m) (hm : MOk K S (upd H p o) p m') : Rel K F S σ (upd H p o) env (mset M p m') := by
  refine R.grow (R.c.setM h hm) (Same.refl _) fun i a e hi => ?_
  obtain ⟨ds, hi⟩ := hi
  obtain ⟨b, xs, e1, e2, e3, e4, _⟩ := R.own i ds hi
  rw [e] at e1
  cases e1
  have n : a ≠ p := fun z => by rw [z, h] at e4; cases e4
  exact ⟨upd_ne n, e3, by rw [mset_ne n]; exact e4⟩
/-- a slot gets a value -/
theorem Rel.store (R : Rel K F S σ H env M) {i : Nat} {d : D} {v : V} (r : Rep K S d v) : Rel K F S (σ.set i (some v)) H (put env i (.val d)) M := by
  refine ⟨R.c, by rw [put_length, List.length_set]; exact R.len, fun j e q => ?_, fun j ds q => ?_, fun j k a ds es n q1 q2 e => ?_⟩
  · by_cases h : i = j
    · subst h
      have hi : i < env.length := by have := look_lt q (fun z => by cases z); rwa [put_length] at this
      rw [look_put_same hi] at q
      cases q
      exact ⟨v, by rw [List.getElem?_set_self (by rw [← R.len]; exact hi)], r⟩
    · rw [look_put_ne h] at q
      obtain ⟨u, e1, r1⟩ := R.val j e q
      exact ⟨u, by rw [List.getElem?_set_ne h]; exact e1, r1⟩
  · by_cases h : i = j
    · subst h
      have hi : i < env.length := by have := look_lt q (fun z => by cases z); rwa [put_length] at this
      rw [look_put_same hi] at q
      cases q
    · rw [look_put_ne h] at q
      obtain ⟨a, xs, e1, x⟩ := R.own j ds q
      exact ⟨a, xs, by rw [List.getElem?_set_ne h]; exact e1, x⟩
  · have hj : i ≠ j := fun h => by
      subst h
      have hi : i < env.length := by have := look_lt q1 (fun z => by cases z); rwa [put_length] at this
      rw [look_put_same hi] at q1
      cases q1
    have hk : i ≠ k := fun h => by
      subst h
      have hi : i < env.length := by have := look_lt q2 (fun z => by cases z); rwa [put_length] at this
      rw [look_put_same hi] at q2
      cases q2
    rw [look_put_ne hj] at q1
    rw [look_put_ne hk] at q2
    rw [List.getElem?_set_ne hj] at e
    rw [List.getElem?_set_ne hk]
    exact R.dis j k a ds es n q1 q2 e
/-- a slot gets a list of its own: new, or one that no slot holds any more -/
theorem Rel.storeOwn (R : Rel K F S σ H env M) {i : Nat} {ds : List D} {a : Addr} {xs : List V} (e2 : H a = some (.lst xs)) (e3 : S a = none) (e4 : M a = none) (e5 : F a = none) (r : Reps K S ds xs)
    (nw : ∀ j es, look env j = .own es → j ≠ i → σ[j]? ≠ some (some (.ref a))) : Rel K F S (σ.set i (some (.ref a))) H (put env i (.own ds)) M := by
  refine ⟨R.c, by rw [put_length, List.length_set]; exact R.len, fun j e q => ?_, fun j es q => ?_, fun j k b es fs n q1 q2 e => ?_⟩
  · by_cases h : i = j
    · subst h
      have hi : i < env.length := by have := look_lt q (fun z => by cases z); rwa [put_length] at this
      rw [look_put_same hi] at q
      cases q
    · rw [look_put_ne h] at q
      obtain ⟨u, e1, r1⟩ := R.val j e q
      exact ⟨u, by rw [List.getElem?_set_ne h]; exact e1, r1⟩
  · by_cases h : i = j
    · subst h
      have hi : i < env.length := by have := look_lt q (fun z => by cases z); rwa [put_length] at this
      rw [look_put_same hi] at q
      cases q
      exact ⟨a, xs, by rw [List.getElem?_set_self (by rw [← R.len]; exact hi)], e2, e3, e4, e5, r⟩
    · rw [look_put_ne h] at q
      obtain ⟨b, ys, e1, x⟩ := R.own j es q
      exact ⟨b, ys, by rw [List.getElem?_set_ne h]; exact e1, x⟩
  · by_cases hj : i = j
    · subst hj
      have hi : i < env.length := by have := look_lt q1 (fun z => by cases z); rwa [put_length] at this
      rw [List.getElem?_set_self (by rw [← R.len]; exact hi)] at e
      cases e
      rw [look_put_ne n] at q2
      rw [List.getElem?_set_ne n]
      exact nw k fs q2 (Ne.symm n)
    · rw [look_put_ne hj] at q1
      rw [List.getElem?_set_ne hj] at e
      by_cases hk : i = k
      · subst hk
        have hi : i < env.length := by have := look_lt q2 (fun z => by cases z); rwa [put_length] at this
        rw [List.getElem?_set_self (by rw [← R.len]; exact hi)]
        intro z
        cases z
        exact nw j es q1 (Ne.symm hj) e
      · rw [look_put_ne hk] at q2
        rw [List.getElem?_set_ne hk]
        exact R.dis j k b es fs n q1 q2 e
/-- a list of one's own is handed out: it never changes from now on -/
theorem Rel.freeze (R : Rel K F S σ H env M) {i : Nat} {ds : List D} (q : look env i = .own ds) : ∃ a xs, σ[i]? = some (some (.ref a)) ∧ H a = some (.lst xs) ∧
    Same S (upd S a (.lst xs)) ∧ Rel K F (upd S a (.lst xs)) σ H (put env i (.val (.lst ds))) M ∧ Rep K (upd S a (.lst xs)) (.lst ds) (.ref a) := by
  obtain ⟨a, xs, e1, e2, e3, e4, e5, r⟩ := R.own i ds q
  have hi : i < env.length := look_lt q (fun z => by cases z)
  have ss : Same S (upd S a (.lst xs)) := fun b u e => by rw [upd_ne (fun z => by rw [z, e3] at e; cases e)]; exact e
  have rp : Rep K (upd S a (.lst xs)) (.lst ds) (.ref a) := ⟨a, xs, rfl, upd_same, r.mono ss⟩
  refine ⟨a, xs, e1, e2, ss, ⟨⟨fun b u e => ?_, fun b u e => ?_, fun b u e => ?_⟩, by rw [put_length]; exact R.len, fun j e q' => ?_, fun j es q' => ?_, fun j k b es fs n q1 q2 e => ?_⟩, rp⟩
  · by_cases hb : b = a
    · subst hb; rw [upd_same] at e; cases e; exact e2
    · rw [upd_ne hb] at e; exact R.c.same b u e
  · have hb : b ≠ a := fun z => by rw [z, e5] at e; cases e
    rw [upd_ne hb]
    exact R.c.fr b u e
  · have hb : b ≠ a := fun z => by rw [z, e4] at e; cases e
    rw [upd_ne hb]
    exact ⟨(R.c.mem b u e).1, (R.c.mem b u e).2.mono ss rfl⟩
  · by_cases h : i = j
    · subst h
      rw [look_put_same hi] at q'
      cases q'
      exact ⟨_, e1, rp⟩
    · rw [look_put_ne h] at q'
      obtain ⟨u, e', r1⟩ := R.val j e q'
      exact ⟨u, e', r1.mono ss⟩
  · by_cases h : i = j
    · subst h
      rw [look_put_same hi] at q'
      cases q'
    · rw [look_put_ne h] at q'
      obtain ⟨b, ys, f1, f2, f3, f4, f5, r1⟩ := R.own j es q'
      have hb : b ≠ a := fun z => by rw [z] at f1; exact R.dis i j a ds es h q q' e1 f1
      exact ⟨b, ys, f1, f2, by rw [upd_ne hb]; exact f3, f4, f5, r1.mono ss⟩
  · have hj : i ≠ j := fun h => by
      subst h
      rw [look_put_same hi] at q1
      cases q1
    have hk : i ≠ k := fun h => by
      subst h
      rw [look_put_same hi] at q2
      cases q2
    rw [look_put_ne hj] at q1
    rw [look_put_ne hk] at q2
    exact R.dis j k b es fs n q1 q2 e
end

/-- not -/
@[reducible] def nb : Bool → Bool
  | true => false
  | false => true
theorem nb_eq (b : Bool) : nb b = !b := by cases b <;> rfl

/-! ### lifted readings -/
abbrev KD := D → Ev → Mem → Prop
abbrev DT := Ev → Mem → KD → Prop
def PostE (K : PySem.W.Frag) (F S : Hp) (σ : L2.St) (Qd : KD) (Q : VK) : Prop :=
  ∀ v H' S' env' M' d, Same S S' → Rel K F S' σ H' env' M' → Rep K S' d v → Qd d env' M' → Q v H'
theorem PostE.up {K : PySem.W.Frag} {F S S1 : Hp} {σ : L2.St} {Qd : KD} {Q : VK} (p : PostE K F S σ Qd Q) (s : Same S S1) : PostE K F S1 σ Qd Q := fun v H' S' env' M' d s' R r q => p v H' S' env' M' d (s.trans s') R r q
def LE (K : PySem.W.Frag) (t : DT) : TE := fun σ H Q => ∃ F S env M Qd, Rel K F S σ H env M ∧ t env M Qd ∧ PostE K F S σ Qd Q
theorem pe_imp {X : Cx} {e : Expr} {t t' : TE} (h : PE X e t) (i : ∀ σ H Q, t' σ H Q → t σ H Q) : PE X e t' := ⟨fun pins s σ H Q I q => h.run pins s σ H Q I (i σ H Q q)⟩
theorem ps_imp {X : Cx} {e : Stmt} {t t' : TS} (h : PS X e t) (i : ∀ D σ H, t' D σ H → t D σ H) : PS X e t' := ⟨fun pins s σ H D I q => h.run pins s σ H D I (i D σ H q)⟩
theorem pss_imp {X : Cx} {e : List Stmt} {t t' : TS} (h : PSs X e t) (i : ∀ D σ H, t' D σ H → t D σ H) : PSs X e t' := ⟨fun pins s σ H D I q => h.run pins s σ H D I (i D σ H q)⟩
theorem pt_imp {X : Cx} {e : Expr} {t t' : TT} (h : PT X e t) (i : ∀ σ H Q, t' σ H Q → t σ H Q) : PT X e t' := ⟨fun pins s σ H Q I q => h.run pins s σ H Q I (i σ H Q q)⟩
theorem pw_imp {X : Cx} {e : Expr} {t t' : TT} (h : PW X e t) (i : ∀ σ H Q, t' σ H Q → t σ H Q) : PW X e t' := ⟨fun wh pins s σ H Q I q => h.run wh pins s σ H Q I (i σ H Q q)⟩
theorem pa_imp {X : Cx} {e : List Expr} {t t' : TA} (h : PA X e t) (i : ∀ σ H Q, t' σ H Q → t σ H Q) : PA X e t' := ⟨fun pos pins s σ H Q I q => h.run pos pins s σ H Q I (i σ H Q q)⟩
theorem pk_imp {X : Cx} {e : List Keyword} {t t' : TA} (h : PK X e t) (i : ∀ σ H Q, t' σ H Q → t σ H Q) : PK X e t' := ⟨fun pos pins s σ H Q I q => h.run pos pins s σ H Q I (i σ H Q q)⟩
theorem pg_imp {X : Cx} {e : Expr} {t t' : TG} (h : PG X e t) (i : ∀ v σ H Q, t' v σ H Q → t v σ H Q) : PG X e t' := ⟨fun pins s σ H v u Q I r q => h.run pins s σ H v u Q I r (i v σ H Q q)⟩
abbrev DE (X : Cx) (e : Expr) (t : DT) : Prop := PE X e (LE X.K t)

/-- argument lists -/
abbrev KDs := List D → Ev → Mem → Prop
abbrev DTA := Ev → Mem → KDs → Prop
def PostA (K : PySem.W.Frag) (F S : Hp) (σ : L2.St) (Qd : KDs) (Q : List V → Hp → Prop) : Prop :=
  ∀ vs H' S' env' M' ds, Same S S' → Rel K F S' σ H' env' M' → Reps K S' ds vs → Qd ds env' M' → Q vs H'
def LA (K : PySem.W.Frag) (t : DTA) : TA := fun σ H Q => ∃ F S env M Qd, Rel K F S σ H env M ∧ t env M Qd ∧ PostA K F S σ Qd Q
abbrev DA (X : Cx) (es : List Expr) (t : DTA) : Prop := PA X es (LA X.K t)
abbrev DKw (X : Cx) (es : List Keyword) (t : DTA) : Prop := PK X es (LA X.K t)

/-- tests -/
abbrev KB := Bool → Ev → Mem → Prop
abbrev DTT := Ev → Mem → KB → Prop
def PostT (K : PySem.W.Frag) (F S : Hp) (σ : L2.St) (Qd : KB) (Q : Bool → Hp → Prop) : Prop :=
  ∀ b H' S' env' M', Same S S' → Rel K F S' σ H' env' M' → Qd b env' M' → Q b H'
def LT (K : PySem.W.Frag) (t : DTT) : TT := fun σ H Q => ∃ F S env M Qd, Rel K F S σ H env M ∧ t env M Qd ∧ PostT K F S σ Qd Q
abbrev DTst (X : Cx) (e : Expr) (t : DTT) : Prop := PT X e (LT X.K t)
abbrev DW (X : Cx) (e : Expr) (t : DTT) : Prop := PW X e (LT X.K t)

/-- statements -/
structure DEnds where
  nx : Ev → Mem → Prop
  rt : D → Mem → Prop
  bk : Ev → Mem → Prop := fun _ _ => False
  ct : Ev → Mem → Prop := fun _ _ => False
abbrev DTS := DEnds → Ev → Mem → Prop
structure PostS (K : PySem.W.Frag) (F S : Hp) (Ed : DEnds) (E : Ends) : Prop where
  nx : ∀ σ H' S' env' M', Same S S' → Rel K F S' σ H' env' M' → Ed.nx env' M' → E.nx σ H'
  rt : ∀ v H' S' M' d, Same S S' → RelC K F S' H' M' → Rep K S' d v → Ed.rt d M' → E.rt v H'
  bk : ∀ σ H' S' env' M', Same S S' → Rel K F S' σ H' env' M' → Ed.bk env' M' → E.bk σ H'
  ct : ∀ σ H' S' env' M', Same S S' → Rel K F S' σ H' env' M' → Ed.ct env' M' → E.ct σ H'
theorem PostS.up {K : PySem.W.Frag} {F S S1 : Hp} {Ed : DEnds} {E : Ends} (p : PostS K F S Ed E) (s : Same S S1) : PostS K F S1 Ed E :=
  ⟨fun σ H' S' env' M' s' => p.nx σ H' S' env' M' (s.trans s'), fun v H' S' M' d s' => p.rt v H' S' M' d (s.trans s'), fun σ H' S' env' M' s' => p.bk σ H' S' env' M' (s.trans s'), fun σ H' S' env' M' s' => p.ct σ H' S' env' M' (s.trans s')⟩
def LS (K : PySem.W.Frag) (t : DTS) : TS := fun E σ H => ∃ F S env M Ed, Rel K F S σ H env M ∧ t Ed env M ∧ PostS K F S Ed E
abbrev DS (X : Cx) (st : Stmt) (t : DTS) : Prop := PS X st (LS X.K t)
abbrev DSs (X : Cx) (st : List Stmt) (t : DTS) : Prop := PSs X st (LS X.K t)

/-! ### names, constants -/
@[reducible] def dVar (i : Nat) : DT := fun env M Q => match look env i with
  | .val d => Q d env M
  | .own ds => Q (.lst ds) (put env i (.val (.lst ds))) M
  | .no => False
@[reducible] def dC (d : D) : DT := fun env M Q => Q d env M
section
variable {X : Cx}
theorem d_var (i : Nat) {x : Str} {pos : Pos} (hN : X.N[i]? = some x := by rfl) (hv : Vis X.env.scope x := by first | exact Or.inl rfl | exact Or.inr (Or.inl rfl) | exact Or.inr (Or.inr rfl)) (hd : (x == ("__debug__" : Str)) = false := by decide)
    (hcd : (x == ("__classdict__" : Str)) = false := by decide) : DE X (.Name x pos) (dVar i) := by
  refine pe_imp (pv i hN hv hd hcd) fun σ H Q ⟨F, S, env, M, Qd, R, t, p⟩ => ?_
  unfold dVar at t
  cases e : look env i with
  | no => rw [e] at t; exact t.elim
  | val d =>
    rw [e] at t
    obtain ⟨v, e1, r⟩ := R.val i d e
    exact ⟨v, e1, p v H S env M d (Same.refl _) R r t⟩
  | own ds =>
    rw [e] at t
    obtain ⟨a, xs, e1, e2, ss, R', r⟩ := R.freeze e
    exact ⟨_, e1, p _ H _ _ M _ ss R' r t⟩
theorem d_int {i j pos} : DE X (.Constant (.int i) j pos) (dC (.int i)) := pe_imp pe_int fun σ H Q ⟨F, S, env, M, Qd, R, t, p⟩ => p _ H S env M (.int i) (Same.refl _) R rfl t
theorem d_bl {b j pos} : DE X (.Constant (.bool b) j pos) (dC (.bl b)) := pe_imp pe_bl fun σ H Q ⟨F, S, env, M, Qd, R, t, p⟩ => p _ H S env M (.bl b) (Same.refl _) R rfl t
theorem d_non {j pos} : DE X (.Constant .none j pos) (dC .non) := pe_imp pe_non fun σ H Q ⟨F, S, env, M, Qd, R, t, p⟩ => p _ H S env M .non (Same.refl _) R rfl t
theorem d_str {x j pos} : DE X (.Constant (.str x) j pos) (dC (.str x)) := pe_imp pe_str fun σ H Q ⟨F, S, env, M, Qd, R, t, p⟩ => p _ H S env M (.str x) (Same.refl _) R rfl t
theorem d_globR {x : Str} {a : Addr} {pos : Pos} (hg : Gl X x) (hm : X.mg x = some (.ref a)) (hd : (x == ("__debug__" : Str)) = false := by decide) : DE X (.Name x pos) (dC (.ref a)) :=
  pe_imp (pe_glob (v := .ref a) hg hm rfl hd) fun σ H Q ⟨F, S, env, M, Qd, R, t, p⟩ => p _ H S env M (.ref a) (Same.refl _) R rfl t
theorem d_globI {x : Str} {i : Int} {tk : Tok} {pos : Pos} (hg : Gl X x) (hm : X.mg x = some (.int i tk)) (hd : (x == ("__debug__" : Str)) = false := by decide) : DE X (.Name x pos) (dC (.int i)) :=
  pe_imp (pe_glob (v := .int i) hg hm ⟨tk, rfl⟩ hd) fun σ H Q ⟨F, S, env, M, Qd, R, t, p⟩ => p _ H S env M (.int i) (Same.refl _) R rfl t
theorem d_globS {x : Str} {z : Str} {tk : Tok} {pos : Pos} (hg : Gl X x) (hm : X.mg x = some (.str z tk)) (hd : (x == ("__debug__" : Str)) = false := by decide) : DE X (.Name x pos) (dC (.str z)) :=
  pe_imp (pe_glob (v := .str z) hg hm ⟨tk, rfl⟩ hd) fun σ H Q ⟨F, S, env, M, Qd, R, t, p⟩ => p _ H S env M (.str z) (Same.refl _) R rfl t
/-- a built-in class as a value -/
theorem d_bty {x : Str} {n : String} {pos : Pos} (hg : Gl X x) (hm : X.mg x = none) (hv : bootBuiltins x = some (.type n)) (hn : x ≠ "__name__" := by decide) (hd : (x == ("__debug__" : Str)) = false := by decide) : DE X (.Name x pos) (dC (.ty n)) :=
  pe_imp (pe_bltn (v := .ty n) hg hm hv rfl hn hd) fun σ H Q ⟨F, S, env, M, Qd, R, t, p⟩ => p _ H S env M (.ty n) (Same.refl _) R rfl t
end

/-! ### two-place operations -/
abbrev RD2 := D → D → DT
structure OpD (X : Cx) (f : Value → Value → Sem Value) (rd : RD2) : Prop where
  ex : ∃ r : R2, OpR X f r ∧ ∀ F S σ H env M x y d e Qd Q, Rel X.K F S σ H env M → Rep X.K S d x → Rep X.K S e y → rd d e env M Qd → PostE X.K F S σ Qd Q → r x y H Q
@[reducible] def dBin (rd : RD2) (ta tb : DT) : DT := fun env M Q => ta env M fun d env1 M1 => tb env1 M1 fun e env2 M2 => rd d e env2 M2 Q
section
variable {X : Cx} {a b c : Expr} {ta tb tc : DT} {pos : Pos}
theorem lift2 {r : R2} {rd : RD2} (h : ∀ F S σ H env M x y d e Qd Q, Rel X.K F S σ H env M → Rep X.K S d x → Rep X.K S e y → rd d e env M Qd → PostE X.K F S σ Qd Q → r x y H Q)
    {σ : L2.St} {H : Hp} {Q : VK} (q : LE X.K (dBin rd ta tb) σ H Q) : tOp r (LE X.K ta) (LE X.K tb) σ H Q := by
  obtain ⟨F, S, env, M, Qd, R, t, p⟩ := q
  refine ⟨F, S, env, M, _, R, t, fun v H1 S1 env1 M1 d s1 R1 r1 q1 => ⟨F, S1, env1, M1, _, R1, q1, fun u H2 S2 env2 M2 e s2 R2 r2 q2 => ?_⟩⟩
  exact h F S2 σ H2 env2 M2 v u d e Qd Q R2 (r1.mono s2) r2 q2 (p.up (s1.trans s2))
theorem d_op {op : Operator} {rd : RD2} (ho : OpD X (binaryOp op) rd) (ha : DE X a ta) (hb : DE X b tb) : DE X (.BinOp a op b pos) (dBin rd ta tb) := by
  obtain ⟨r, h1, h2⟩ := ho.ex
  exact pe_imp (pe_op h1 ha hb) fun σ H Q q => lift2 h2 q
theorem d_cmp {op : CmpOp} {rd : RD2} (ho : OpD X (compareOp op) rd) (ha : DE X a ta) (hb : DE X b tb) (hm : behindInMarks op b = false) : DE X (.Compare a [op] [b] pos) (dBin rd ta tb) := by
  obtain ⟨r, h1, h2⟩ := ho.ex
  exact pe_imp (pe_cmpR h1 ha hb hm) fun σ H Q q => lift2 h2 q
/-- a value that is a bool, as a test -/
@[reducible] def dTst (t : DT) : DTT := fun env M Q => t env M fun d env' M' => match d with
  | .bl b => Q b env' M'
  | _ => False
theorem d_tcmp {op : CmpOp} {rd : RD2} (ho : OpD X (compareOp op) rd) (ha : DE X a ta) (hb : DE X b tb) (hm : behindInMarks op b = false) : DTst X (.Compare a [op] [b] pos) (dTst (dBin rd ta tb)) := by
  obtain ⟨r, h1, h2⟩ := ho.ex
  refine pt_imp (pt_cmpR h1 ha hb hm) fun σ H Q ⟨F, S, env, M, Qd, R, t, p⟩ => ?_
  refine lift2 (Q := fun x H' => ∃ k, x = .bl k ∧ Q k H') h2 ⟨F, S, env, M, _, R, t, fun v H' S' env' M' d s' R' r' q' => ?_⟩
  cases d with
  | bl k => exact ⟨k, r', p k H' S' env' M' s' R' q'⟩
  | _ => exact q'.elim
theorem OpD.or {f : Value → Value → Sem Value} {rd rd' : RD2} (h : OpD X f rd) (h' : OpD X f rd') : OpD X f (fun d e env M Q => rd d e env M Q ∨ rd' d e env M Q) := by
  obtain ⟨r, a1, a2⟩ := h.ex
  obtain ⟨r', b1, b2⟩ := h'.ex
  refine ⟨⟨_, a1.or b1, fun F S σ H env M x y d e Qd Q R r1 r2 q p => ?_⟩⟩
  rcases q with q | q
  · exact .inl (a2 F S σ H env M x y d e Qd Q R r1 r2 q p)
  · exact .inr (b2 F S σ H env M x y d e Qd Q R r1 r2 q p)
theorem OpD.imp {f : Value → Value → Sem Value} {rd rd' : RD2} (h : OpD X f rd) (i : ∀ d e env M Q, rd' d e env M Q → rd d e env M Q) : OpD X f rd' := by
  obtain ⟨r, a1, a2⟩ := h.ex
  exact ⟨⟨r, a1, fun F S σ H env M x y d e Qd Q R r1 r2 q p => a2 F S σ H env M x y d e Qd Q R r1 r2 (i _ _ _ _ _ q) p⟩⟩
end
end DL
set_option Elab.async false
set_option linter.all false
set_option maxRecDepth 100000
set_option maxHeartbeats 1000000
/-! DL2: operators, comparisons, tests, arguments, displays, subscripts, built-ins. -/
namespace DL
open PySem PySem.Spec PyProof.Rows L2

/-! ### data, its equality -/
mutual
def pd : D → PyData
  | .non => .none
  | .bl b => .bool b
  | .int i => .int i
  | .str s => .str s
  | .tup ds => .tuple (pds ds)
  | .lst ds => .list (pds ds)
  | .lstK ds => .list (pds ds)
  | .ref _ => .none
  | .ty _ => .none
  | .obj _ _ _ => .none
def pds : List D → List PyData
  | [] => []
  | d :: r => pd d :: pds r
end
mutual
/-- data: nested lists and tuples of None, bools, ints, texts of fewer than so many signs -/
def isData : D → Bool
  | .non => true
  | .bl _ => true
  | .int _ => true
  | .str s => PyData.strOk s
  | .tup ds => areData ds
  | .lst ds => areData ds
  | .lstK ds => areData ds
  | .ref _ => false
  | .ty _ => false
  | .obj _ _ _ => false
def areData : List D → Bool
  | [] => true
  | d :: r => isData d && areData r
end
mutual
def depD : D → Nat
  | .tup ds => depDs ds + 1
  | .lst ds => depDs ds + 1
  | .lstK ds => depDs ds + 1
  | .non => 0
  | .bl _ => 0
  | .int _ => 0
  | .str _ => 0
  | .ref _ => 0
  | .ty _ => 0
  | .obj _ _ _ => 0
def depDs : List D → Nat
  | [] => 0
  | d :: r => max (depD d) (depDs r)
end
section
variable {K : PySem.W.Frag} {S : Hp}
mutual
theorem pd_lay : ∀ {d : D}, isData d = true → (pd d).canLay0 = true
  | .non, _ => rfl
  | .bl _, _ => rfl
  | .int _, _ => rfl
  | .str s, h => by
    simp only [isData] at h
    simp only [pd, PyData.canLay0, h]
  | .tup ds, h => by
    simp only [pd, PyData.canLay0]
    exact pds_lay (by simpa [isData] using h)
  | .lst ds, h => by
    simp only [pd, PyData.canLay0]
    exact pds_lay (by simpa [isData] using h)
  | .lstK ds, h => by
    simp only [pd, PyData.canLay0]
    exact pds_lay (by simpa [isData] using h)
  | .ref _, h => by cases h
  | .ty _, h => by cases h
  | .obj _ _ _, h => by cases h
theorem pds_lay : ∀ {ds : List D}, areData ds = true → PyData.canLayAll0 (pds ds) = true
  | [], _ => rfl
  | d :: r, h => by
    have h' := (Bool.and_eq_true_iff.mp (by simpa [areData] using h : (isData d && areData r) = true))
    simp only [pds, PyData.canLayAll0, pd_lay h'.1, pds_lay h'.2, Bool.and_self]
end
mutual
theorem pd_depth : ∀ (d : D), (pd d).depth = depD d
  | .non => rfl
  | .bl _ => rfl
  | .int _ => rfl
  | .str s => rfl
  | .tup ds => by simp only [pd, PyData.depth, depD, pds_depth ds]
  | .lst ds => by simp only [pd, PyData.depth, depD, pds_depth ds]
  | .lstK ds => by simp only [pd, PyData.depth, depD, pds_depth ds]
  | .ref _ => rfl
  | .ty _ => rfl
  | .obj _ _ _ => rfl
theorem pds_depth : ∀ (ds : List D), PyData.depthAll (pds ds) = depDs ds
  | [] => rfl
  | d :: r => by simp only [pds, PyData.depthAll, depDs, pd_depth d, pds_depth r]
end
mutual
theorem Rep.dp : ∀ {d : D} {v : V}, Rep K S d v → isData d = true → Dp K S v (pd d)
  | .non, _, h, _ => by cases h; exact .non
  | .bl _, _, h, _ => by cases h; exact .bl _
  | .int _, _, h, _ => by cases h; exact .int _
  | .str s, _, h, _ => by cases h; exact .str _
  | .tup ds, _, h, i => by
    obtain ⟨a, xs, rfl, q, t⟩ := h
    exact .tup q (Reps.dp t (by simpa [isData] using i))
  | .lst ds, _, h, i => by
    obtain ⟨a, xs, rfl, q, t⟩ := h
    exact .lst (.of q) (Reps.dp t (by simpa [isData] using i))
  | .lstK ds, _, h, i => by
    obtain ⟨a, xs, rfl, q, t⟩ := h
    exact .lst q (Reps.dp t (by simpa [isData] using i))
  | .ref _, _, _, i => by cases i
  | .ty _, _, _, i => by cases i
  | .obj _ _ _, _, _, i => by cases i
theorem Reps.dp : ∀ {ds : List D} {vs : List V}, Reps K S ds vs → areData ds = true → DpAll K S vs (pds ds)
  | [], [], _, _ => .nil
  | d :: r, v :: vs, h, i => by
    have h' := (Bool.and_eq_true_iff.mp (by simpa [areData] using i : (isData d && areData r) = true))
    exact .cons (Rep.dp h.1 h'.1) (Reps.dp h.2 h'.2)
  | [], _ :: _, h, _ => h.elim
  | _ :: _, [], h, _ => h.elim
end
mutual
theorem Dp.mono {S' : Hp} (e : Same S S') : ∀ {v : V} {d : PyData}, Dp K S v d → Dp K S' v d
  | _, _, .non => .non
  | _, _, .bl b => .bl b
  | _, _, .int b => .int b
  | _, _, .str b => .str b
  | _, _, .lst q t => .lst (L2.Same.seq e q) (DpAll.mono e t)
  | _, _, .tup q t => .tup (DL.Same.tup e q) (DpAll.mono e t)
theorem DpAll.mono {S' : Hp} (e : Same S S') : ∀ {v : List V} {d : List PyData}, DpAll K S v d → DpAll K S' v d
  | _, _, .nil => .nil
  | _, _, .cons h t => .cons (Dp.mono e h) (DpAll.mono e t)
end
end
/-- == of data -/
def deq (d e : D) : Bool := PyData.eqv (pd d) (pd e)
def okEq (d : D) : Prop := isData d = true ∧ depD d ≤ 64
theorem okEq.shaped {d : D} (h : okEq d) : SeqAt.shaped (pd d) = true := by
  unfold SeqAt.shaped
  rw [pd_lay h.1, pd_depth]
  simp [h.2]

@[reducible] def rdEq : RD2 := fun d e env M Q => okEq d ∧ okEq e ∧ Q (.bl (deq d e)) env M
@[reducible] def rdNe : RD2 := fun d e env M Q => okEq d ∧ okEq e ∧ Q (.bl (nb (deq d e))) env M
/-- pure operations: a partial function of two values -/
@[reducible] def rdP (C : D → D → Prop) (g : D → D → D) : RD2 := fun d e env M Q => C d e ∧ Q (g d e) env M
section
variable {X : Cx}
theorem od_eq {k : Nat} (hr : Room k X.A) : OpD X (compareOp .Eq) rdEq :=
  ⟨⟨_, op_eqD hr.units, fun F S σ H env M x y d e Qd Q R r1 r2 ⟨h1, h2, q⟩ p =>
    ⟨pd d, pd e, Dp.mono R.c.same (r1.dp h1.1), Dp.mono R.c.same (r2.dp h2.1), h1.shaped, h2.shaped, p _ H S env M (.bl _) (Same.refl _) R rfl q⟩⟩⟩
theorem od_ne {k : Nat} (hr : Room k X.A) : OpD X (compareOp .NotEq) rdNe :=
  ⟨⟨_, op_neD hr.units, fun F S σ H env M x y d e Qd Q R r1 r2 ⟨h1, h2, q⟩ p =>
    ⟨pd d, pd e, Dp.mono R.c.same (r1.dp h1.1), Dp.mono R.c.same (r2.dp h2.1), h1.shaped, h2.shaped, p _ H S env M (.bl (nb (deq d e))) (Same.refl _) R (congrArg V.bl (nb_eq _).symm) q⟩⟩⟩

/-- of two ints -/
@[reducible] def rdI (g : Int → Int → D) : RD2 := fun d e env M Q => match d, e with
  | .int i, .int j => Q (g i j) env M
  | _, _ => False
@[reducible] def rdIC (C : Int → Int → Prop) (g : Int → Int → D) : RD2 := fun d e env M Q => match d, e with
  | .int i, .int j => C i j ∧ Q (g i j) env M
  | _, _ => False
theorem od_I {f : Value → Value → Sem Value} {g : Int → Int → V} {gd : Int → Int → D} (h : OpR X f (rI0 g)) (hg : ∀ K S i j, Rep K S (gd i j) (g i j)) : OpD X f (rdI gd) := by
  refine ⟨⟨_, h, fun F S σ H env M x y d e Qd Q R r1 r2 q p => ?_⟩⟩
  cases d with
  | int i =>
    cases e with
    | int j =>
      cases r1
      cases r2
      exact ⟨i, j, rfl, rfl, p _ H S env M _ (Same.refl _) R (hg _ _ i j) q⟩
    | _ => exact q.elim
  | _ => exact q.elim
theorem od_IC {f : Value → Value → Sem Value} {C : Int → Int → Prop} {g : Int → Int → V} {gd : Int → Int → D} (h : OpR X f (rI C g)) (hg : ∀ K S i j, Rep K S (gd i j) (g i j)) : OpD X f (rdIC C gd) := by
  refine ⟨⟨_, h, fun F S σ H env M x y d e Qd Q R r1 r2 q p => ?_⟩⟩
  cases d with
  | int i =>
    cases e with
    | int j =>
      cases r1
      cases r2
      exact ⟨i, j, rfl, rfl, q.1, p _ H S env M _ (Same.refl _) R (hg _ _ i j) q.2⟩
    | _ => exact q.elim
  | _ => exact q.elim
theorem od_sub : OpD X (binaryOp .Sub) (rdI fun i j => .int (i - j)) := od_I op_sub fun _ _ _ _ => rfl
theorem od_mul : OpD X (binaryOp .Mult) (rdIC CMulW fun i j => .int (i * j)) := od_IC op_mulW fun _ _ _ _ => rfl
theorem od_fdiv : OpD X (binaryOp .FloorDiv) (rdIC CDivW fun i j => .int (i / j)) := od_IC op_fdivW fun _ _ _ _ => rfl
theorem od_mod : OpD X (binaryOp .Mod) (rdIC (fun _ j => 0 < j) fun i j => .int (i % j)) := od_IC op_mod fun _ _ _ _ => rfl
theorem od_pow : OpD X (binaryOp .Pow) (rdIC CPow fun i j => .int (i ^ j.toNat)) := od_IC op_pow fun _ _ _ _ => rfl
theorem od_lt : OpD X (compareOp .Lt) (rdI fun i j => .bl (decide (i < j))) := od_I op_lt fun _ _ _ _ => rfl
theorem od_le : OpD X (compareOp .LtE) (rdI fun i j => .bl (decide (i ≤ j))) := od_I op_le fun _ _ _ _ => rfl
theorem od_gt : OpD X (compareOp .Gt) (rdI fun i j => .bl (decide (j < i))) := od_I op_gt fun _ _ _ _ => rfl
theorem od_ge : OpD X (compareOp .GtE) (rdI fun i j => .bl (decide (j ≤ i))) := od_I op_ge fun _ _ _ _ => rfl

/-- +: ints, texts, tuples (the left one not empty), lists -/
@[reducible] def rdAdd : RD2 := fun d e env M Q => match d, e with
  | .int i, .int j => Q (.int (i + j)) env M
  | .str s, .str t => s.length + t.length ≤ sizeLine ∧ Q (.str (s ++ t)) env M
  | .tup ds, .tup es => ds ≠ [] ∧ ds.length + es.length ≤ sizeLine ∧ Q (.tup (ds ++ es)) env M
  | .lst ds, .lst es => ds.length + es.length ≤ sizeLine ∧ Q (.lst (ds ++ es)) env M
  | _, _ => False
theorem rep_tup {K : PySem.W.Frag} {S : Hp} {p : Addr} {ds : List D} {xs : List V} (r : Reps K S ds xs) (h : S p = none) : Rep K (upd S p (.tup xs)) (.tup ds) (.ref p) :=
  ⟨p, xs, rfl, .of upd_same, r.mono fun b u e => by rw [upd_ne (fun z => by rw [z, h] at e; cases e)]; exact e⟩
theorem rep_lst {K : PySem.W.Frag} {S : Hp} {p : Addr} {ds : List D} {xs : List V} (r : Reps K S ds xs) (h : S p = none) : Rep K (upd S p (.lst xs)) (.lst ds) (.ref p) :=
  ⟨p, xs, rfl, upd_same, r.mono fun b u e => by rw [upd_ne (fun z => by rw [z, h] at e; cases e)]; exact e⟩
theorem Reps.nil_iff {K : PySem.W.Frag} {S : Hp} {ds : List D} {xs : List V} (r : Reps K S ds xs) : ds = [] ↔ xs = [] := by
  have := r.length
  cases ds with
  | nil => cases xs with
    | nil => exact ⟨fun _ => rfl, fun _ => rfl⟩
    | cons _ _ => exact r.elim
  | cons _ _ => cases xs with
    | nil => exact r.elim
    | cons _ _ => exact ⟨fun z => (by cases z), fun z => (by cases z)⟩
theorem od_addI : OpD X (binaryOp .Add) (rdI fun i j => .int (i + j)) := od_I op_add fun _ _ _ _ => rfl
theorem od_add : OpD X (binaryOp .Add) rdAdd := by
  refine ⟨⟨_, (op_add (X := X)).or (op_add_str.or (op_catT.or op_cat)), fun F S σ H env M x y d e Qd Q R r1 r2 q p => ?_⟩⟩
  cases d with
  | int i =>
    cases e with
    | int j =>
      cases r1
      cases r2
      exact .inl ⟨i, j, rfl, rfl, p _ H S env M (.int (i + j)) (Same.refl _) R rfl q⟩
    | _ => exact q.elim
  | str s =>
    cases e with
    | str t =>
      cases r1
      cases r2
      exact .inr (.inl ⟨s, t, rfl, rfl, q.1, p _ H S env M (.str (s ++ t)) (Same.refl _) R rfl q.2⟩)
    | _ => exact q.elim
  | tup ds =>
    cases e with
    | tup es =>
      obtain ⟨a, xs, rfl, h1, t1⟩ := r1
      obtain ⟨b, ys, rfl, h2, t2⟩ := r2
      obtain ⟨n, l, q⟩ := q
      refine .inr (.inr (.inl ⟨a, b, xs, ys, rfl, rfl, DL.Same.tup R.c.same h1, DL.Same.tup R.c.same h2, fun z => n (t1.nil_iff.mpr z), by rw [← t1.length, ← t2.length]; exact l, fun z => ?_, fun z u hu => ?_⟩))
      · have ez := t2.nil_iff.mpr z
        subst ez
        rw [List.append_nil] at q
        exact p _ H S env M (.tup ds) (Same.refl _) R ⟨a, xs, rfl, h1, t1⟩ q
      · obtain ⟨R', ss⟩ := R.new (o := .tup (xs ++ ys)) hu
        exact p _ _ _ env M (.tup (ds ++ es)) ss R' (rep_tup (t1.append t2) (R.c.sfree hu)) q
    | _ => exact q.elim
  | lst ds =>
    cases e with
    | lst es =>
      obtain ⟨a, xs, rfl, h1, t1⟩ := r1
      obtain ⟨b, ys, rfl, h2, t2⟩ := r2
      obtain ⟨l, q⟩ := q
      refine .inr (.inr (.inr ⟨a, b, xs, ys, rfl, rfl, R.c.same _ _ h1, R.c.same _ _ h2, by rw [← t1.length, ← t2.length]; exact l, fun u hu => ?_⟩))
      obtain ⟨R', ss⟩ := R.new (o := .lst (xs ++ ys)) hu
      exact p _ _ _ env M (.lst (ds ++ es)) ss R' (rep_lst (t1.append t2) (R.c.sfree hu)) q
    | _ => exact q.elim
  | _ => cases e <;> exact q.elim
/-- is None, is not None -/
@[reducible] def isNon : D → Bool
  | .non => true
  | _ => false
@[reducible] def rdIsN : RD2 := fun d e env M Q => match e with
  | .non => Q (.bl (isNon d)) env M
  | _ => False
@[reducible] def rdNotN : RD2 := fun d e env M Q => match e with
  | .non => Q (.bl (nb (isNon d))) env M
  | _ => False
theorem rep_non {K : PySem.W.Frag} {S : Hp} {d : D} {v : V} (r : Rep K S d v) : decide (v = .non) = isNon d := by
  cases d with
  | non => cases r; rfl
  | bl _ => cases r; rfl
  | int _ => cases r; rfl
  | str _ => cases r; rfl
  | ref _ => cases r; rfl
  | ty _ => cases r; rfl
  | tup _ => obtain ⟨a, xs, rfl, _⟩ := r; rfl
  | lst _ => obtain ⟨a, xs, rfl, _⟩ := r; rfl
  | lstK _ => obtain ⟨a, xs, rfl, _⟩ := r; rfl
  | obj _ _ _ => obtain ⟨a, dx, xs, rfl, _⟩ := r; rfl
theorem od_isN : OpD X (compareOp .Is) rdIsN := by
  refine ⟨⟨_, op_isN, fun F S σ H env M x y d e Qd Q R r1 r2 q p => ?_⟩⟩
  cases e with
  | non =>
    cases r2
    exact ⟨rfl, p _ H S env M (.bl (isNon d)) (Same.refl _) R (congrArg V.bl (rep_non r1)) q⟩
  | _ => exact q.elim
theorem od_notN : OpD X (compareOp .IsNot) rdNotN := by
  refine ⟨⟨_, op_notN, fun F S σ H env M x y d e Qd Q R r1 r2 q p => ?_⟩⟩
  cases e with
  | non =>
    cases r2
    exact ⟨rfl, p _ H S env M (.bl (nb (isNon d))) (Same.refl _) R (by rw [nb_eq]; exact congrArg (fun b => V.bl (!b)) (rep_non r1)) q⟩
  | _ => exact q.elim
end

/-! ### flat things, in -/
def flatD : D → Bool
  | .non => true
  | .bl _ => true
  | .int _ => true
  | .str _ => true
  | _ => false
def eqF : D → D → Bool
  | .non, .non => true
  | .bl a, .bl b => a == b
  | .bl a, .int b => (if a then 1 else 0) == b
  | .int a, .bl b => a == (if b then 1 else 0)
  | .int a, .int b => a == b
  | .str a, .str b => a == b
  | _, _ => false
def inF (d : D) (ds : List D) : Bool := ds.any fun e => eqF e d
section
variable {K : PySem.W.Frag} {S : Hp}
theorem rep_flat {d : D} {v : V} (r : Rep K S d v) (f : flatD d = true) : flatV v = true := by
  cases d with
  | non => cases r; rfl
  | bl _ => cases r; rfl
  | int _ => cases r; rfl
  | str _ => cases r; rfl
  | _ => cases f
theorem rep_eqF {d e : D} {v u : V} (r : Rep K S d v) (q : Rep K S e u) (f : flatD d = true) (g : flatD e = true) : eqV v u = eqF d e := by
  cases d <;> first | (cases f; done) | (cases e <;> first | (cases g; done) | (cases r; cases q; rfl))
theorem reps_flat : ∀ {ds : List D} {vs : List V}, Reps K S ds vs → ds.all flatD = true → vs.all flatV = true
  | [], [], _, _ => rfl
  | d :: r, v :: vs, h, f => by
    simp only [List.all_cons, Bool.and_eq_true] at f ⊢
    exact ⟨rep_flat h.1 f.1, reps_flat h.2 f.2⟩
  | [], _ :: _, h, _ => h.elim
  | _ :: _, [], h, _ => h.elim
theorem reps_inF {d : D} {v : V} (q : Rep K S d v) (g : flatD d = true) : ∀ {ds : List D} {vs : List V}, Reps K S ds vs → ds.all flatD = true → inV v vs = inF d ds
  | [], [], _, _ => rfl
  | e :: r, u :: vs, h, f => by
    simp only [List.all_cons, Bool.and_eq_true] at f
    have ih := reps_inF q g h.2 f.2
    unfold inV inF at ih ⊢
    simp only [List.any_cons, rep_eqF h.1 q f.1 g, ih]
  | [], _ :: _, h, _ => h.elim
  | _ :: _, [], h, _ => h.elim
end
@[reducible] def seqD : D → Option (List D)
  | .lst ds => some ds
  | .lstK ds => some ds
  | .tup ds => some ds
  | _ => none
@[reducible] def rdIn : RD2 := fun d e env M Q => match seqD e with
  | some ds => flatD d = true ∧ ds.all flatD = true ∧ Q (.bl (inF d ds)) env M
  | none => False
@[reducible] def rdNin : RD2 := fun d e env M Q => match seqD e with
  | some ds => flatD d = true ∧ ds.all flatD = true ∧ Q (.bl (nb (inF d ds))) env M
  | none => False
section
variable {X : Cx}
theorem rep_seq {K : PySem.W.Frag} {S H : Hp} {e : D} {ds : List D} {v : V} (ss : Same S H) (h : seqD e = some ds) (r : Rep K S e v) : ∃ p xs, v = .ref p ∧ (SqL K H p xs ∨ SqT K H p xs) ∧ Reps K S ds xs := by
  cases e with
  | lst es => cases h; obtain ⟨a, xs, e1, h1, t⟩ := r; exact ⟨a, xs, e1, .inl (.of (ss _ _ h1)), t⟩
  | lstK es => cases h; obtain ⟨a, xs, e1, h1, t⟩ := r; exact ⟨a, xs, e1, .inl (L2.Same.seq ss h1), t⟩
  | tup es => cases h; obtain ⟨a, xs, e1, h1, t⟩ := r; exact ⟨a, xs, e1, .inr (DL.Same.tup ss h1), t⟩
  | _ => cases h
theorem od_in : OpD X (compareOp .In) rdIn := by
  refine ⟨⟨_, op_in_seq, fun F S σ H env M x y d e Qd Q R r1 r2 q p => ?_⟩⟩
  unfold rdIn at q
  cases he : seqD e with
  | none => rw [he] at q; exact q.elim
  | some ds =>
    rw [he] at q
    obtain ⟨f, g, q⟩ := q
    obtain ⟨a, xs, rfl, h, t⟩ := rep_seq R.c.same he r2
    refine ⟨a, xs, rfl, h, rep_flat r1 f, reps_flat t g, ?_⟩
    have e1 := reps_inF r1 f t g
    show Q (.bl (inV x xs)) H
    rw [e1]
    exact p _ H S env M (.bl _) (Same.refl _) R rfl q
theorem od_nin : OpD X (compareOp .NotIn) rdNin := by
  refine ⟨⟨_, op_notIn_seq, fun F S σ H env M x y d e Qd Q R r1 r2 q p => ?_⟩⟩
  unfold rdNin at q
  cases he : seqD e with
  | none => rw [he] at q; exact q.elim
  | some ds =>
    rw [he] at q
    obtain ⟨f, g, q⟩ := q
    obtain ⟨a, xs, rfl, h, t⟩ := rep_seq R.c.same he r2
    refine ⟨a, xs, rfl, h, rep_flat r1 f, reps_flat t g, ?_⟩
    have e1 := reps_inF r1 f t g
    show Q (.bl (!inV x xs)) H
    rw [e1, ← nb_eq]
    exact p _ H S env M (.bl _) (Same.refl _) R rfl q
end

/-! ### truth, and, or, not, a if t else b -/
@[reducible] def truD : D → Option Bool
  | .non => some false
  | .bl b => some b
  | .int i => some (i != 0)
  | .tup ds => some (!ds.isEmpty)
  | .lst ds => some (!ds.isEmpty)
  | _ => none
@[reducible] def dTru (t : DT) : DTT := fun env M Q => t env M fun d env' M' => match truD d with
  | some b => Q b env' M'
  | none => False
section
variable {X : Cx} {a b c : Expr} {ta tb : DT} {tA tB : DTT} {rest : List Expr} {pos : Pos}
theorem Reps.empty {K : PySem.W.Frag} {S : Hp} {ds : List D} {vs : List V} (r : Reps K S ds vs) : ds.isEmpty = vs.isEmpty := by
  cases ds with
  | nil => cases vs with
    | nil => rfl
    | cons _ _ => exact r.elim
  | cons _ _ => cases vs with
    | nil => exact r.elim
    | cons _ _ => rfl
theorem d_truth (ha : DE X a ta) (he : ∀ whole, isTrue a X.env whole = (do let v ← whole; standAt a.pos; holding [v] (truthy v)) := by intro _; rfl) : DTst X a (dTru ta) := by
  refine pt_imp (pt_truth ha he) fun σ H Q ⟨F, S, env, M, Qd, R, t, p⟩ => ⟨F, S, env, M, _, R, t, fun v H' S' env' M' d s' R' r q => ?_⟩
  cases d with
  | non => cases r; exact ⟨false, rfl, p _ _ S' env' M' s' R' q⟩
  | bl k => cases r; exact ⟨k, rfl, p _ _ S' env' M' s' R' q⟩
  | int i => cases r; exact ⟨_, rfl, p _ _ S' env' M' s' R' q⟩
  | tup ds =>
    obtain ⟨l, xs, rfl, h, t⟩ := r
    refine ⟨_, .inr (.inl ⟨xs, DL.Same.tup R'.c.same h, rfl⟩), ?_⟩
    rw [← t.empty]
    exact p _ _ S' env' M' s' R' q
  | lst ds =>
    obtain ⟨l, xs, rfl, h, t⟩ := r
    refine ⟨_, .inl ⟨xs, .of (R'.c.same _ _ h), rfl⟩, ?_⟩
    rw [← t.empty]
    exact p _ _ S' env' M' s' R' q
  | _ => exact q.elim
@[reducible] def dAnd (t u : DTT) : DTT := fun env M Q => t env M fun c env1 M1 => match c with
  | true => u env1 M1 Q
  | false => Q false env1 M1
@[reducible] def dOr (t u : DTT) : DTT := fun env M Q => t env M fun c env1 M1 => match c with
  | true => Q true env1 M1
  | false => u env1 M1 Q
@[reducible] def dNot (t : DTT) : DTT := fun env M Q => t env M fun c env1 M1 => Q (nb c) env1 M1
theorem w_and1 (ha : DTst X a tA) : DW X (.BoolOp .And [a] pos) tA := pw_and1 ha
theorem w_or1 (ha : DTst X a tA) : DW X (.BoolOp .Or [a] pos) tA := pw_or1 ha
theorem w_and (ha : DTst X a tA) (hb : DW X (.BoolOp .And (b :: rest) pos) tB) : DW X (.BoolOp .And (a :: b :: rest) pos) (dAnd tA tB) :=
  pw_imp (pw_and ha hb) fun σ H Q ⟨F, S, env, M, Qd, R, t, p⟩ => ⟨F, S, env, M, _, R, t, fun k H' S' env' M' s' R' q => by
    cases k with
    | true => exact ⟨F, S', env', M', Qd, R', q, fun k2 H2 S2 env2 M2 s2 R2 q2 => p k2 H2 S2 env2 M2 (s'.trans s2) R2 q2⟩
    | false => exact p false H' S' env' M' s' R' q⟩
theorem w_or (ha : DTst X a tA) (hb : DW X (.BoolOp .Or (b :: rest) pos) tB) : DW X (.BoolOp .Or (a :: b :: rest) pos) (dOr tA tB) :=
  pw_imp (pw_or ha hb) fun σ H Q ⟨F, S, env, M, Qd, R, t, p⟩ => ⟨F, S, env, M, _, R, t, fun k H' S' env' M' s' R' q => by
    cases k with
    | false => exact ⟨F, S', env', M', Qd, R', q, fun k2 H2 S2 env2 M2 s2 R2 q2 => p k2 H2 S2 env2 M2 (s'.trans s2) R2 q2⟩
    | true => exact p true H' S' env' M' s' R' q⟩
theorem d_wt (h : DW X a tA) : DTst X a tA := h.pt
theorem d_not (ha : DTst X a tA) : DTst X (.UnaryOp .Not a pos) (dNot tA) :=
  pt_imp (pt_not ha) fun σ H Q ⟨F, S, env, M, Qd, R, t, p⟩ => ⟨F, S, env, M, _, R, t, fun k H' S' env' M' s' R' q => by show Q (!k) H'; rw [← nb_eq]; exact p (nb k) H' S' env' M' s' R' q⟩
@[reducible] def dIf (t : DTT) (ta tb : DT) : DT := fun env M Q => t env M fun c env1 M1 => match c with
  | true => ta env1 M1 Q
  | false => tb env1 M1 Q
theorem d_ifExp (hc : DTst X c tA) (ha : DE X a ta) (hb : DE X b tb) : DE X (.IfExp c a b pos) (dIf tA ta tb) :=
  pe_imp (pe_ifExp hc ha hb) fun σ H Q ⟨F, S, env, M, Qd, R, t, p⟩ => ⟨F, S, env, M, _, R, t, fun k H' S' env' M' s' R' q => by
    cases k with
    | true => exact ⟨F, S', env', M', Qd, R', q, p.up s'⟩
    | false => exact ⟨F, S', env', M', Qd, R', q, p.up s'⟩⟩
/-- as values: bools -/
@[reducible] def dAndV (ta tb : DT) : DT := fun env M Q => ta env M fun d env1 M1 => match d with
  | .bl true => tb env1 M1 Q
  | .bl false => Q (.bl false) env1 M1
  | _ => False
@[reducible] def dOrV (ta tb : DT) : DT := fun env M Q => ta env M fun d env1 M1 => match d with
  | .bl true => Q (.bl true) env1 M1
  | .bl false => tb env1 M1 Q
  | _ => False
@[reducible] def dNotV (ta : DT) : DT := fun env M Q => ta env M fun d env1 M1 => match d with
  | .bl k => Q (.bl (nb k)) env1 M1
  | _ => False
theorem d_one {op} (h : DE X a ta) : DE X (.BoolOp op [a] pos) ta := pe_one h
theorem d_and (ha : DE X a ta) (hb : DE X (.BoolOp .And (b :: rest) pos) tb) : DE X (.BoolOp .And (a :: b :: rest) pos) (dAndV ta tb) :=
  pe_imp (pe_and ha hb) fun σ H Q ⟨F, S, env, M, Qd, R, t, p⟩ => ⟨F, S, env, M, _, R, t, fun v H' S' env' M' d s' R' r q => by
    cases d with
    | bl k =>
      refine ⟨k, r, ?_⟩
      cases k with
      | true => exact ⟨F, S', env', M', Qd, R', q, p.up s'⟩
      | false => exact p _ H' S' env' M' (.bl false) s' R' rfl q
    | _ => exact q.elim⟩
theorem d_or (ha : DE X a ta) (hb : DE X (.BoolOp .Or (b :: rest) pos) tb) : DE X (.BoolOp .Or (a :: b :: rest) pos) (dOrV ta tb) :=
  pe_imp (pe_or ha hb) fun σ H Q ⟨F, S, env, M, Qd, R, t, p⟩ => ⟨F, S, env, M, _, R, t, fun v H' S' env' M' d s' R' r q => by
    cases d with
    | bl k =>
      refine ⟨k, r, ?_⟩
      cases k with
      | false => exact ⟨F, S', env', M', Qd, R', q, p.up s'⟩
      | true => exact p _ H' S' env' M' (.bl true) s' R' rfl q
    | _ => exact q.elim⟩
theorem d_notV (ha : DE X a ta) : DE X (.UnaryOp .Not a pos) (dNotV ta) :=
  pe_imp (pe_not ha) fun σ H Q ⟨F, S, env, M, Qd, R, t, p⟩ => ⟨F, S, env, M, _, R, t, fun v H' S' env' M' d s' R' r q => by
    cases d with
    | bl k => exact ⟨k, r, p _ H' S' env' M' (.bl (nb k)) s' R' (congrArg V.bl (nb_eq k).symm) q⟩
    | _ => exact q.elim⟩
end

/-! ### argument lists, displays -/
@[reducible] def dNil : DTA := fun env M Q => Q [] env M
@[reducible] def dCons (ta : DT) (tr : DTA) : DTA := fun env M Q => ta env M fun d env1 M1 => tr env1 M1 fun ds env2 M2 => Q (d :: ds) env2 M2
section
variable {X : Cx} {e : Expr} {es : List Expr} {te : DT} {t : DTA} {pos : Pos}
theorem a_nil : DA X [] dNil := pa_imp pa_nil fun σ H Q ⟨F, S, env, M, Qd, R, t, p⟩ => p [] H S env M [] (Same.refl _) R trivial t
theorem lift_cons {te : DT} {t : DTA} {σ : L2.St} {H : Hp} {Q : List V → Hp → Prop} {K : PySem.W.Frag} (h : LA K (dCons te t) σ H Q) : tCons (LE K te) (LA K t) σ H Q := by
  obtain ⟨F, S, env, M, Qd, R, h, p⟩ := h
  exact ⟨F, S, env, M, _, R, h, fun v H' S' env' M' d s' R' r q => ⟨F, S', env', M', _, R', q, fun vs H2 S2 env2 M2 ds s2 R2 r2 q2 => p (v :: vs) H2 S2 env2 M2 (d :: ds) (s'.trans s2) R2 ⟨r.mono s2, r2⟩ q2⟩⟩
theorem a_cons (ha : DE X e te) (hr : DA X es t) (hs : starEach (e :: es) X.env = (false, eval e X.env) :: starEach es X.env := by rfl) : DA X (e :: es) (dCons te t) :=
  pa_imp (pa_cons ha hr hs) fun σ H Q h => lift_cons h
theorem k_nil : DKw X [] dNil := pk_imp pk_nil fun σ H Q ⟨F, S, env, M, Qd, R, t, p⟩ => p [] H S env M [] (Same.refl _) R trivial t
theorem k_cons {nm : Option Str} {kpos : Pos} {kws : List Keyword} (ha : DE X e te) (hr : DKw X kws t) : DKw X (⟨nm, e, kpos⟩ :: kws) (dCons te t) :=
  pk_imp (pk_cons ha hr) fun σ H Q h => lift_cons h
@[reducible] def dTup (t : DTA) : DT := fun env M Q => t env M fun ds env1 M1 => ds.length ≤ sizeLine ∧ Q (.tup ds) env1 M1
@[reducible] def dLst (t : DTA) : DT := fun env M Q => t env M fun ds env1 M1 => ds.length ≤ sizeLine ∧ Q (.lst ds) env1 M1
theorem d_tup {x1} (h : DA X es t) : DE X (.Tuple es x1 pos) (dTup t) :=
  pe_imp (pe_tup h) fun σ H Q ⟨F, S, env, M, Qd, R, t, p⟩ => ⟨F, S, env, M, _, R, t, fun vs H' S' env' M' ds s' R' r q => ⟨by rw [← r.length]; exact q.1, fun u hu => by
    obtain ⟨R2, s2⟩ := R'.new (o := .tup vs) hu
    exact p _ _ _ env' M' (.tup ds) (s'.trans s2) R2 (rep_tup r (R'.c.sfree hu)) q.2⟩⟩
theorem d_lst (h : DA X es t) : DE X (.List es pos) (dLst t) :=
  pe_imp (pe_lst h) fun σ H Q ⟨F, S, env, M, Qd, R, t, p⟩ => ⟨F, S, env, M, _, R, t, fun vs H' S' env' M' ds s' R' r q => ⟨by rw [← r.length]; exact q.1, fun u hu => by
    obtain ⟨R2, s2⟩ := R'.new (o := .lst vs) hu
    exact p _ _ _ env' M' (.lst ds) (s'.trans s2) R2 (rep_lst r (R'.c.sfree hu)) q.2⟩⟩
end

/-! ### subscripts -/
/-- xs[i], t[i], s[i] -/
@[reducible] def rdIx : RD2 := fun d e env M Q => match e with
  | .int i => (match d with
    | .str z => z.length ≤ sizeLine ∧ (match atI z.cps.toList i with
      | some c => Q (.str ⟨#[c]⟩) env M
      | none => False)
    | _ => (match seqD d with
      | some ds => (match atI ds i with
        | some r => Q r env M
        | none => False)
      | none => False))
  | _ => False
theorem reps_atI {K : PySem.W.Frag} {S : Hp} {ds : List D} {vs : List V} {i : Int} {r : D} (h : Reps K S ds vs) (e : atI ds i = some r) : ∃ v, atI vs i = some v ∧ Rep K S r v := by
  unfold atI at e ⊢
  rw [← h.length]
  cases q : ixN ds.length i with
  | none => rw [q] at e; cases e
  | some j =>
    rw [q] at e
    obtain ⟨v, e1, r1⟩ := h.get (show ds[j]? = some r from e)
    exact ⟨v, e1, r1⟩
section
variable {X : Cx} {a b : Expr} {ta tb : DT} {pos : Pos}
theorem d_ix (ha : DE X a ta) (hb : DE X b tb) (hs : PlainIx b := by exact fun _ _ => rfl) : DE X (.Subscript a b pos) (dBin rdIx ta tb) := by
  refine pe_imp (pe_ix ix_seq ha hb hs) fun σ H Q q => lift2 (r := rIx X.K) (fun F S σ H env M x y d e Qd Q R r1 r2 q p => ?_) q
  unfold rdIx at q
  cases e with
  | int i =>
    cases r2
    have seq : ∀ ds, seqD d = some ds → (match atI ds i with | some r => Qd r env M | none => False) → rIx X.K x (.int i) H Q := fun ds hd q => by
      obtain ⟨p1, xs, rfl, h, t⟩ := rep_seq R.c.same hd r1
      cases he : atI ds i with
      | none => rw [he] at q; exact q.elim
      | some r =>
        rw [he] at q
        obtain ⟨v, e1, r'⟩ := reps_atI t he
        have fin := p v H S env M r (Same.refl _) R r' q
        rcases h with h | h
        · exact .inl ⟨p1, xs, i, v, rfl, rfl, h, e1, fin⟩
        · exact .inr (.inl ⟨p1, xs, i, v, rfl, rfl, h, e1, fin⟩)
    cases d with
    | str z =>
      cases r1
      obtain ⟨hz, q⟩ := q
      cases he : atI z.cps.toList i with
      | none => rw [he] at q; exact q.elim
      | some c =>
        rw [he] at q
        exact .inr (.inr ⟨z, i, c, rfl, rfl, hz, he, p _ H S env M (.str ⟨#[c]⟩) (Same.refl _) R rfl q⟩)
    | tup ds => exact seq ds rfl q
    | lst ds => exact seq ds rfl q
    | lstK ds => exact seq ds rfl q
    | _ => exact q.elim
  | _ => exact q.elim
end

/-! ### slices -/
abbrev DTO := Ev → Mem → (Option Int → Ev → Mem → Prop) → Prop
def LO (K : PySem.W.Frag) (t : DTO) : TO := fun σ H Q => ∃ F S env M Qd, Rel K F S σ H env M ∧ t env M Qd ∧ ∀ o H' S' env' M', Same S S' → Rel K F S' σ H' env' M' → Qd o env' M' → Q o H'
abbrev DO (X : Cx) (e : Option Expr) (t : DTO) : Prop := PO X e (LO X.K t)
theorem po_imp {X : Cx} {e : Option Expr} {t t' : TO} (h : PO X e t) (i : ∀ σ H Q, t' σ H Q → t σ H Q) : PO X e t' := ⟨fun pins s σ H Q I q => h.run pins s σ H Q I (i σ H Q q)⟩
@[reducible] def dNoPart : DTO := fun env M Q => Q none env M
@[reducible] def dPart (t : DT) : DTO := fun env M Q => t env M fun d env' M' => match d with
  | .int i => Q (some i) env' M'
  | _ => False
/-- s[i:j], xs[i:j], t[i:j] (not the whole of t) -/
@[reducible] def rdSl (d : D) (lo hi : Option Int) : DT := fun env M Q => match d with
  | .str z => z.length ≤ sizeLine ∧ Q (.str (cutS z lo hi)) env M
  | .tup ds => ¬ (HT.sIx ds.length 0 lo = 0 ∧ HT.sIx ds.length ds.length hi = ds.length) ∧ Q (.tup ((ds.drop (HT.sIx ds.length 0 lo)).take (HT.sIx ds.length ds.length hi - HT.sIx ds.length 0 lo))) env M
  | .lst ds => Q (.lst ((ds.drop (HT.sIx ds.length 0 lo)).take (HT.sIx ds.length ds.length hi - HT.sIx ds.length 0 lo))) env M
  | .lstK ds => Q (.lst ((ds.drop (HT.sIx ds.length 0 lo)).take (HT.sIx ds.length ds.length hi - HT.sIx ds.length 0 lo))) env M
  | _ => False
@[reducible] def dSl (te : DT) (tl th : DTO) : DT := fun env M Q => te env M fun d env1 M1 => tl env1 M1 fun lo env2 M2 => th env2 M2 fun hi env3 M3 => rdSl d lo hi env3 M3 Q
section
variable {X : Cx} {e : Expr} {te : DT} {lo hi : Option Expr} {tl th : DTO} {pos p2 : Pos}
theorem o_none : DO X none dNoPart := po_imp po_none fun σ H Q ⟨F, S, env, M, Qd, R, t, p⟩ => p none H S env M (Same.refl _) R t
theorem o_some (h : DE X e te) : DO X (some e) (dPart te) := po_imp (po_some h) fun σ H Q ⟨F, S, env, M, Qd, R, t, p⟩ => ⟨F, S, env, M, _, R, t, fun v H' S' env' M' d s' R' r q => by
  cases d with
  | int i => exact ⟨i, r, p _ H' S' env' M' s' R' q⟩
  | _ => exact q.elim⟩
theorem d_slice (he : DE X e te) (hl : DO X lo tl) (hu : DO X hi th) : DE X (.Subscript e (.Slice lo hi none p2) pos) (dSl te tl th) := by
  refine pe_imp (pe_slice ((sl_list (X := X)).or (sl_tup.or sl_str)) he hl hu) fun σ H Q ⟨F, S, env, M, Qd, R, t, p⟩ => ⟨F, S, env, M, _, R, t, fun v H1 S1 env1 M1 d s1 R1 r1 q1 =>
    ⟨F, S1, env1, M1, _, R1, q1, fun l H2 S2 env2 M2 s2 R2 q2 => ⟨F, S2, env2, M2, _, R2, q2, fun u H3 S3 env3 M3 s3 R3 q3 => ?_⟩⟩⟩
  have r3 := r1.mono (s2.trans s3)
  have p3 := p.up (s1.trans (s2.trans s3))
  cases d with
  | str z => cases r3; exact .inr (.inr ⟨z, rfl, q3.1, p3 _ H3 S3 env3 M3 (.str _) (Same.refl _) R3 rfl q3.2⟩)
  | tup ds =>
    obtain ⟨a, xs, rfl, h, t⟩ := r3
    have el := t.length
    refine .inr (.inl ⟨a, xs, rfl, DL.Same.tup R3.c.same h, by rw [← el]; exact q3.1, fun w hw => ?_⟩)
    obtain ⟨R4, s4⟩ := R3.new (o := .tup (cutV xs l u)) hw
    refine p3 _ _ _ env3 M3 (.tup _) s4 R4 (rep_tup ?_ (R3.c.sfree hw)) q3.2
    unfold cutV
    rw [el]
    exact (t.drop _).take _
  | lst ds =>
    obtain ⟨a, xs, rfl, h, t⟩ := r3
    have el := t.length
    refine .inl ⟨a, xs, rfl, .of (R3.c.same _ _ h), fun w hw => ?_⟩
    obtain ⟨R4, s4⟩ := R3.new (o := .lst (cutV xs l u)) hw
    refine p3 _ _ _ env3 M3 (.lst _) s4 R4 (rep_lst ?_ (R3.c.sfree hw)) q3
    unfold cutV
    rw [el]
    exact (t.drop _).take _
  | lstK ds =>
    obtain ⟨a, xs, rfl, h, t⟩ := r3
    have el := t.length
    refine .inl ⟨a, xs, rfl, L2.Same.seq R3.c.same h, fun w hw => ?_⟩
    obtain ⟨R4, s4⟩ := R3.new (o := .lst (cutV xs l u)) hw
    refine p3 _ _ _ env3 M3 (.lst _) s4 R4 (rep_lst ?_ (R3.c.sfree hw)) q3
    unfold cutV
    rw [el]
    exact (t.drop _).take _
  | _ => exact q3.elim
end

/-! ### built-in functions by their names -/
abbrev RDA := List D → DT
structure CallD (X : Cx) (f : Value) (rd : RDA) : Prop where
  ex : ∃ r, CallR X f r ∧ ∀ F S σ H env M xs ds Qd Q, Rel X.K F S σ H env M → Reps X.K S ds xs → rd ds env M Qd → PostE X.K F S σ Qd Q → r xs H Q
@[reducible] def dCB (rd : RDA) (t : DTA) : DT := fun env M Q => t env M fun ds env1 M1 => rd ds env1 M1 Q
section
variable {X : Cx} {x : Str} {p pos : Pos} {e : Expr} {es : List Expr} {t : DTA} {id T : String} {rd : RDA}
theorem lift_cb {r : List V → Hp → VK → Prop} (h2 : ∀ F S σ H env M xs ds Qd Q, Rel X.K F S σ H env M → Reps X.K S ds xs → rd ds env M Qd → PostE X.K F S σ Qd Q → r xs H Q) {σ : L2.St} {H : Hp} {Q : VK} (q : LE X.K (dCB rd t) σ H Q) : tCB r (LA X.K t) σ H Q := by
  obtain ⟨F, S, env, M, Qd, R, t, p⟩ := q
  exact ⟨F, S, env, M, _, R, t, fun vs H' S' env' M' ds s' R' r q => h2 F S' σ H' env' M' vs ds Qd Q R' r q (p.up s')⟩
theorem d_callB (hc : CallD X (.builtin id) rd) (hg : Gl X x) (hm : X.mg x = none) (hv : bootBuiltins x = some (.builtin id)) (ha : DA X (e :: es) t) (hn : x ≠ "__name__" := by decide) (hdb : (x == ("__debug__" : Str)) = false := by decide)
    (he : starEach (e :: es) X.env = (false, eval e X.env) :: starEach es X.env := by rfl) (hpl : (backTo pos (starEach es X.env)).any (·.1) = false := by rfl) : DE X (.Call (.Name x p) (e :: es) [] pos) (dCB rd t) := by
  obtain ⟨r, h1, h2⟩ := hc.ex
  exact pe_imp (pe_callB h1 hg hm hv ha hn hdb he hpl) fun σ H Q q => lift_cb h2 q
theorem d_callTy (hc : CallD X (.type T) rd) (hg : Gl X x) (hm : X.mg x = none) (hv : bootBuiltins x = some (.type T)) (ha : DA X (e :: es) t) (hn : x ≠ "__name__" := by decide) (hdb : (x == ("__debug__" : Str)) = false := by decide)
    (he : starEach (e :: es) X.env = (false, eval e X.env) :: starEach es X.env := by rfl) (hpl : (backTo pos (starEach es X.env)).any (·.1) = false := by rfl) : DE X (.Call (.Name x p) (e :: es) [] pos) (dCB rd t) := by
  obtain ⟨r, h1, h2⟩ := hc.ex
  exact pe_imp (pe_callTy h1 hg hm hv ha hn hdb he hpl) fun σ H Q q => lift_cb h2 q
/-- len -/
@[reducible] def rdLen : RDA := fun ds env M Q => match ds with
  | [.str z] => z.length ≤ sizeLine ∧ Q (.int z.length) env M
  | [d] => (match seqD d with
    | some es => Q (.int es.length) env M
    | none => False)
  | _ => False
theorem cd_len : CallD X (.builtin "len") rdLen := by
  refine ⟨⟨_, (call_len_seq (X := X)).or call_len_str, fun F S σ H env M xs ds Qd Q R r q p => ?_⟩⟩
  cases ds with
  | nil => exact q.elim
  | cons d rs =>
    cases rs with
    | cons _ _ => cases d <;> exact q.elim
    | nil =>
      obtain ⟨v, rfl, r1⟩ := r.one
      have seq : ∀ es, seqD d = some es → Qd (.int es.length) env M → (∃ p ys, [v] = [V.ref p] ∧ (SqL X.K H p ys ∨ SqT X.K H p ys) ∧ Q (.int ys.length) H) := fun es hd q => by
        obtain ⟨p1, ys, rfl, h, t⟩ := rep_seq R.c.same hd r1
        refine ⟨p1, ys, rfl, h, ?_⟩
        rw [← t.length]
        exact p _ H S env M (.int _) (Same.refl _) R rfl q
      cases d with
      | str z => cases r1; exact .inr ⟨z, rfl, q.1, p _ H S env M (.int _) (Same.refl _) R rfl q.2⟩
      | tup es => exact .inl (seq es rfl q)
      | lst es => exact .inl (seq es rfl q)
      | lstK es => exact .inl (seq es rfl q)
      | _ => exact q.elim
/-- int(n), int(flag) -/
@[reducible] def rdInt : RDA := fun ds env M Q => match ds with
  | [.int i] => Q (.int i) env M
  | [.bl k] => Q (.int (if k then 1 else 0)) env M
  | _ => False
theorem cd_int : CallD X (.type "int") rdInt := by
  refine ⟨⟨_, call_int1 (X := X), fun F S σ H env M xs ds Qd Q R r q p => ?_⟩⟩
  cases ds with
  | nil => exact q.elim
  | cons d rs =>
    cases rs with
    | cons _ _ => cases d <;> exact q.elim
    | nil =>
      obtain ⟨v, rfl, r1⟩ := r.one
      cases d with
      | int i => cases r1; exact .inl ⟨i, rfl, p _ H S env M (.int i) (Same.refl _) R rfl q⟩
      | bl k => cases r1; exact .inr ⟨k, rfl, p _ H S env M (.int (if k then 1 else 0)) (Same.refl _) R rfl q⟩
      | _ => exact q.elim
/-- min(i, j), max(i, j) -/
@[reducible] def rdII (g : Int → Int → D) : RDA := fun ds env M Q => match ds with
  | [.int i, .int j] => Q (g i j) env M
  | _ => False
theorem cd_II {f : Value} {g : Int → Int → Int} (h : CallR X f (fun xs H Q => ∃ i j, xs = [.int i, .int j] ∧ Q (.int (g i j)) H)) : CallD X f (rdII fun i j => .int (g i j)) := by
  refine ⟨⟨_, h, fun F S σ H env M xs ds Qd Q R r q p => ?_⟩⟩
  cases ds with
  | nil => exact q.elim
  | cons d rs =>
    cases d with
    | int i =>
      cases rs with
      | nil => exact q.elim
      | cons e rs2 =>
        cases e with
        | int j =>
          cases rs2 with
          | cons _ _ => exact q.elim
          | nil =>
            obtain ⟨v, u, rfl, r1, r2⟩ := r.two
            cases r1
            cases r2
            exact ⟨i, j, rfl, p _ H S env M (.int (g i j)) (Same.refl _) R rfl q⟩
        | _ => exact q.elim
    | _ => exact q.elim
theorem cd_min (hc : X.calm = true) : CallD X (.builtin "min") (rdII fun i j => .int (if j < i then j else i)) := cd_II (call_min2 hc)
theorem cd_max (hc : X.calm = true) : CallD X (.builtin "max") (rdII fun i j => .int (if j > i then j else i)) := cd_II (call_max2 hc)
/-- a list of ints -/
def intsD : List D → Option (List Int)
  | [] => some []
  | .int i :: r => (intsD r).map (i :: ·)
  | _ :: _ => none
theorem reps_ints {K : PySem.W.Frag} {S : Hp} : ∀ {ds : List D} {vs : List V} {ns : List Int}, Reps K S ds vs → intsD ds = some ns → vs = ns.map V.int
  | [], [], _, _, e => by cases e; rfl
  | d :: r, v :: vs, ns, h, e => by
    cases d with
    | int i =>
      simp only [intsD] at e
      cases q : intsD r with
      | none => rw [q] at e; cases e
      | some ms =>
        rw [q] at e
        cases e
        rw [reps_ints h.2 q, show v = V.int i from h.1]
        rfl
    | _ => cases e
  | [], _ :: _, _, h, _ => h.elim
  | _ :: _, [], _, h, _ => h.elim
theorem intsD_map (ns : List Int) : intsD (ns.map D.int) = some ns := by
  induction ns with
  | nil => rfl
  | cons n r ih => simp only [List.map_cons, intsD, ih, Option.map_some]
@[reducible] def rdSum : RDA := fun ds env M Q => match ds with
  | [.lst es] => (match intsD es with
    | some ns => Q (.int ns.sum) env M
    | none => False)
  | _ => False
end
end DL
set_option Elab.async false
set_option linter.all false
set_option maxRecDepth 100000
set_option maxHeartbeats 1000000
/-! DL3: fields, calls, statements, loops, comprehensions, a def's promise. -/
namespace DL
open PySem PySem.Spec PyProof.Rows L2

/-! ### fields -/
def fget (f : Str) (ns : List Str) (ds : List D) : Option D := (ns.zip ds).lookup f
theorem reps_fget {K : PySem.W.Frag} {S : Hp} {f : Str} {d : D} : ∀ {ns : List Str} {ds : List D} {xs : List V}, Reps K S ds xs → fget f ns ds = some d → ∃ v, (ns.zip xs).lookup f = some v ∧ Rep K S d v
  | [], _, _, _, e => by cases e
  | _ :: _, [], [], _, e => by cases e
  | n :: ns, d' :: ds, x :: xs, h, e => by
    unfold fget at e
    rw [List.zip_cons_cons, List.lookup_cons] at e ⊢
    cases hb : f == n with
    | true =>
      rw [hb] at e
      cases e
      exact ⟨x, rfl, h.1⟩
    | false =>
      rw [hb] at e
      exact reps_fget h.2 e
  | _ :: _, [], _ :: _, h, _ => h.elim
  | _ :: _, _ :: _, [], h, _ => h.elim
theorem reps_fget_none {K : PySem.W.Frag} {S : Hp} {f : Str} : ∀ {ns : List Str} {ds : List D} {xs : List V}, Reps K S ds xs → fget f ns ds = none → (ns.zip xs).lookup f = none
  | [], _, _, _, e => by rfl
  | _ :: _, [], [], _, e => by rfl
  | n :: ns, d' :: ds, x :: xs, h, e => by
    unfold fget at e
    rw [List.zip_cons_cons, List.lookup_cons] at e ⊢
    cases hb : f == n with
    | true =>
      rw [hb] at e
      cases e
    | false =>
      rw [hb] at e
      exact reps_fget_none h.2 e
  | _ :: _, [], _ :: _, h, _ => h.elim
  | _ :: _, _ :: _, [], h, _ => h.elim
def fputN (f : Str) : List Str → List Str
  | [] => [f]
  | g :: r => if g = f then g :: r else g :: fputN f r
def fputD {α : Type} (f : Str) (d : α) : List Str → List α → List α
  | g :: r, x :: xs => if g = f then d :: xs else x :: fputD f d r xs
  | _, _ => [d]
theorem putF_zip {f : Str} {v : V} : ∀ {ns : List Str} {xs : List V}, xs.length = ns.length → putF f v (ns.zip xs) = (fputN f ns).zip (fputD f v ns xs) ∧ (fputD f v ns xs).length = (fputN f ns).length
  | [], [], _ => ⟨rfl, rfl⟩
  | n :: ns, x :: xs, h => by
    have ih := putF_zip (f := f) (v := v) (ns := ns) (xs := xs) (Nat.succ.inj h)
    unfold fputN fputD
    rw [List.zip_cons_cons]
    unfold putF
    by_cases e : n = f
    · rw [if_pos e, if_pos e, if_pos e]
      exact ⟨by rw [List.zip_cons_cons], h⟩
    · rw [if_neg e, if_neg e, if_neg e]
      exact ⟨by rw [List.zip_cons_cons, ih.1], congrArg Nat.succ ih.2⟩
  | [], _ :: _, h => by cases h
  | _ :: _, [], h => by cases h
theorem reps_fput {K : PySem.W.Frag} {S : Hp} {f : Str} {d : D} {v : V} (r : Rep K S d v) : ∀ {ns : List Str} {ds : List D} {xs : List V}, Reps K S ds xs → Reps K S (fputD f d ns ds) (fputD f v ns xs)
  | [], [], [], _ => ⟨r, trivial⟩
  | [], _ :: _, _ :: _, _ => ⟨r, trivial⟩
  | _ :: _, [], [], _ => ⟨r, trivial⟩
  | n :: ns, d' :: ds, x :: xs, h => by
    unfold fputD
    by_cases e : n = f
    · rw [if_pos e, if_pos e]
      exact ⟨r, h.2⟩
    · rw [if_neg e, if_neg e]
      exact ⟨h.1, reps_fput r h.2⟩
  | _, [], _ :: _, h => h.elim
  | _, _ :: _, [], h => h.elim
def FldOk (K : PySem.W.Frag) (C : Addr) (f : Str) : Prop := Cls K C ∧ NoAttr K C f
/-- the fields of a thing -/
@[reducible] def insD (d : D) (M : Mem) : Option (Addr × List Str × List D) := match d with
  | .obj C ns ds => some (C, ns, ds)
  | .ref a => (match M a with
    | some (.ins C ns ds) => some (C, ns, ds)
    | _ => none)
  | _ => none
theorem insD_at {K : PySem.W.Frag} {F S H : Hp} {M : Mem} {d : D} {v : V} {C : Addr} {ns : List Str} {ds : List D} (R : RelC K F S H M) (h : insD d M = some (C, ns, ds)) (r : Rep K S d v) :
    ∃ a dx xs, v = .ref a ∧ H a = some (.ins C dx (ns.zip xs)) ∧ xs.length = ns.length ∧ Reps K S ds xs := by
  cases d with
  | obj C' ns' ds' =>
    cases h
    obtain ⟨a, dx, xs, rfl, e, l, t⟩ := r
    exact ⟨a, dx, xs, rfl, R.same _ _ e, l, t⟩
  | ref a =>
    unfold insD at h
    cases e : M a with
    | none => simp only [e] at h; cases h
    | some o =>
      cases o with
      | ins C' ns' ds' =>
        simp only [e] at h
        cases h
        obtain ⟨dx, xs, e1, l, t⟩ := (R.mem a _ e).2
        exact ⟨a, dx, xs, r, e1, l, t⟩
      | _ => simp only [e] at h; cases h
  | _ => cases h
@[reducible] def dFld (K : PySem.W.Frag) (t : DT) (f : Str) : DT := fun env M Q => t env M fun d env1 M1 => match insD d M1 with
  | some (C, ns, ds) => FldOk K C f ∧ (match fget f ns ds with
    | some r => Q r env1 M1
    | none => False)
  | none => False
section
variable {X : Cx} {e : Expr} {f : Str} {pos : Pos} {te : DT}
theorem d_fld (he : DE X e te) (hb : attributeBase e f X.env (eval e X.env) = eval e X.env := by rfl) : DE X (.Attribute e f pos) (dFld X.K te f) := by
  refine pe_imp (pe_fld he hb) fun σ H Q ⟨F, S, env, M, Qd, R, t, p⟩ => ⟨F, S, env, M, _, R, t, fun v H' S' env' M' d s' R' r q => ?_⟩
  cases hi : insD d M' with
  | none => simp only [hi] at q
  | some z =>
    obtain ⟨C, ns, ds⟩ := z
    simp only [hi] at q
    obtain ⟨c, q⟩ := q
    cases hf : fget f ns ds with
    | none => simp only [hf] at q
    | some y =>
      simp only [hf] at q
      obtain ⟨a, dx, xs, rfl, e1, l, t⟩ := insD_at R'.c hi r
      obtain ⟨u, e2, r2⟩ := reps_fget t hf
      exact ⟨a, C, dx, _, u, rfl, e1, c.1, c.2, e2, p u H' S' env' M' y s' R' r2 q⟩
end

/-! ### promises -/
abbrev KR := D → Mem → Prop
abbrev KX := Addr → List Str → List D → Mem → Prop
abbrev DSp := List D → Mem → KR → KX → Prop
abbrev KX0 : KX := fun _ _ _ _ => False
def XRep (K : PySem.W.Frag) (S H : Hp) (od : Option Addr) (ns : List Str) (ds : List D) : Prop :=
  (ns = [] ∧ ds = [] ∧ od = none) ∨ ∃ d xs, od = some d ∧ H d = some (.xd (ns.zip xs)) ∧ xs.length = ns.length ∧ Reps K S ds xs
def PostR (K : PySem.W.Frag) (F S : Hp) (Qd : KR) (Q : VK) : Prop := ∀ v H' S' M' d, Same S S' → RelC K F S' H' M' → Rep K S' d v → Qd d M' → Q v H'
def PostX (K : PySem.W.Frag) (F S : Hp) (Ed : KX) (E : XK) : Prop := ∀ C od H' S' M' ns ds, Same S S' → RelC K F S' H' M' → XRep K S' H' od ns ds → Ed C ns ds M' → E (.ref C) od H'
def LSp (K : PySem.W.Frag) (sp : DSp) : Sp := fun vs H Q E => ∃ F S ds M Qd Ed, RelC K F S H M ∧ Reps K S ds vs ∧ sp ds M Qd Ed ∧ PostR K F S Qd Q ∧ PostX K F S Ed E

open Classical in
/-- the frame of a callee: one's own callers' things, and one's own lists -/
noncomputable def frOwn (F : Hp) (env : Ev) (σ : L2.St) (H : Hp) : Hp := fun a => if ∃ i ds, look env i = .own ds ∧ σ[i]? = some (some (.ref a)) then H a else F a
section
variable {K : PySem.W.Frag} {F S H : Hp} {M : Mem} {σ : L2.St} {env : Ev}
theorem frOwn_own {i : Nat} {ds : List D} {a : Addr} (h : look env i = .own ds) (e : σ[i]? = some (some (.ref a))) : frOwn F env σ H a = H a := by
  unfold frOwn
  rw [if_pos ⟨i, ds, h, e⟩]
theorem frOwn_cases (a : Addr) : (frOwn F env σ H a = F a ∧ ¬ ∃ i ds, look env i = .own ds ∧ σ[i]? = some (some (.ref a))) ∨ (∃ i ds, look env i = .own ds ∧ σ[i]? = some (some (.ref a))) := by
  by_cases h : ∃ i ds, look env i = .own ds ∧ σ[i]? = some (some (.ref a))
  · exact .inr h
  · refine .inl ⟨?_, h⟩
    unfold frOwn
    rw [if_neg h]
theorem Rel.toC (R : Rel K F S σ H env M) : RelC K (frOwn F env σ H) S H M := by
  refine ⟨R.c.same, fun a o e => ?_, R.c.mem⟩
  rcases frOwn_cases (F := F) (env := env) (σ := σ) (H := H) a with ⟨h, _⟩ | ⟨i, ds, h1, h2⟩
  · rw [h] at e
    exact R.c.fr a o e
  · obtain ⟨b, xs, e1, e2, e3, e4, _⟩ := R.own i ds h1
    rw [h2] at e1
    cases e1
    rw [frOwn_own h1 h2] at e
    exact ⟨e, e3, e4⟩
theorem Rel.back {S' H' : Hp} {M' : Mem} (R : Rel K F S σ H env M) (c : RelC K (frOwn F env σ H) S' H' M') (ss : Same S S') : Rel K F S' σ H' env M' := by
  have cc : RelC K F S' H' M' := by
    refine ⟨c.same, fun a o e => ?_, c.mem⟩
    refine c.fr a o ?_
    rcases frOwn_cases (F := F) (env := env) (σ := σ) (H := H) a with ⟨h, _⟩ | ⟨i, ds, h1, h2⟩
    · rw [h]; exact e
    · obtain ⟨b, xs, e1, _, _, _, e5, _⟩ := R.own i ds h1
      rw [h2] at e1
      cases e1
      rw [e5] at e
      cases e
  refine R.grow cc ss fun i a e hi => ?_
  obtain ⟨ds, hi⟩ := hi
  obtain ⟨b, xs, e1, e2, _⟩ := R.own i ds hi
  rw [e] at e1
  cases e1
  have q : frOwn F env σ H a = some (.lst xs) := by rw [frOwn_own hi e]; exact e2
  obtain ⟨h1, h2, h3⟩ := c.fr a _ q
  exact ⟨h1.trans e2.symm, h2, h3⟩
end

/-! ### calls -/
@[reducible] def dCall (sp : DSp) (dds : List D) (t : DTA) : DT := fun env M Q => t env M fun ds env1 M1 => sp (ds ++ dds) M1 (fun d M2 => Q d env1 M2) KX0
theorem sp_of {K : PySem.W.Frag} {F S H : Hp} {M : Mem} {σ : L2.St} {env : Ev} {sp : DSp} {ds : List D} {vs : List V} {Qd : KD} {Q : VK} {E : XK} (R : Rel K F S σ H env M) (r : Reps K S ds vs) (q : sp ds M (fun d M2 => Qd d env M2) KX0) (p : PostE K F S σ Qd Q) :
    LSp K sp vs H Q E := ⟨frOwn F env σ H, S, ds, M, _, _, R.toC, r, q, fun v H' S' M' d s' c r' q' => p v H' S' env M' d s' (R.back c s') r' q', fun _ _ _ _ _ _ _ _ _ _ z => z.elim⟩
section
variable {X : Cx} {CX : CXT} {k : Nat} {f C : Addr} {fd : FuncData} {ps : List Str} {sp : DSp} {dvs : List V} {dds : List D} {dl : List Value} {E : XK} {x m : Str} {p pos apos : Pos} {e o : Expr} {es : List Expr} {ta : DT} {t : DTA}
theorem lift_call (hdd : ∀ S, Reps X.K S dds dvs) {σ : L2.St} {H : Hp} {Q : VK} (q : LE X.K (dCall sp dds t) σ H Q) : tCall (LSp X.K sp) dvs E (LA X.K t) σ H Q := by
  obtain ⟨F, S, env, M, Qd, R, t, p⟩ := q
  exact ⟨F, S, env, M, _, R, t, fun vs H' S' env' M' ds s' R' r q => sp_of R' (r.append (hdd S')) q (p.up s')⟩
theorem d_call (G : FnOk X.prog X.w X.K X.mg X.base CX k f fd ps (LSp X.K sp)) (hr : Room k X.A) (hg : Gl X x) (hm : X.mg x = some (.ref f)) (hk : PySem.W.keepIn X.K (.ref f) = true) (hb : Binds X.K fd ps dl) (hd : Vals dvs dl) (hdd : ∀ S, Reps X.K S dds dvs) (hx : Passes CX X E)
    (ha : DA X (e :: es) t) (hdb : (x == ("__debug__" : Str)) = false := by decide) (he : starEach (e :: es) X.env = (false, eval e X.env) :: starEach es X.env := by rfl) (hpl : (backTo pos (starEach es X.env)).any (·.1) = false := by rfl) :
    DE X (.Call (.Name x p) (e :: es) [] pos) (dCall sp dds t) := pe_imp (pe_call G hr hg hm hk hb hd hx ha hdb he hpl) fun σ H Q q => lift_call hdd q
theorem d_call0 (G : FnOk X.prog X.w X.K X.mg X.base CX k f fd ps (LSp X.K sp)) (hr : Room k X.A) (hg : Gl X x) (hm : X.mg x = some (.ref f)) (hk : PySem.W.keepIn X.K (.ref f) = true) (hb : Binds X.K fd ps dl) (hd : Vals dvs dl) (hdd : ∀ S, Reps X.K S dds dvs) (hx : Passes CX X E)
    (hdb : (x == ("__debug__" : Str)) = false := by decide) : DE X (.Call (.Name x p) [] [] pos) (dCall sp dds dNil) :=
  pe_imp (pe_call0 G hr hg hm hk hb hd hx hdb) fun σ H Q ⟨F, S, env, M, Qd, R, t, p⟩ => sp_of R (hdd S) t p

/-- o.m(..): o an instance of any class that has the method -/
def tMethG (K : PySem.W.Frag) (f : Addr) (m : Str) (sp : Sp) (dvs : List V) (E : XK) (ta : TE) (t : TA) : TE := fun σ H Q => ta σ H fun x H1 => ∃ a C dx fs, x = .ref a ∧ H1 a = some (.ins C dx fs) ∧ Cls K C ∧ Meth K C m f ∧ fs.lookup m = none ∧
  t σ H1 fun vs H2 => sp (x :: (vs ++ dvs)) H2 Q E
theorem pe_methG {pl : Sem Bool} {sp : Sp} {t : TA} {ta : TE} (he : PE X o ta) (F : FnOk X.prog X.w X.K X.mg X.base CX k f fd ps sp) (hr : Room k X.A) (hb : Binds X.K fd ps dl) (hd : Vals dvs dl) (hx : Passes CX X E) (ha : PA X (e :: es) t)
    (hst : starEach (e :: es) X.env = (false, eval e X.env) :: starEach es X.env := by rfl) (hpl : (backTo pos (starEach es X.env)).any (·.1) = false := by rfl)
    (ht : eval (.Call (.Attribute o m apos) (e :: es) [] pos) X.env = (do
      let ov ← eval o X.env
      standAt apos.atName
      let (f, first) ← holding [ov] (getMethod ov m pl)
      callWith pos f first (backTo pos (starEach (e :: es) X.env)) (backToKw pos (keywordEach [] X.env))) := by rfl) :
    PE X (.Call (.Attribute o m apos) (e :: es) [] pos) (tMethG X.K f m sp dvs E ta t) := by
  refine ⟨fun pins s σ H Q I h => ?_⟩
  refine PySem.W.methodCall_KW (pl := pl) (thn (he.run pins s σ H _ I h) fun u s1 ⟨x, H1, I1, rx, a, C, dx, fs, ex, ea, c, hm, l, q⟩ => ?_) ht
  subst ex
  obtain rfl : u = Value.ref a := rx
  refine getmeth_ok I1 ea c hm l ?_
  refine PySem.W.callWith_K (first := [.ref a]) (h₀ := X.base) I.ok.mod.kin hm.kp (thn (ha.run pos pins s1 σ H1 _ I1 q) fun us s2 ⟨vs, H2, I2, r, q2⟩ => ⟨I2.kIn, ?_⟩) hst hpl
  exact run_fn (us := .ref a :: us) (vs := .ref a :: vs) F hr hb hd hx I2 (.cons rfl r) q2
theorem pe_methG0 {pl : Sem Bool} {sp : Sp} {ta : TE} (he : PE X o ta) (F : FnOk X.prog X.w X.K X.mg X.base CX k f fd ps sp) (hr : Room k X.A) (hb : Binds X.K fd ps dl) (hd : Vals dvs dl) (hx : Passes CX X E)
    (ht : eval (.Call (.Attribute o m apos) [] [] pos) X.env = (do
      let ov ← eval o X.env
      standAt apos.atName
      let (f, first) ← holding [ov] (getMethod ov m pl)
      callWith pos f first (backTo pos (starEach [] X.env)) (backToKw pos (keywordEach [] X.env))) := by rfl) :
    PE X (.Call (.Attribute o m apos) [] [] pos) (tMethG X.K f m sp dvs E ta tNil) := by
  refine ⟨fun pins s σ H Q I h => ?_⟩
  refine PySem.W.methodCall_KW (pl := pl) (thn (he.run pins s σ H _ I h) fun u s1 ⟨x, H1, I1, rx, a, C, dx, fs, ex, ea, c, hm, l, q⟩ => ?_) ht
  subst ex
  obtain rfl : u = Value.ref a := rx
  refine getmeth_ok I1 ea c hm l ?_
  exact PySem.W.callWith_K0 (first := [.ref a]) I1.kIn hm.kp (run_fn (us := [.ref a]) (vs := [.ref a]) F hr hb hd hx I1 (.cons rfl .nil) q)
def MethOk (K : PySem.W.Frag) (C : Addr) (m : Str) (f : Addr) (ns : List Str) (ds : List D) : Prop := Cls K C ∧ Meth K C m f ∧ fget m ns ds = none
@[reducible] def dMeth (K : PySem.W.Frag) (f : Addr) (m : Str) (sp : DSp) (dds : List D) (ta : DT) (t : DTA) : DT := fun env M Q => ta env M fun d env1 M1 => match insD d M1 with
  | some (C, ns, ds) => MethOk K C m f ns ds ∧ t env1 M1 fun es env2 M2 => sp (d :: (es ++ dds)) M2 (fun r M3 => Q r env2 M3) KX0
  | none => False
theorem lift_meth (hdd : ∀ S, Reps X.K S dds dvs) {σ : L2.St} {H : Hp} {Q : VK} (q : LE X.K (dMeth X.K f m sp dds ta t) σ H Q) : tMethG X.K f m (LSp X.K sp) dvs E (LE X.K ta) (LA X.K t) σ H Q := by
  obtain ⟨F, S, env, M, Qd, R, t, p⟩ := q
  refine ⟨F, S, env, M, _, R, t, fun v H1 S1 env1 M1 d s1 R1 r1 q1 => ?_⟩
  cases hi : insD d M1 with
  | none => simp only [hi] at q1
  | some z =>
    obtain ⟨C, ns, ds⟩ := z
    simp only [hi] at q1
    obtain ⟨⟨c1, c2, c3⟩, q1⟩ := q1
    obtain ⟨a, dx, xs, rfl, e1, l, t1⟩ := insD_at R1.c hi r1
    exact ⟨a, C, dx, _, rfl, e1, c1, c2, reps_fget_none t1 c3, F, S1, env1, M1, _, R1, q1, fun vs H2 S2 env2 M2 es s2 R2 r2 q2 => sp_of R2 (show Reps X.K S2 (d :: (es ++ dds)) (V.ref a :: (vs ++ dvs)) from ⟨r1.mono s2, r2.append (hdd S2)⟩) q2 (p.up (s1.trans s2))⟩
theorem d_meth {pl : Sem Bool} (he : DE X o ta) (G : FnOk X.prog X.w X.K X.mg X.base CX k f fd ps (LSp X.K sp)) (hr : Room k X.A) (hb : Binds X.K fd ps dl) (hd : Vals dvs dl) (hdd : ∀ S, Reps X.K S dds dvs) (hx : Passes CX X E) (ha : DA X (e :: es) t)
    (hst : starEach (e :: es) X.env = (false, eval e X.env) :: starEach es X.env := by rfl) (hpl : (backTo pos (starEach es X.env)).any (·.1) = false := by rfl)
    (ht : eval (.Call (.Attribute o m apos) (e :: es) [] pos) X.env = (do
      let ov ← eval o X.env
      standAt apos.atName
      let (f, first) ← holding [ov] (getMethod ov m pl)
      callWith pos f first (backTo pos (starEach (e :: es) X.env)) (backToKw pos (keywordEach [] X.env))) := by rfl) :
    DE X (.Call (.Attribute o m apos) (e :: es) [] pos) (dMeth X.K f m sp dds ta t) := pe_imp (pe_methG he G hr hb hd hx ha hst hpl ht) fun σ H Q q => lift_meth hdd q
theorem d_meth0 {pl : Sem Bool} (he : DE X o ta) (G : FnOk X.prog X.w X.K X.mg X.base CX k f fd ps (LSp X.K sp)) (hr : Room k X.A) (hb : Binds X.K fd ps dl) (hd : Vals dvs dl) (hdd : ∀ S, Reps X.K S dds dvs) (hx : Passes CX X E)
    (ht : eval (.Call (.Attribute o m apos) [] [] pos) X.env = (do
      let ov ← eval o X.env
      standAt apos.atName
      let (f, first) ← holding [ov] (getMethod ov m pl)
      callWith pos f first (backTo pos (starEach [] X.env)) (backToKw pos (keywordEach [] X.env))) := by rfl) :
    DE X (.Call (.Attribute o m apos) [] [] pos) (dMeth X.K f m sp dds ta dNil) := by
  refine pe_imp (pe_methG0 (pl := pl) he G hr hb hd hx ht) fun σ H Q q => ?_
  obtain ⟨F, S, env, M, Qd, R, t, p⟩ := q
  refine ⟨F, S, env, M, _, R, t, fun v H1 S1 env1 M1 d s1 R1 r1 q1 => ?_⟩
  cases hi : insD d M1 with
  | none => simp only [hi] at q1
  | some z =>
    obtain ⟨C, ns, ds⟩ := z
    simp only [hi] at q1
    obtain ⟨⟨c1, c2, c3⟩, q1⟩ := q1
    obtain ⟨a, dx, xs, rfl, e1, l, t1⟩ := insD_at R1.c hi r1
    exact ⟨a, C, dx, _, rfl, e1, c1, c2, reps_fget_none t1 c3, sp_of R1 (show Reps X.K S1 (d :: ([] ++ dds)) (V.ref a :: ([] ++ dvs)) from ⟨r1, hdd S1⟩) q1 (p.up s1)⟩

/-- C(..): an instance that never changes: g tells its fields -/
def spInit (C : Addr) (g : List D → Option (List Str × List D)) : DSp := fun ds M Q _ => ∃ x args ns es, ds = .ref x :: args ∧ M x = some (.ins C [] []) ∧ g args = some (ns, es) ∧ Q .non (mset M x (.ins C ns es))
@[reducible] def dMake (C : Addr) (g : List D → Option (List Str × List D)) (dds : List D) (t : DTA) : DT := fun env M Q => t env M fun ds env1 M1 => match g (ds ++ dds) with
  | some (ns, es) => Q (.obj C ns es) env1 M1
  | none => False
theorem make_of {K : PySem.W.Frag} {F S H : Hp} {M : Mem} {σ : L2.St} {env : Ev} {g : List D → Option (List Str × List D)} {ds : List D} {vs : List V} {Qd : KD} {Q : VK} {E : XK} {ns : List Str} {es : List D} (R : Rel K F S σ H env M) (r : Reps K S ds vs) (hg : g ds = some (ns, es)) (q : Qd (.obj C ns es) env M) (p : PostE K F S σ Qd Q) :
    ∀ x dx, H x = none → H dx = none → dx ≠ x → LSp K (spInit C g) (.ref x :: vs) (upd (upd H dx (.own x)) x (.ins C dx [])) (fun v H2 => v = .non ∧ Q (.ref x) H2) E := by
  intro x dx hx hdx hne
  have R1 : Rel K F S σ (upd H dx (.own x)) env M := R.more fun b o e => by rw [upd_ne (ne_of_none e hdx)]; exact e
  have hx1 : upd H dx (.own x) x = none := by rw [upd_ne (Ne.symm hne)]; exact hx
  have R2 : Rel K F S σ (upd (upd H dx (.own x)) x (.ins C dx [])) env (mset M x (.ins C [] [])) := R1.newM hx1 ⟨dx, [], upd_same, rfl, trivial⟩
  have sx := R.c.sfree hx
  have fx := R.c.ffree hx
  have mx := R.c.mfree hx
  refine ⟨frOwn F env σ (upd (upd H dx (.own x)) x (.ins C dx [])), S, .ref x :: ds, mset M x (.ins C [] []), (fun d M2 => d = .non ∧ M2 = mset M x (.ins C ns es)), KX0, R2.toC, ⟨rfl, r⟩, ⟨x, ds, ns, es, rfl, mset_same, hg, rfl, mset_mset⟩, fun v H' S' M' d s' c rd qd => ?_, fun _ _ _ _ _ _ _ _ _ _ z => z.elim⟩
  obtain ⟨rfl, rfl⟩ := qd
  refine ⟨rd, ?_⟩
  obtain ⟨sx', dx', xs, e1, l, t⟩ := c.mem x _ mset_same
  -- the instance is put among the things that never change
  have ss : Same S' (upd S' x (.ins C dx' (ns.zip xs))) := fun b o e => by rw [upd_ne (fun z => by rw [z, sx'] at e; cases e)]; exact e
  have R3 : Rel K F S' σ H' env (mset M x (.ins C ns es)) := by
    have R2' : Rel K F S σ (upd (upd H dx (.own x)) x (.ins C dx [])) env (mset M x (.ins C [] [])) := R2
    exact R2'.back c s'
  have R4 : Rel K F (upd S' x (.ins C dx' (ns.zip xs))) σ H' env M := by
    refine Rel.grow (H := H') (M := mset M x (.ins C ns es)) R3 ⟨fun b o e => ?_, fun b o e => ?_, fun b o e => ?_⟩ ss fun i a ea hi => ?_
    · by_cases hb : b = x
      · subst hb; rw [upd_same] at e; cases e; exact e1
      · rw [upd_ne hb] at e; exact R3.c.same b o e
    · have hb : b ≠ x := fun z => by rw [z, fx] at e; cases e
      obtain ⟨h1, h2, h3⟩ := R3.c.fr b o e
      rw [mset_ne hb] at h3
      exact ⟨h1, by rw [upd_ne hb]; exact h2, h3⟩
    · have hb : b ≠ x := fun z => by rw [z, mx] at e; cases e
      obtain ⟨h1, h2⟩ := R3.c.mem b o (by rw [mset_ne hb]; exact e)
      exact ⟨by rw [upd_ne hb]; exact h1, h2.mono ss rfl⟩
    · obtain ⟨ds', hi⟩ := hi
      obtain ⟨b, ys, f1, f2, f3, f4, f5, _⟩ := R3.own i ds' hi
      rw [ea] at f1
      cases f1
      have hb : a ≠ x := fun z => by rw [z, mset_same] at f4; cases f4
      rw [mset_ne hb] at f4
      exact ⟨rfl, by rw [upd_ne hb]; exact f3, f4⟩
  exact p (.ref x) H' _ env M (.obj C ns es) (s'.trans ss) R4 ⟨x, dx', xs, rfl, upd_same, l, t.mono ss⟩ q
variable {g : List D → Option (List Str × List D)}
theorem d_make (Mk' : Mk X.K C f) (G : FnOk X.prog X.w X.K X.mg X.base CX k f fd ps (LSp X.K (spInit C g))) (hr : Room (k + 1) X.A) (hg : Gl X x) (hm : X.mg x = some (.ref C)) (hb : Binds X.K fd ps dl) (hd : Vals dvs dl) (hdd : ∀ S, Reps X.K S dds dvs) (hx : Passes CX X E)
    (ha : DA X (e :: es) t) (hdb : (x == ("__debug__" : Str)) = false := by decide) (he : starEach (e :: es) X.env = (false, eval e X.env) :: starEach es X.env := by rfl) (hpl : (backTo pos (starEach es X.env)).any (·.1) = false := by rfl) :
    DE X (.Call (.Name x p) (e :: es) [] pos) (dMake C g dds t) := by
  refine pe_imp (pe_make Mk' G hr hg hm hb hd hx ha hdb he hpl) fun σ H Q ⟨F, S, env, M, Qd, R, t, p⟩ => ⟨F, S, env, M, _, R, t, fun vs H' S' env' M' ds s' R' r q => ?_⟩
  cases hq : g (ds ++ dds) with
  | none => simp only [hq] at q
  | some z =>
    obtain ⟨ns, es⟩ := z
    simp only [hq] at q
    exact make_of R' (r.append (hdd S')) hq q (p.up s')
theorem d_make0 (Mk' : Mk X.K C f) (G : FnOk X.prog X.w X.K X.mg X.base CX k f fd ps (LSp X.K (spInit C g))) (hr : Room (k + 1) X.A) (hg : Gl X x) (hm : X.mg x = some (.ref C)) (hb : Binds X.K fd ps dl) (hd : Vals dvs dl) (hdd : ∀ S, Reps X.K S dds dvs) (hx : Passes CX X E)
    (hdb : (x == ("__debug__" : Str)) = false := by decide) : DE X (.Call (.Name x p) [] [] pos) (dMake C g dds dNil) := by
  refine pe_imp (pe_make0 Mk' G hr hg hm hb hd hx hdb) fun σ H Q ⟨F, S, env, M, Qd, R, t, p⟩ => ?_
  have q : (match g ([] ++ dds) with
    | some (ns, es) => Qd (.obj C ns es) env M
    | none => False) := t
  cases hq : g ([] ++ dds) with
  | none => simp only [hq] at q
  | some z =>
    obtain ⟨ns, es⟩ := z
    simp only [hq] at q
    exact make_of R (hdd S) hq q p
end

/-! ### lists of one's own -/
abbrev KN := List D → Ev → Mem → Prop
abbrev DTN := Ev → Mem → KN → Prop
structure NewAt (K : PySem.W.Frag) (F S : Hp) (σ : L2.St) (H : Hp) (env : Ev) (M : Mem) (a : Addr) (ds : List D) : Prop where
  ex : ∃ xs, H a = some (.lst xs) ∧ Reps K S ds xs
  s : S a = none
  m : M a = none
  f : F a = none
  o : ∀ j es, look env j = .own es → σ[j]? ≠ some (some (.ref a))
def LN (K : PySem.W.Frag) (t : DTN) : TE := fun σ H Q => ∃ F S env M Qd, Rel K F S σ H env M ∧ t env M Qd ∧ ∀ a H' S' env' M' ds, Same S S' → Rel K F S' σ H' env' M' → NewAt K F S' σ H' env' M' a ds → Qd ds env' M' → Q (.ref a) H'
abbrev DN (X : Cx) (e : Expr) (t : DTN) : Prop := PE X e (LN X.K t)
theorem Rel.newAt {K : PySem.W.Frag} {F S H : Hp} {M : Mem} {σ : L2.St} {env : Ev} {p : Addr} {ds : List D} {xs : List V} (R : Rel K F S σ H env M) (h : H p = none) (r : Reps K S ds xs) : Rel K F S σ (upd H p (.lst xs)) env M ∧ NewAt K F S σ (upd H p (.lst xs)) env M p ds := by
  refine ⟨R.more fun b o e => by rw [upd_ne (ne_of_none e h)]; exact e, ⟨xs, upd_same, r⟩, R.c.sfree h, R.c.mfree h, R.c.ffree h, fun j es hj e => R.ownNe e ⟨es, hj⟩ h rfl⟩
section
variable {X : Cx} {e : Expr} {es : List Expr} {t : DTA} {te : DTN} {pos : Pos}
@[reducible] def dLstN (t : DTA) : DTN := fun env M Q => t env M fun ds env1 M1 => ds.length ≤ sizeLine ∧ Q ds env1 M1
theorem n_lst (h : DA X es t) : DN X (.List es pos) (dLstN t) :=
  pe_imp (pe_lst h) fun σ H Q ⟨F, S, env, M, Qd, R, t, p⟩ => ⟨F, S, env, M, _, R, t, fun vs H' S' env' M' ds s' R' r q => ⟨by rw [← r.length]; exact q.1, fun u hu => by
    obtain ⟨R2, n⟩ := R'.newAt hu r
    exact p u _ _ env' M' ds s' R2 n q.2⟩⟩
/-- a new list handed on at once never changes -/
theorem Rel.seal {K : PySem.W.Frag} {F S H : Hp} {M : Mem} {σ : L2.St} {env : Ev} {a : Addr} {ds : List D} (R : Rel K F S σ H env M) (n : NewAt K F S σ H env M a ds) : ∃ S', Same S S' ∧ Rel K F S' σ H env M ∧ Rep K S' (.lst ds) (.ref a) := by
  obtain ⟨xs, e, r⟩ := n.ex
  have ss : Same S (upd S a (.lst xs)) := fun b o q => by rw [upd_ne (fun z => by rw [z, n.s] at q; cases q)]; exact q
  refine ⟨upd S a (.lst xs), ss, R.grow ⟨fun b o q => ?_, fun b o q => ?_, fun b o q => ?_⟩ ss fun i b eb hi => ?_, a, xs, rfl, upd_same, r.mono ss⟩
  · by_cases hb : b = a
    · subst hb; rw [upd_same] at q; cases q; exact e
    · rw [upd_ne hb] at q; exact R.c.same b o q
  · have hb : b ≠ a := fun z => by rw [z, n.f] at q; cases q
    rw [upd_ne hb]
    exact R.c.fr b o q
  · have hb : b ≠ a := fun z => by rw [z, n.m] at q; cases q
    rw [upd_ne hb]
    exact ⟨(R.c.mem b o q).1, (R.c.mem b o q).2.mono ss rfl⟩
  · obtain ⟨es, hi⟩ := hi
    obtain ⟨c, ys, f1, f2, f3, f4, _⟩ := R.own i es hi
    rw [eb] at f1
    cases f1
    have hb : b ≠ a := fun z => by rw [z] at eb; exact n.o i es hi eb
    exact ⟨rfl, by rw [upd_ne hb]; exact f3, f4⟩
@[reducible] def dSeal (t : DTN) : DT := fun env M Q => t env M fun ds env1 M1 => Q (.lst ds) env1 M1
theorem d_new (h : DN X e te) : DE X e (dSeal te) := pe_imp h fun σ H Q ⟨F, S, env, M, Qd, R, t, p⟩ => ⟨F, S, env, M, _, R, t, fun a H' S' env' M' ds s' R' n q => by
  obtain ⟨S2, s2, R2, r⟩ := R'.seal n
  exact p (.ref a) H' S2 env' M' (.lst ds) (s'.trans s2) R2 r q⟩
end

/-! ### statements -/
section
variable {X : Cx} {st : Stmt} {rest : List Stmt} {t u : DTS} {e : Expr} {te : DT} {pos : Pos}
@[reducible] def sNext : DTS := fun E env M => E.nx env M
@[reducible] def sSeq (t u : DTS) : DTS := fun E env M => t { E with nx := u E } env M
theorem ss_nil : DSs X [] sNext := pss_imp pss_nil fun D σ H ⟨F, S, env, M, Ed, R, t, p⟩ => p.nx σ H S env M (Same.refl _) R t
theorem ss_one (h : DS X st t) : DSs X [st] t := pss_one h
theorem ss_cons (h1 : DS X st t) (h2 : DSs X rest u) : DSs X (st :: rest) (sSeq t u) :=
  pss_imp (pss_cons h1 h2) fun D σ H ⟨F, S, env, M, Ed, R, t, p⟩ => ⟨F, S, env, M, _, R, t, ⟨fun σ' H' S' env' M' s' R' q => ⟨F, S', env', M', Ed, R', q, p.up s'⟩, p.rt, p.bk, p.ct⟩⟩
theorem s_pass : DS X (.Pass pos) sNext := ps_imp ps_pass fun D σ H ⟨F, S, env, M, Ed, R, t, p⟩ => p.nx σ H S env M (Same.refl _) R t
@[reducible] def sBreak : DTS := fun E env M => E.bk env M
@[reducible] def sCont : DTS := fun E env M => E.ct env M
theorem s_break : DS X (.Break pos) sBreak := ps_imp ps_break fun D σ H ⟨F, S, env, M, Ed, R, t, p⟩ => p.bk σ H S env M (Same.refl _) R t
theorem s_continue : DS X (.Continue pos) sCont := ps_imp ps_continue fun D σ H ⟨F, S, env, M, Ed, R, t, p⟩ => p.ct σ H S env M (Same.refl _) R t
@[reducible] def sDrop (te : DT) : DTS := fun E env M => te env M fun _ env1 M1 => E.nx env1 M1
theorem s_expr (he : DE X e te) (hs : swapsWith e none pos.line X.env = pure false := by rfl) : DS X (.Expr e pos) (sDrop te) :=
  ps_imp (ps_expr he hs) fun D σ H ⟨F, S, env, M, Ed, R, t, p⟩ => ⟨F, S, env, M, _, R, t, fun v H' S' env' M' d s' R' r q => p.nx σ H' S' env' M' s' R' q⟩
theorem s_doc {x j pos'} : DS X (.Expr (.Constant (.str x) j pos) pos') sNext := ps_imp ps_doc fun D σ H ⟨F, S, env, M, Ed, R, t, p⟩ => p.nx σ H S env M (Same.refl _) R t
@[reducible] def sRet (te : DT) : DTS := fun E env M => te env M fun d _ M1 => E.rt d M1
theorem s_ret (he : DE X e te) : DS X (.Return (some e) pos) (sRet te) :=
  ps_imp (ps_ret he) fun D σ H ⟨F, S, env, M, Ed, R, t, p⟩ => ⟨F, S, env, M, _, R, t, fun v H' S' env' M' d s' R' r q => p.rt v H' S' M' d s' R'.c r q⟩
@[reducible] def sRetN : DTS := fun E _ M => E.rt .non M
theorem s_retN : DS X (.Return none pos) sRetN := ps_imp ps_retN fun D σ H ⟨F, S, env, M, Ed, R, t, p⟩ => p.rt _ H S M .non (Same.refl _) R.c rfl t
@[reducible] def sIf (c : DTT) (t u : DTS) : DTS := fun E env M => c env M fun b env1 M1 => match b with
  | true => t E env1 M1
  | false => u E env1 M1
theorem s_if {c : Expr} {a b : List Stmt} {tc : DTT} (hc : DTst X c tc) (ha : DSs X a t) (hb : DSs X b u) : DS X (.If c a b pos) (sIf tc t u) :=
  ps_imp (ps_if hc ha hb) fun D σ H ⟨F, S, env, M, Ed, R, t, p⟩ => ⟨F, S, env, M, _, R, t, fun k H' S' env' M' s' R' q => by
    cases k with
    | true => exact ⟨F, S', env', M', Ed, R', q, p.up s'⟩
    | false => exact ⟨F, S', env', M', Ed, R', q, p.up s'⟩⟩

/-! targets -/
abbrev KE := Ev → Mem → Prop
abbrev DTG := D → Ev → Mem → KE → Prop
def LG (K : PySem.W.Frag) (t : DTG) : TG := fun v σ H Q => ∃ F S env M d Qd, Rel K F S σ H env M ∧ Rep K S d v ∧ t d env M Qd ∧ ∀ σ' H' S' env' M', Same S S' → Rel K F S' σ' H' env' M' → Qd env' M' → Q σ' H'
abbrev DG (X : Cx) (e : Expr) (t : DTG) : Prop := PG X e (LG X.K t)
@[reducible] def gN (i : Nat) : DTG := fun d env M Q => Q (put env i (.val d)) M
theorem g_name {i : Nat} {x : Str} (hN : X.N.Nodup) (hi : X.N[i]? = some x := by rfl) (hx : Loc X.env.scope x := by first | exact Or.inl rfl | exact Or.inr rfl) (hf : X.fn x = true ∨ X.env.scope.names.lookup x = some .local := by first | exact .inl rfl | exact .inr rfl | assumption) : DG X (.Name x pos) (gN i) :=
  pg_imp (pg_name hN hi hx hf) fun v σ H Q ⟨F, S, env, M, d, Qd, R, r, t, p⟩ => p _ H S _ M (Same.refl _) (R.store r) t
abbrev DTGs := List D → Ev → Mem → KE → Prop
def LGs (K : PySem.W.Frag) (t : DTGs) : TGs := fun vs σ H Q => ∃ F S env M ds Qd, Rel K F S σ H env M ∧ Reps K S ds vs ∧ t ds env M Qd ∧ ∀ σ' H' S' env' M', Same S S' → Rel K F S' σ' H' env' M' → Qd env' M' → Q σ' H'
abbrev DGs (X : Cx) (e : List Expr) (t : DTGs) : Prop := PGs X e (LGs X.K t)
theorem pgs_imp {e : List Expr} {t t' : TGs} (h : PGs X e t) (i : ∀ v σ H Q, t' v σ H Q → t v σ H Q) : PGs X e t' := ⟨fun pins s σ H v u Q I r q => h.run pins s σ H v u Q I r (i v σ H Q q)⟩
@[reducible] def gsNil : DTGs := fun ds env M Q => match ds with
  | [] => Q env M
  | _ => False
@[reducible] def gsCons (g : DTG) (r : DTGs) : DTGs := fun ds env M Q => match ds with
  | d :: rs => g d env M fun env1 M1 => r rs env1 M1 Q
  | [] => False
theorem gs_nil : DGs X [] gsNil := pgs_imp pgs_nil fun v σ H Q ⟨F, S, env, M, ds, Qd, R, r, t, p⟩ => by
  cases ds with
  | nil => exact ⟨r.nil_inv, p σ H S env M (Same.refl _) R t⟩
  | cons _ _ => exact t.elim
theorem gs_cons {es : List Expr} {g : DTG} {r : DTGs} (h1 : DG X e g) (h2 : DGs X es r) (hs : (assignEach (e :: es) X.env).map (·.2) = assign e X.env :: (assignEach es X.env).map (·.2) := by rfl) : DGs X (e :: es) (gsCons g r) :=
  pgs_imp (pgs_cons h1 h2 hs) fun v σ H Q ⟨F, S, env, M, ds, Qd, R, r, t, p⟩ => by
    cases ds with
    | nil => exact t.elim
    | cons d rs =>
      obtain ⟨x, xs, rfl, r1, r2⟩ := r.cons_inv
      exact ⟨x, xs, rfl, F, S, env, M, d, _, R, r1, t, fun σ' H' S' env' M' s' R' q => ⟨F, S', env', M', rs, Qd, R', r2.mono s', q, fun σ2 H2 S2 env2 M2 s2 R2 q2 => p σ2 H2 S2 env2 M2 (s'.trans s2) R2 q2⟩⟩
/-- a, b = a tuple -/
@[reducible] def gT (n : Nat) (t : DTGs) : DTG := fun d env M Q => match d with
  | .tup ds => ds.length = n ∧ t ds env M Q
  | _ => False
theorem g_tup {es : List Expr} {k : Nat} {t : DTGs} {n : Nat} (hc : X.calm = true) (h : DGs X es t) (hn : (assignEach es X.env).length = n := by rfl) (hst : (assignEach es X.env).findIdx? (·.1) = none := by rfl) : DG X (.Tuple es k pos) (gT n t) :=
  pg_imp (pg_tup hc h hn hst) fun v σ H Q ⟨F, S, env, M, d, Qd, R, r, t, p⟩ => by
    cases d with
    | tup ds =>
      obtain ⟨a, xs, rfl, h, t1⟩ := r
      exact ⟨a, xs, rfl, DL.Same.tup R.c.same h, by rw [← t1.length]; exact t.1, F, S, env, M, ds, Qd, R, t1, t.2, p⟩
    | _ => exact t.elim
@[reducible] def sAsg (te : DT) (g : DTG) : DTS := fun E env M => te env M fun d env1 M1 => g d env1 M1 E.nx
theorem s_asg {tg : Expr} {g : DTG} (he : DE X e te) (hg : DG X tg g) (hs : swapsWithSole [tg] e pos.line X.env = pure false := by rfl) (hw : swappedStores [tg] e X.env = pure none := by rfl)
    (h1 : (assignEach [tg] X.env).map (·.2) = [assign tg X.env] := by rfl) : DS X (.Assign [tg] e pos) (sAsg te g) :=
  ps_imp (ps_asg he hg hs hw h1) fun D σ H ⟨F, S, env, M, Ed, R, t, p⟩ => ⟨F, S, env, M, _, R, t, fun v H' S' env' M' d s' R' r q => ⟨F, S', env', M', d, _, R', r, q, fun σ2 H2 S2 env2 M2 s2 R2 q2 => p.nx σ2 H2 S2 env2 M2 (s'.trans s2) R2 q2⟩⟩
theorem s_set {i : Nat} {x : Str} {pos' : Pos} (hN : X.N.Nodup) (he : DE X e te) (hi : X.N[i]? = some x := by rfl) (hx : Loc X.env.scope x := by first | exact Or.inl rfl | exact Or.inr rfl) (hs : swapsWith e (some (.Name x pos')) pos.line X.env = pure false := by rfl) (hf : X.fn x = true ∨ X.env.scope.names.lookup x = some .local := by first | exact .inl rfl | exact .inr rfl | assumption) :
    DS X (.Assign [.Name x pos'] e pos) (sAsg te (gN i)) :=
  ps_imp (ps_set hN hi hx he hs hf) fun D σ H ⟨F, S, env, M, Ed, R, t, p⟩ => ⟨F, S, env, M, _, R, t, fun v H' S' env' M' d s' R' r q => p.nx _ H' S' _ M' s' (R'.store r) q⟩
/-- name = a new list, one's own -/
@[reducible] def sSetN (te : DTN) (i : Nat) : DTS := fun E env M => te env M fun ds env1 M1 => E.nx (put env1 i (.own ds)) M1
theorem s_setN {i : Nat} {x : Str} {pos' : Pos} {te : DTN} (hN : X.N.Nodup) (he : DN X e te) (hi : X.N[i]? = some x := by rfl) (hx : Loc X.env.scope x := by first | exact Or.inl rfl | exact Or.inr rfl) (hs : swapsWith e (some (.Name x pos')) pos.line X.env = pure false := by rfl) (hf : X.fn x = true ∨ X.env.scope.names.lookup x = some .local := by first | exact .inl rfl | exact .inr rfl | assumption) :
    DS X (.Assign [.Name x pos'] e pos) (sSetN te i) :=
  ps_imp (ps_set hN hi hx he hs hf) fun D σ H ⟨F, S, env, M, Ed, R, t, p⟩ => ⟨F, S, env, M, _, R, t, fun a H' S' env' M' ds s' R' n q => by
    obtain ⟨xs, e1, r⟩ := n.ex
    exact p.nx _ H' S' _ M' s' (R'.storeOwn e1 n.s n.m n.f r fun j es hj _ => n.o j es hj) q⟩
/-- o.f = e, o a mutable instance -/
@[reducible] def sFld (K : PySem.W.Frag) (ta tv : DT) (f : Str) : DTS := fun E env M => tv env M fun y env1 M1 => ta env1 M1 fun d env2 M2 => match d with
  | .ref a => (match M2 a with
    | some (.ins C ns ds) => FldOk K C f ∧ ns.length < 1000 ∧ E.nx env2 (mset M2 a (.ins C (fputN f ns) (fputD f y ns ds)))
    | _ => False)
  | _ => False
theorem s_fld {o value : Expr} {f : Str} {pos' : Pos} {ta tv : DT} (ha : DE X o ta) (hv : DE X value tv) (hs : swapsWith value (some (.Attribute o f pos')) pos.line X.env = pure false := by rfl) : DS X (.Assign [.Attribute o f pos'] value pos) (DL.sFld X.K ta tv f) := by
  refine ps_imp (ps_fld ha hv hs) fun D σ H ⟨F, S, env, M, Ed, R, t, p⟩ => ⟨F, S, env, M, _, R, t, fun v H1 S1 env1 M1 y s1 R1 r1 q1 => ⟨F, S1, env1, M1, _, R1, q1, fun u H2 S2 env2 M2 d s2 R2 r2 q2 => ?_⟩⟩
  cases d with
  | ref a =>
    cases r2
    cases e : M2 a with
    | none => simp only [e] at q2
    | some m =>
      cases m with
      | ins C ns ds =>
        simp only [e] at q2
        obtain ⟨c, l, q2⟩ := q2
        obtain ⟨dx, xs, e1, lx, tx⟩ := (R2.c.mem a _ e).2
        have z := putF_zip (f := f) (v := v) lx
        refine ⟨a, C, dx, _, rfl, e1, c.1, c.2, by rw [List.length_zip, lx, Nat.min_self]; exact l, ?_⟩
        rw [z.1]
        exact p.nx σ _ S2 env2 _ (s1.trans s2) (R2.setM (m' := .ins C (fputN f ns) (fputD f y ns ds)) e ⟨dx, _, upd_same, z.2, reps_fput (r1.mono s2) tx⟩) q2
      | _ => simp only [e] at q2
  | _ => exact q2.elim

/-! while -/
@[reducible] def whW (c : DTT) (tb : DTS) (E : DEnds) : Nat → Ev → Mem → Prop
  | 0, _, _ => False
  | n + 1, env, M => c env M fun b env1 M1 => match b with
    | true => tb { E with nx := whW c tb E n, ct := whW c tb E n, bk := E.nx } env1 M1
    | false => E.nx env1 M1
def sWhile (c : DTT) (tb : DTS) : DTS := fun E env M => ∃ n, whW c tb E n env M
theorem s_while {c : Expr} {body : List Stmt} {tc : DTT} {tb : DTS} (hp : PassesOwn (model X.prog X.w) X.A X.env X.xe) (hc : DTst X c tc) (hb : DSs X body tb) : DS X (.While c body [] pos) (sWhile tc tb) := by
  refine ps_imp (ps_while hp hc hb) fun D σ H ⟨F, S, env, M, Ed, R, ⟨n, t⟩, p⟩ => ?_
  refine ⟨fun m σ H => ∃ S' env' M', Same S S' ∧ Rel X.K F S' σ H env' M' ∧ whW tc tb Ed m env' M', ⟨n, S, env, M, Same.refl _, R, t⟩, ?_⟩
  rintro m σ1 H1 ⟨S1, env1, M1, s1, R1, w⟩
  cases m with
  | zero => exact w.elim
  | succ m =>
    refine ⟨F, S1, env1, M1, _, R1, w, fun b H2 S2 env2 M2 s2 R2 q => ?_⟩
    cases b with
    | false => exact p.nx σ1 H2 S2 env2 M2 (s1.trans s2) R2 q
    | true =>
      refine ⟨fun σ' H' => ∃ S' env' M', Same S S' ∧ Rel X.K F S' σ' H' env' M' ∧ whW tc tb Ed m env' M', fun σ' H' z => ⟨m, Nat.lt_succ_self m, z⟩, F, S2, env2, M2, _, R2, q, ⟨fun σ3 H3 S3 env3 M3 s3 R3 q3 => ⟨S3, env3, M3, (s1.trans s2).trans s3, R3, q3⟩, (p.up (s1.trans s2)).rt, fun σ3 H3 S3 env3 M3 s3 R3 q3 => p.nx σ3 H3 S3 env3 M3 ((s1.trans s2).trans s3) R3 q3, fun σ3 H3 S3 env3 M3 s3 R3 q3 => ⟨S3, env3, M3, (s1.trans s2).trans s3, R3, q3⟩⟩⟩
end

/-! ### what is walked -/
structure Walks (K : PySem.W.Frag) (J : It) (S : Hp) (items : List D) : Prop where
  go : ∀ i H S', i < items.length → Same S S' → Same S' H → J.go i H
  stop : ∀ H S', Same S S' → Same S' H → J.stop items.length H
  yld : ∀ i d x H H' S', items[i]? = some d → Same S S' → Same S' H → J.yld i H x H' → (H' = H ∧ Rep K S' d x) ∨ ∃ p o, H p = none ∧ H' = upd H p o ∧ Rep K (upd S' p o) d x
abbrev KI := List D → Ev → Mem → Prop
abbrev DTI := Ev → Mem → KI → Prop
def LI (K : PySem.W.Frag) (wi : DTI) : TI := fun σ H R' => ∃ F S env M Qd, Rel K F S σ H env M ∧ wi env M Qd ∧ ∀ J H' S' env' M' items, Same S S' → Rel K F S' σ H' env' M' → Walks K J S' items → Qd items env' M' → R' J H'
abbrev DI (X : Cx) (tg e : Expr) (wi : DTI) : Prop := PI X tg e (LI X.K wi)
theorem pi_imp {X : Cx} {tg e : Expr} {t t' : TI} (h : PI X tg e t) (i : ∀ σ H R, t' σ H R → t σ H R) : PI X tg e t' := ⟨fun pins s σ H R I q => h.run pins s σ H R I (i σ H R q)⟩
section
variable {X : Cx} {tg e : Expr} {te : DT} {t : DTA} {pos p : Pos}
theorem walks_list {K : PySem.W.Frag} {S : Hp} {a : Addr} {xs : List V} {ds : List D} (h : SqL K S a xs) (r : Reps K S ds xs) : Walks K (Itl K a) S ds := by
  have l := r.length
  refine ⟨fun i H S' hi s1 s2 => ⟨xs, xs[i]'(by omega), L2.Same.seq (s1.trans s2) h, by simp⟩, fun H S' s1 s2 => ⟨xs, L2.Same.seq (s1.trans s2) h, by omega⟩, fun i d x H H' S' hd s1 s2 y => ?_⟩
  obtain ⟨rfl, y⟩ := y
  obtain ⟨v, e1, r1⟩ := r.get hd
  have e2 := y xs (L2.Same.seq (s1.trans s2) h)
  rw [e1] at e2
  cases e2
  exact .inl ⟨rfl, r1.mono s1⟩
theorem walks_tup {K : PySem.W.Frag} {S : Hp} {a : Addr} {xs : List V} {ds : List D} (h : SqT K S a xs) (r : Reps K S ds xs) : Walks K (Itt K a) S ds := by
  have l := r.length
  refine ⟨fun i H S' hi s1 s2 => ⟨xs, xs[i]'(by omega), DL.Same.tup (s1.trans s2) h, by simp⟩, fun H S' s1 s2 => ⟨xs, DL.Same.tup (s1.trans s2) h, by omega⟩, fun i d x H H' S' hd s1 s2 y => ?_⟩
  obtain ⟨rfl, y⟩ := y
  obtain ⟨v, e1, r1⟩ := r.get hd
  have e2 := y xs (DL.Same.tup (s1.trans s2) h)
  rw [e1] at e2
  cases e2
  exact .inl ⟨rfl, r1.mono s1⟩
def strD (z : Str) : List D := z.cps.toList.map fun c => .str ⟨#[c]⟩
theorem walks_str {K : PySem.W.Frag} {S : Hp} (z : Str) : Walks K (Its z) S (strD z) := by
  have l : (strD z).length = z.cps.size := by unfold strD; rw [List.length_map, Array.length_toList]
  refine ⟨fun i H S' hi _ _ => by show i < z.cps.size; omega, fun H S' _ _ => by show z.cps.size ≤ _; omega, fun i d x H H' S' hd s1 s2 y => ?_⟩
  obtain ⟨rfl, c, e, rfl⟩ := y
  unfold strD at hd
  rw [List.getElem?_map, Array.getElem?_toList, e] at hd
  cases hd
  exact .inl ⟨rfl, rfl⟩
def rngD (lo : Int) (n : Nat) : List D := (List.range n).map fun k => .int (lo + (k : Nat))
theorem walks_rng {K : PySem.W.Frag} {S : Hp} (lo : Int) (n : Nat) : Walks K (Itr lo n) S (rngD lo n) := by
  have l : (rngD lo n).length = n := by unfold rngD; rw [List.length_map, List.length_range]
  refine ⟨fun i H S' hi _ _ => by show i < n; omega, fun H S' _ _ => by show n ≤ _; omega, fun i d x H H' S' hd s1 s2 y => ?_⟩
  obtain ⟨rfl, rfl⟩ := y
  unfold rngD at hd
  rw [List.getElem?_map] at hd
  by_cases h : i < n
  · rw [List.getElem?_range h] at hd
    cases hd
    exact .inl ⟨rfl, rfl⟩
  · rw [List.getElem?_eq_none_iff.mpr (by rw [List.length_range]; omega)] at hd
    cases hd
/-- a list, a tuple, a text, by its value -/
def itR (K : PySem.W.Frag) (x : V) (H : Hp) (R : It → Hp → Prop) : Prop := (∃ a, x = .ref a ∧ (((∃ xs, SqL K H a xs) ∧ R (Itl K a) H) ∨ ((∃ xs, SqT K H a xs) ∧ R (Itt K a) H))) ∨ ∃ z, x = .str z ∧ R (Its z) H
theorem pi_any {l : Expr} {tl : TE} (hl : PE X l tl) : PI X tg l (fun σ H R => tl σ H fun x H1 => itR X.K x H1 R) := by
  refine ⟨fun pins s σ H R I h => ?_⟩
  refine thn (hl.run pins s σ H _ I h) fun v s1 ⟨x, H1, I1, r1, q1⟩ => ?_
  rcases q1 with ⟨a, e, (⟨⟨xs, hq⟩, q⟩ | ⟨⟨xs, hq⟩, q⟩)⟩ | ⟨z, e, q⟩
  · subst e
    cases r1
    obtain ⟨its, rv, p, hz⟩ := I1.list hq
    refine wpAny_pyIter_list p.isList ?_
    refine ⟨s1.heap.objs.size, [s1.heap.objs.size], _, _, H1, rfl, I1.kept (t' := s1.toks) fun b o e => Heap.get?_push_of_some _ e, turn_list a _, ⟨_, Heap.get?_push_size _ rfl, rfl, rfl⟩, fun b hb => ?_, q⟩
    have e : b = s1.heap.objs.size := by simpa using hb
    subst e
    exact I1.fpOk (Nat.le_refl _) (I1.hok.fresh (Nat.le_refl _))
  · subst e
    cases r1
    obtain ⟨its, rv, p, hz⟩ := I1.tuple hq
    refine wpAny_pyIter_tuple (show s1.heap.IsTuple a its.toArray from p) ?_
    refine ⟨s1.heap.objs.size, [s1.heap.objs.size], _, _, H1, rfl, I1.kept (t' := s1.toks) fun b o e => Heap.get?_push_of_some _ e, turn_tuple a _, ⟨_, Heap.get?_push_size _ rfl, rfl, rfl⟩, fun b hb => ?_, q⟩
    have e : b = s1.heap.objs.size := by simpa using hb
    subst e
    exact I1.fpOk (Nat.le_refl _) (I1.hok.fresh (Nat.le_refl _))
  · subst e
    obtain ⟨t, rfl⟩ := r1
    cases ha : z.cps.all (· < 128)
    · exact wpAny_pyIter_wide ha (pi_one (tk := s1.toks) I1 _ (turn_str _ z t "str_iterator" (.inr rfl)) ⟨_, Heap.get?_push_size _ rfl, rfl, rfl⟩ q)
    · exact wpAny_pyIter_ascii ha (pi_one (tk := s1.toks) I1 _ (turn_str _ z t "str_ascii_iterator" (.inl rfl)) ⟨_, Heap.get?_push_size _ rfl, rfl, rfl⟩ q)
@[reducible] def itemsD : D → Option (List D)
  | .lst ds => some ds
  | .lstK ds => some ds
  | .tup ds => some ds
  | .str z => some (strD z)
  | _ => none
@[reducible] def iAny (te : DT) : DTI := fun env M Q => te env M fun d env1 M1 => match itemsD d with
  | some ds => Q ds env1 M1
  | none => False
theorem i_any (he : DE X e te) : DI X tg e (iAny te) := by
  refine pi_imp (pi_any he) fun σ H R' ⟨F, S, env, M, Qd, R, t, p⟩ => ⟨F, S, env, M, _, R, t, fun v H' S' env' M' d s' R1 r q => ?_⟩
  cases d with
  | lst ds =>
    obtain ⟨a, xs, rfl, h, t1⟩ := r
    exact .inl ⟨a, rfl, .inl ⟨⟨xs, .of (R1.c.same _ _ h)⟩, p _ H' S' env' M' ds s' R1 (walks_list (.of h) t1) q⟩⟩
  | lstK ds =>
    obtain ⟨a, xs, rfl, h, t1⟩ := r
    exact .inl ⟨a, rfl, .inl ⟨⟨xs, L2.Same.seq R1.c.same h⟩, p _ H' S' env' M' ds s' R1 (walks_list h t1) q⟩⟩
  | tup ds =>
    obtain ⟨a, xs, rfl, h, t1⟩ := r
    exact .inl ⟨a, rfl, .inr ⟨⟨xs, DL.Same.tup R1.c.same h⟩, p _ H' S' env' M' ds s' R1 (walks_tup h t1) q⟩⟩
  | str z =>
    cases r
    exact .inr ⟨z, rfl, p _ H' S' env' M' (strD z) s' R1 (walks_str z) q⟩
  | _ => exact q.elim
end
end DL
set_option Elab.async false
set_option linter.all false
set_option maxRecDepth 100000
set_option maxHeartbeats 1000000
/-! DL4: for, comprehensions, lists that grow, tuples of targets, dicts, isinstance, a def's promise by its body. -/
namespace DL
open PySem PySem.Spec PyProof.Rows L2

/-! ### for -/
@[reducible] def forW (g : DTG) (tb : DTS) (E : DEnds) : List D → Ev → Mem → Prop
  | [], env, M => E.nx env M
  | d :: r, env, M => g d env M fun env1 M1 => tb { E with nx := forW g tb E r, ct := forW g tb E r, bk := E.nx } env1 M1
@[reducible] def sFor (wi : DTI) (g : DTG) (tb : DTS) : DTS := fun E env M => wi env M fun items env1 M1 => forW g tb E items env1 M1
theorem Walks.up {K : PySem.W.Frag} {J : It} {S S1 : Hp} {items : List D} (w : Walks K J S items) (s : Same S S1) : Walks K J S1 items :=
  ⟨fun i H S' h s1 s2 => w.go i H S' h (s.trans s1) s2, fun H S' s1 s2 => w.stop H S' (s.trans s1) s2, fun i d x H H' S' h s1 s2 y => w.yld i d x H H' S' h (s.trans s1) s2 y⟩
section
variable {X : Cx} {tg iter : Expr} {body : List Stmt} {wi : DTI} {g : DTG} {tb : DTS} {pos : Pos}
theorem s_for (hp : PassesOwn (model X.prog X.w) X.A X.env X.xe) (hc : X.calm = true) (hi : DI X tg iter wi) (hg : DG X tg g) (hb : DSs X body tb) (hs : ∀ x, foldedSetIterable iter X.env x = pure x := by intro _; rfl) : DS X (.For tg iter body [] pos) (sFor wi g tb) := by
  refine ps_imp (ps_for hp hc hi hg hb hs) fun D σ H ⟨F, S, env, M, Ed, R, t, p⟩ => ⟨F, S, env, M, _, R, t, fun J H1 S1 env1 M1 items s1 R1 w q => ?_⟩
  refine ⟨fun i m σ' H' => m = items.length - i ∧ i ≤ items.length ∧ ∃ S' env' M', Same S1 S' ∧ Rel X.K F S' σ' H' env' M' ∧ forW g tb Ed (items.drop i) env' M', ⟨items.length, by simp, Nat.zero_le _, S1, env1, M1, Same.refl _, R1, by rw [List.drop_zero]; exact q⟩, ?_⟩
  rintro i m σ2 H2 ⟨rfl, hi, S2, env2, M2, s2, R2, q2⟩
  by_cases hlt : i < items.length
  · refine .inr ⟨w.go i H2 S2 hlt s2 R2.c.same, _, fun σ' H' z => ⟨items.length - (i + 1), by omega, z⟩, fun x H3 y => ?_⟩
    have ed : items.drop i = items[i] :: items.drop (i + 1) := List.drop_eq_getElem_cons hlt
    rw [ed] at q2
    have hd : items[i]? = some items[i] := by simp [hlt]
    have fin : ∀ S3, Same S2 S3 → Rel X.K F S3 σ2 H3 env2 M2 → Rep X.K S3 items[i] x → LG X.K g x σ2 H3 (fun σ2 H2 => LS X.K tb { D with nx := fun σ' H' => items.length - (i + 1) = items.length - (i + 1) ∧ i + 1 ≤ items.length ∧ ∃ S' env' M', Same S1 S' ∧ Rel X.K F S' σ' H' env' M' ∧ forW g tb Ed (items.drop (i + 1)) env' M', ct := fun σ' H' => items.length - (i + 1) = items.length - (i + 1) ∧ i + 1 ≤ items.length ∧ ∃ S' env' M', Same S1 S' ∧ Rel X.K F S' σ' H' env' M' ∧ forW g tb Ed (items.drop (i + 1)) env' M', bk := D.nx } σ2 H2) := fun S3 s3 R3 r3 => by
      refine ⟨F, S3, env2, M2, items[i], _, R3, r3, q2, fun σ4 H4 S4 env4 M4 s4 R4 q4 => ⟨F, S4, env4, M4, _, R4, q4, ?_⟩⟩
      have sx := (s1.trans s2).trans (s3.trans s4)
      exact ⟨fun σ5 H5 S5 env5 M5 s5 R5 q5 => ⟨rfl, hlt, S5, env5, M5, s2.trans (s3.trans (s4.trans s5)), R5, q5⟩, (p.up sx).rt, fun σ5 H5 S5 env5 M5 s5 R5 q5 => p.nx σ5 H5 S5 env5 M5 (sx.trans s5) R5 q5, fun σ5 H5 S5 env5 M5 s5 R5 q5 => ⟨rfl, hlt, S5, env5, M5, s2.trans (s3.trans (s4.trans s5)), R5, q5⟩⟩
    rcases w.yld i items[i] x H2 H3 S2 hd s2 R2.c.same y with ⟨rfl, r⟩ | ⟨p1, o, hp1, rfl, r⟩
    · exact fin S2 (Same.refl _) R2 r
    · obtain ⟨R3, s3⟩ := R2.new (o := o) hp1
      exact fin _ s3 R3 r
  · obtain rfl : i = items.length := by omega
    rw [List.drop_length] at q2
    exact .inl ⟨w.stop H2 S2 s2 R2.c.same, p.nx σ2 H2 S2 env2 M2 (s1.trans s2) R2 q2⟩

/-! range -/
def i62 (j : Int) : Prop := -(2 ^ 62) ≤ j ∧ j < 2 ^ 62
@[reducible] def iRng1D (t : DTA) : DTI := fun env M Q => t env M fun ds env1 M1 => match ds with
  | [.int j] => i62 j ∧ Q (rngD 0 j.toNat) env1 M1
  | _ => False
theorem i_rng1 {a : Expr} {t : DTA} {p : Pos} (hg : Gl X "range") (hm : X.mg "range" = none) (ha : DA X [a] t) (hs : starEach [a] X.env = [(false, eval a X.env)] := by rfl) : DI X tg (.Call (.Name "range" p) [a] [] pos) (iRng1D t) := by
  refine pi_imp (pi_range1 hg hm ha hs) fun σ H R' ⟨F, S, env, M, Qd, R, t, p⟩ => ⟨F, S, env, M, _, R, t, fun vs H' S' env' M' ds s' R1 r q => ?_⟩
  cases ds with
  | nil => exact q.elim
  | cons d r2 =>
    cases r2 with
    | cons _ _ => cases d <;> exact q.elim
    | nil =>
      obtain ⟨v, rfl, rv⟩ := r.one
      cases d with
      | int j => cases rv; exact ⟨j, rfl, q.1.1, q.1.2, p _ H' S' env' M' _ s' R1 (walks_rng 0 _) q.2⟩
      | _ => exact q.elim
@[reducible] def iRng2D (t : DTA) : DTI := fun env M Q => t env M fun ds env1 M1 => match ds with
  | [.int i, .int j] => i62 i ∧ i62 j ∧ Q (rngD i (j - i).toNat) env1 M1
  | _ => False
theorem i_rng2 {a b : Expr} {t : DTA} {p : Pos} (hg : Gl X "range") (hm : X.mg "range" = none) (ha : DA X [a, b] t) (hs : starEach [a, b] X.env = [(false, eval a X.env), (false, eval b X.env)] := by rfl) (hs2 : starEach [b] X.env = [(false, eval b X.env)] := by rfl) : DI X tg (.Call (.Name "range" p) [a, b] [] pos) (iRng2D t) := by
  refine pi_imp (pi_range2 hg hm ha hs hs2) fun σ H R' ⟨F, S, env, M, Qd, R, t, p⟩ => ⟨F, S, env, M, _, R, t, fun vs H' S' env' M' ds s' R1 r q => ?_⟩
  unfold iRng2D at q
  split at q
  · rename_i i j
    obtain ⟨v, u, rfl, r1, r2⟩ := r.two
    cases r1
    cases r2
    exact ⟨i, j, rfl, ⟨q.1.1, q.1.2, q.2.1.1, q.2.1.2⟩, p _ H' S' env' M' _ s' R1 (walks_rng i _) q.2.2⟩
  · exact q.elim
end

/-! ### comprehensions -/
@[reducible] def wipeD (e : Ev) : List Nat → Ev
  | [] => e
  | v :: vs => put (wipeD e vs) v .no
/-- the block's own names as they were -/
@[reducible] def unw (env be : Ev) : List Nat → Ev
  | [] => be
  | v :: vs => put (unw env be vs) v (look env v)
@[reducible] def lcW (g : DTG) (tt : DTT) (te : DT) (vs : List Nat) : List D → List D → Ev → Mem → KN → Prop
  | [], acc, be, M, Q => Q acc be M
  | d :: r, acc, be, M, Q => g d be M fun e2 M2 => tt e2 M2 fun b e3 M3 => match b with
    | true => te e3 M3 fun y e4 M4 => acc.length < sizeLine ∧ lcW g tt te vs r (acc ++ [y]) (wipeD e4 vs) M4 Q
    | false => lcW g tt te vs r acc (wipeD e3 vs) M3 Q
@[reducible] def notOwn : Sl → Bool
  | .own _ => false
  | _ => true
@[reducible] def dLc (wi : DTI) (g : DTG) (tt : DTT) (te : DT) (vs : List Nat) : DTN := fun env M Q => wi env M fun items env1 M1 => vs.all (fun v => notOwn (look env1 v)) = true ∧ lcW g tt te vs items [] (wipeD env1 vs) M1 fun ys be M2 => Q ys (unw env1 be vs) M2
/-- a target of a comprehension: it changes the block's own names alone -/
def LGw (K : PySem.W.Frag) (vs : List Nat) (t : DTG) : TG := fun v σ H Q => ∃ F S env M d Qd, Rel K F S σ H env M ∧ Rep K S d v ∧ t d env M Qd ∧ ∀ σ' H' S' env' M', Same S S' → Rel K F S' σ' H' env' M' → wipe σ' vs = wipe σ vs → Qd env' M' → Q σ' H'
abbrev DGw (X : Cx) (vs : List Nat) (e : Expr) (t : DTG) : Prop := PG X e (LGw X.K vs t)
def LGsw (K : PySem.W.Frag) (vs : List Nat) (t : DTGs) : TGs := fun us σ H Q => ∃ F S env M ds Qd, Rel K F S σ H env M ∧ Reps K S ds us ∧ t ds env M Qd ∧ ∀ σ' H' S' env' M', Same S S' → Rel K F S' σ' H' env' M' → wipe σ' vs = wipe σ vs → Qd env' M' → Q σ' H'
abbrev DGsw (X : Cx) (vs : List Nat) (e : List Expr) (t : DTGs) : Prop := PGs X e (LGsw X.K vs t)
theorem wipe_set {i : Nat} {x : Option V} : ∀ {vs : List Nat} {σ : L2.St}, i ∈ vs → wipe (σ.set i x) vs = wipe σ vs
  | v :: vs, σ, h => by
    unfold wipe
    by_cases e : i = v
    · subst e
      have key : ∀ vs : List Nat, (wipe (σ.set i x) vs).set i none = (wipe σ vs).set i none := fun vs => by
        induction vs with
        | nil => unfold wipe; rw [List.set_set]
        | cons w ws ih =>
          unfold wipe
          by_cases e : w = i
          · subst e; rw [List.set_set, List.set_set, ih]
          · rw [List.set_comm _ _ e, List.set_comm _ _ e, ih]
      exact key vs
    · rw [wipe_set (vs := vs) ((List.mem_cons.mp h).resolve_left e)]
section
variable {X : Cx} {pos : Pos} {vs : List Nat}
theorem gw_name {i : Nat} {x : Str} (hv : i ∈ vs) (hN : X.N.Nodup) (hi : X.N[i]? = some x := by rfl) (hx : Loc X.env.scope x := by first | exact Or.inl rfl | exact Or.inr rfl) (hf : X.fn x = true ∨ X.env.scope.names.lookup x = some .local := by first | exact .inl rfl | exact .inr rfl | assumption) : DGw X vs (.Name x pos) (gN i) :=
  pg_imp (pg_name hN hi hx hf) fun v σ H Q ⟨F, S, env, M, d, Qd, R, r, t, p⟩ => p _ H S _ M (Same.refl _) (R.store r) (wipe_set hv) t
theorem gsw_nil : DGsw X vs [] gsNil := pgs_imp pgs_nil fun v σ H Q ⟨F, S, env, M, ds, Qd, R, r, t, p⟩ => by
  cases ds with
  | nil => exact ⟨r.nil_inv, p σ H S env M (Same.refl _) R rfl t⟩
  | cons _ _ => exact t.elim
theorem gsw_cons {e : Expr} {es : List Expr} {g : DTG} {r : DTGs} (h1 : DGw X vs e g) (h2 : DGsw X vs es r) (hs : (assignEach (e :: es) X.env).map (·.2) = assign e X.env :: (assignEach es X.env).map (·.2) := by rfl) : DGsw X vs (e :: es) (gsCons g r) :=
  pgs_imp (pgs_cons h1 h2 hs) fun v σ H Q ⟨F, S, env, M, ds, Qd, R, r, t, p⟩ => by
    cases ds with
    | nil => exact t.elim
    | cons d rs =>
      obtain ⟨x, xs, rfl, r1, r2⟩ := r.cons_inv
      exact ⟨x, xs, rfl, F, S, env, M, d, _, R, r1, t, fun σ' H' S' env' M' s' R' w' q => ⟨F, S', env', M', rs, Qd, R', r2.mono s', q, fun σ2 H2 S2 env2 M2 s2 R2 w2 q2 => p σ2 H2 S2 env2 M2 (s'.trans s2) R2 (w2.trans w') q2⟩⟩
theorem gw_tup {es : List Expr} {k : Nat} {t : DTGs} {n : Nat} (hc : X.calm = true) (h : DGsw X vs es t) (hn : (assignEach es X.env).length = n := by rfl) (hst : (assignEach es X.env).findIdx? (·.1) = none := by rfl) : DGw X vs (.Tuple es k pos) (gT n t) :=
  pg_imp (pg_tup hc h hn hst) fun v σ H Q ⟨F, S, env, M, d, Qd, R, r, t, p⟩ => by
    cases d with
    | tup ds =>
      obtain ⟨a, xs, rfl, h, t1⟩ := r
      exact ⟨a, xs, rfl, DL.Same.tup R.c.same h, by rw [← t1.length]; exact t.1, F, S, env, M, ds, Qd, R, t1, t.2, p⟩
    | _ => exact t.elim
end
section
variable {K : PySem.W.Frag} {F S H : Hp} {M : Mem} {σ : L2.St} {env : Ev}
theorem wipeD_length (vs : List Nat) : (wipeD env vs).length = env.length := by
  induction vs with
  | nil => rfl
  | cons v vs ih => unfold wipeD; rw [put_length, ih]
theorem unw_length {be : Ev} (vs : List Nat) : (unw env be vs).length = be.length := by
  induction vs with
  | nil => rfl
  | cons v vs ih => unfold unw; rw [put_length, ih]
theorem Rel.wipe1 (R : Rel K F S σ H env M) (v : Nat) : Rel K F S (σ.set v none) H (put env v .no) M := by
  refine ⟨R.c, by rw [put_length, List.length_set]; exact R.len, fun i d e => ?_, fun i ds e => ?_, fun i j a ds es n q1 q2 e => ?_⟩
  · have h : v ≠ i := fun z => by
      subst z
      have hi : v < env.length := by have := look_lt e (fun z => by cases z); rwa [put_length] at this
      rw [look_put_same hi] at e
      cases e
    rw [look_put_ne h] at e
    obtain ⟨u, e1, r⟩ := R.val i d e
    exact ⟨u, by rw [List.getElem?_set_ne h]; exact e1, r⟩
  · have h : v ≠ i := fun z => by
      subst z
      have hi : v < env.length := by have := look_lt e (fun z => by cases z); rwa [put_length] at this
      rw [look_put_same hi] at e
      cases e
    rw [look_put_ne h] at e
    obtain ⟨a, xs, e1, x⟩ := R.own i ds e
    exact ⟨a, xs, by rw [List.getElem?_set_ne h]; exact e1, x⟩
  · have h1 : v ≠ i := fun z => by
      subst z
      have hi : v < env.length := by have := look_lt q1 (fun z => by cases z); rwa [put_length] at this
      rw [look_put_same hi] at q1
      cases q1
    have h2 : v ≠ j := fun z => by
      subst z
      have hi : v < env.length := by have := look_lt q2 (fun z => by cases z); rwa [put_length] at this
      rw [look_put_same hi] at q2
      cases q2
    rw [look_put_ne h1] at q1
    rw [look_put_ne h2] at q2
    rw [List.getElem?_set_ne h1] at e
    rw [List.getElem?_set_ne h2]
    exact R.dis i j a ds es n q1 q2 e
theorem Rel.wipes (R : Rel K F S σ H env M) : ∀ vs : List Nat, Rel K F S (wipe σ vs) H (wipeD env vs) M
  | [] => R
  | v :: vs => (R.wipes vs).wipe1 v
/-- a slot gets back what it held -/
theorem Rel.restore1 {σ0 : L2.St} {env0 : Ev} (R : Rel K F S σ H env M) (v : Nat) (hl : σ0.length = σ.length) (h : (∃ d u, look env0 v = .val d ∧ σ0[v]? = some (some u) ∧ Rep K S d u) ∨ look env0 v = .no) :
    ∀ x, (∀ d, look env0 v = .val d → σ0[v]? = some x) → Rel K F S (σ.set v x) H (put env v (look env0 v)) M := by
  intro x hx
  rcases h with ⟨d, u, e1, e2, r⟩ | e1
  · have e3 := hx d e1
    rw [e2] at e3
    cases e3
    rw [e1]
    exact R.store r
  · rw [e1]
    refine ⟨R.c, by rw [put_length, List.length_set]; exact R.len, fun i d e => ?_, fun i ds e => ?_, fun i j a ds es n q1 q2 e => ?_⟩
    · have h : v ≠ i := fun z => by
        subst z
        have hi : v < env.length := by have := look_lt e (fun z => by cases z); rwa [put_length] at this
        rw [look_put_same hi] at e
        cases e
      rw [look_put_ne h] at e
      obtain ⟨u, e1, r⟩ := R.val i d e
      exact ⟨u, by rw [List.getElem?_set_ne h]; exact e1, r⟩
    · have h : v ≠ i := fun z => by
        subst z
        have hi : v < env.length := by have := look_lt e (fun z => by cases z); rwa [put_length] at this
        rw [look_put_same hi] at e
        cases e
      rw [look_put_ne h] at e
      obtain ⟨a, xs, e1, x⟩ := R.own i ds e
      exact ⟨a, xs, by rw [List.getElem?_set_ne h]; exact e1, x⟩
    · have h1 : v ≠ i := fun z => by
        subst z
        have hi : v < env.length := by have := look_lt q1 (fun z => by cases z); rwa [put_length] at this
        rw [look_put_same hi] at q1
        cases q1
      have h2 : v ≠ j := fun z => by
        subst z
        have hi : v < env.length := by have := look_lt q2 (fun z => by cases z); rwa [put_length] at this
        rw [look_put_same hi] at q2
        cases q2
      rw [look_put_ne h1] at q1
      rw [look_put_ne h2] at q2
      rw [List.getElem?_set_ne h1] at e
      rw [List.getElem?_set_ne h2]
      exact R.dis i j a ds es n q1 q2 e
def restoreS (σ0 σ : L2.St) : List Nat → L2.St
  | [] => σ
  | v :: vs => (restoreS σ0 σ vs).set v ((σ0[v]?).join)
theorem restoreS_length {σ0 : L2.St} (vs : List Nat) : (restoreS σ0 σ vs).length = σ.length := by
  induction vs with
  | nil => rfl
  | cons v vs ih => unfold restoreS; rw [List.length_set, ih]
theorem wipe_get {σ : L2.St} {j : Nat} : ∀ {vs : List Nat}, j ∉ vs → (wipe σ vs)[j]? = σ[j]?
  | [], _ => rfl
  | v :: vs, h => by
    unfold wipe
    rw [List.getElem?_set_ne (fun z => h (by rw [z]; exact List.mem_cons_self)), wipe_get fun z => h (List.mem_cons_of_mem _ z)]
theorem wipe_at {σ : L2.St} {u : Nat} (hl : u < σ.length) : ∀ {ws : List Nat}, u ∈ ws → (wipe σ ws)[u]? = some none
  | v :: ws, z => by
    show ((wipe σ ws).set v none)[u]? = some none
    by_cases e : v = u
    · subst e; rw [List.getElem?_set_self (by rw [wipe_length]; exact hl)]
    · rw [List.getElem?_set_ne e]; exact wipe_at hl ((List.mem_cons.mp z).resolve_left (Ne.symm e))
theorem wipe_wipe {σ : L2.St} {vs : List Nat} : ∀ us : List Nat, (∀ u ∈ us, u ∈ vs) → wipe (wipe σ vs) us = wipe σ vs
  | [], _ => rfl
  | u :: us, hu => by
    show (wipe (wipe σ vs) us).set u none = wipe σ vs
    rw [wipe_wipe us fun z hz => hu z (List.mem_cons_of_mem _ hz)]
    have hm := hu u List.mem_cons_self
    refine List.ext_getElem? fun j => ?_
    by_cases e : u = j
    · subst e
      by_cases hl : u < σ.length
      · rw [List.getElem?_set_self (by rw [wipe_length]; exact hl), wipe_at hl hm]
      · rw [List.getElem?_eq_none_iff.mpr (by rw [List.length_set, wipe_length]; omega), List.getElem?_eq_none_iff.mpr (by rw [wipe_length]; omega)]
    · rw [List.getElem?_set_ne e]
theorem restoreS_get {σ0 : L2.St} {j : Nat} (hj : j < σ.length) (hl : σ0.length = σ.length) : ∀ {vs : List Nat}, (j ∈ vs → (restoreS σ0 σ vs)[j]? = σ0[j]?) ∧ (j ∉ vs → (restoreS σ0 σ vs)[j]? = σ[j]?)
  | [] => ⟨fun z => absurd z (by simp), fun _ => rfl⟩
  | v :: vs => by
    obtain ⟨i1, i2⟩ := restoreS_get (σ0 := σ0) hj hl (vs := vs)
    unfold restoreS
    by_cases e : v = j
    · subst e
      have hj0 : v < σ0.length := by rw [hl]; exact hj
      refine ⟨fun _ => ?_, fun z => absurd List.mem_cons_self z⟩
      rw [List.getElem?_set_self (by rw [restoreS_length]; exact hj), List.getElem?_eq_getElem hj0]
      rfl
    · rw [List.getElem?_set_ne e]
      exact ⟨fun z => i1 ((List.mem_cons.mp z).resolve_left (Ne.symm e)), fun z => i2 fun y => z (List.mem_cons_of_mem _ y)⟩
theorem restoreS_wipe {σ : L2.St} (vs : List Nat) : restoreS σ (wipe σ vs) vs = σ := by
  have hl : σ.length = (wipe σ vs).length := (wipe_length σ vs).symm
  refine List.ext_getElem? fun j => ?_
  by_cases hj : j < σ.length
  · have q := restoreS_get (σ := wipe σ vs) (σ0 := σ) (j := j) (by rw [← hl]; exact hj) hl (vs := vs)
    by_cases hm : j ∈ vs
    · exact q.1 hm
    · rw [q.2 hm, wipe_get hm]
  · rw [List.getElem?_eq_none_iff.mpr (by rw [restoreS_length, wipe_length]; omega), List.getElem?_eq_none_iff.mpr (by omega)]
theorem Rel.restores {σ0 : L2.St} {env0 : Ev} {S0 H0 : Hp} {M0 : Mem} {F0 : Hp} (R0 : Rel K F0 S0 σ0 H0 env0 M0) (ss : Same S0 S) (R : Rel K F S σ H env M) (hl : σ0.length = σ.length) : ∀ vs : List Nat, vs.all (fun v => notOwn (look env0 v)) = true → Rel K F S (restoreS σ0 σ vs) H (unw env0 env vs) M
  | [], _ => R
  | v :: vs, h => by
    simp only [List.all_cons, Bool.and_eq_true] at h
    have ih := Rel.restores R0 ss R hl vs h.2
    unfold restoreS unw
    refine ih.restore1 (σ0 := σ0) v (by rw [restoreS_length]; exact hl) ?_ _ fun d e => ?_
    · cases q : look env0 v with
      | no => exact .inr rfl
      | val d =>
        obtain ⟨u, e1, r⟩ := R0.val v d q
        exact .inl ⟨d, u, rfl, e1, r.mono ss⟩
      | own ds => rw [q] at h; cases h.1
    · obtain ⟨u, e1, r⟩ := R0.val v d e
      rw [e1]
      rfl
/-- a list of the frame's changes -/
theorem Rel.frSet {a : Addr} {xs ys : List V} (R : Rel K (upd F a (.lst xs)) S σ H env M) : Rel K (upd F a (.lst ys)) S σ (upd H a (.lst ys)) env M := by
  obtain ⟨h1, h2, h3⟩ := R.c.fr a _ upd_same
  refine ⟨⟨fun b o e => ?_, fun b o e => ?_, fun b o e => ?_⟩, R.len, R.val, fun i ds e => ?_, R.dis⟩
  · rw [upd_ne (fun z => by rw [z, h2] at e; cases e)]; exact R.c.same b o e
  · by_cases hb : b = a
    · subst hb; rw [upd_same] at e ⊢; cases e; exact ⟨rfl, h2, h3⟩
    · rw [upd_ne hb] at e ⊢; exact R.c.fr b o (by rw [upd_ne hb]; exact e)
  · have hb : b ≠ a := fun z => by rw [z, h3] at e; cases e
    exact ⟨(R.c.mem b o e).1, (R.c.mem b o e).2.mono (Same.refl _) (upd_ne hb)⟩
  · obtain ⟨b, zs, e1, e2, e3, e4, e5, r⟩ := R.own i ds e
    have hb : b ≠ a := fun z => by rw [z, upd_same] at e5; cases e5
    exact ⟨b, zs, e1, by rw [upd_ne hb]; exact e2, e3, e4, by rw [upd_ne hb] at e5 ⊢; exact e5, r⟩
theorem Rel.frAdd {a : Addr} {xs : List V} (R : Rel K F S σ H env M) (h : H a = none) : Rel K (upd F a (.lst xs)) S σ (upd H a (.lst xs)) env M := by
  have R1 : Rel K F S σ (upd H a (.lst xs)) env M := R.more fun b o e => by rw [upd_ne (ne_of_none e h)]; exact e
  refine ⟨⟨R1.c.same, fun b o e => ?_, R1.c.mem⟩, R.len, R.val, fun i ds e => ?_, R.dis⟩
  · by_cases hb : b = a
    · subst hb; rw [upd_same] at e ⊢; cases e; exact ⟨rfl, R.c.sfree h, R.c.mfree h⟩
    · rw [upd_ne hb] at e; exact R1.c.fr b o e
  · obtain ⟨b, zs, e1, e2, e3, e4, e5, r⟩ := R1.own i ds e
    have hb : b ≠ a := R.ownNe e1 ⟨ds, e⟩ h
    exact ⟨b, zs, e1, e2, e3, e4, by rw [upd_ne hb]; exact e5, r⟩
theorem Rel.frDrop {a : Addr} {xs : List V} (R : Rel K (upd F a (.lst xs)) S σ H env M) (h : F a = none) : Rel K F S σ H env M ∧ ∀ ds, Reps K S ds xs → NewAt K F S σ H env M a ds := by
  obtain ⟨h1, h2, h3⟩ := R.c.fr a _ upd_same
  refine ⟨⟨⟨R.c.same, fun b o e => ?_, R.c.mem⟩, R.len, R.val, fun i ds e => ?_, R.dis⟩, fun ds r => ⟨⟨xs, h1, r⟩, h2, h3, h, fun j es hj e => ?_⟩⟩
  · have hb : b ≠ a := fun z => by rw [z, h] at e; cases e
    exact R.c.fr b o (by rw [upd_ne hb]; exact e)
  · obtain ⟨b, zs, e1, e2, e3, e4, e5, r⟩ := R.own i ds e
    have hb : b ≠ a := fun z => by rw [z, upd_same] at e5; cases e5
    exact ⟨b, zs, e1, e2, e3, e4, by rw [upd_ne hb] at e5; exact e5, r⟩
  · obtain ⟨b, zs, e1, _, _, _, e5, _⟩ := R.own j es hj
    rw [e] at e1
    cases e1
    rw [upd_same] at e5
    cases e5
end
section
variable {X : Cx}
/-- what a comprehension's reading asks, from the lifted one -/
theorem lift_lc {wi : DTI} {g : DTG} {tt : DTT} {te : DT} {vs : List Nat} {σ : L2.St} {H : Hp} {Q : VK} (h : LN X.K (dLc wi g tt te vs) σ H Q) : tLc (LI X.K wi) (LGw X.K vs g) (LT X.K tt) (LE X.K te) vs σ H Q := by
  obtain ⟨F, S, env, M, Qd, R, t, p⟩ := h
  refine ⟨F, S, env, M, _, R, t, fun J H1 S1 env1 M1 items s1 R1 w q => ?_⟩
  obtain ⟨hown, q⟩ := q
  intro D hD
  have fD : F D = none := R1.c.ffree hD
  refine ⟨fun i m H' => m = items.length - i ∧ i ≤ items.length ∧ ∃ S' be M' av acc, Same S1 S' ∧ Rel X.K (upd F D (.lst av)) S' (wipe σ vs) H' be M' ∧ Reps X.K S' acc av ∧ lcW g tt te vs (items.drop i) acc be M' (fun ys be M2 => Qd ys (unw env1 be vs) M2),
    ⟨items.length, by simp, Nat.zero_le _, S1, wipeD env1 vs, M1, [], [], Same.refl _, (R1.frAdd (xs := []) hD).wipes vs, trivial, by rw [List.drop_zero]; exact q⟩, ?_⟩
  rintro i m H2 ⟨rfl, hi, S2, be, M2, av, acc, s2, R2, ra, q2⟩
  by_cases hlt : i < items.length
  · refine .inr ⟨w.go i H2 S2 hlt s2 R2.c.same, _, fun H' z => ⟨items.length - (i + 1), by omega, z⟩, fun x H3 y => ?_⟩
    have ed : items.drop i = items[i] :: items.drop (i + 1) := List.drop_eq_getElem_cons hlt
    rw [ed] at q2
    have hd : items[i]? = some items[i] := by simp [hlt]
    have fin : ∀ S3, Same S2 S3 → Rel X.K (upd F D (.lst av)) S3 (wipe σ vs) H3 be M2 → Rep X.K S3 items[i] x → LGw X.K vs g x (wipe σ vs) H3 fun σ2 H2 => wipe σ2 vs = wipe σ vs ∧ LT X.K tt σ2 H2 fun b H3 =>
        if b = true then LE X.K te σ2 H3 fun y H4 => ∃ acc, H4 D = some (.lst acc) ∧ acc.length < sizeLine ∧ (items.length - (i + 1) = items.length - (i + 1) ∧ i + 1 ≤ items.length ∧ ∃ S' be M' av acc', Same S1 S' ∧ Rel X.K (upd F D (.lst av)) S' (wipe σ vs) (upd H4 D (.lst (acc ++ [y]))) be M' ∧ Reps X.K S' acc' av ∧ lcW g tt te vs (items.drop (i + 1)) acc' be M' (fun ys be M2 => Qd ys (unw env1 be vs) M2))
        else (items.length - (i + 1) = items.length - (i + 1) ∧ i + 1 ≤ items.length ∧ ∃ S' be M' av acc', Same S1 S' ∧ Rel X.K (upd F D (.lst av)) S' (wipe σ vs) H3 be M' ∧ Reps X.K S' acc' av ∧ lcW g tt te vs (items.drop (i + 1)) acc' be M' (fun ys be M2 => Qd ys (unw env1 be vs) M2)) := fun S3 s3 R3 r3 => by
      have ww : wipe (wipe σ vs) vs = wipe σ vs := wipe_wipe vs fun _ z => z
      refine ⟨_, S3, be, M2, items[i], _, R3, r3, q2, fun σ4 H4 S4 env4 M4 s4 R4 w4 q4 => ⟨w4.trans ww, _, S4, env4, M4, _, R4, q4, fun b H5 S5 env5 M5 s5 R5 q5 => ?_⟩⟩
      have sx := s2.trans (s3.trans (s4.trans s5))
      cases b with
      | true =>
        refine ⟨_, S5, env5, M5, _, R5, q5, fun v H6 S6 env6 M6 d s6 R6 r6 q6 => ?_⟩
        have e6 := (R6.c.fr D _ upd_same).1
        have el : acc.length = av.length := ra.length
        have R7 : Rel X.K (upd F D (.lst (av ++ [v]))) S6 (wipe σ vs) (upd H6 D (.lst (av ++ [v]))) (wipeD env6 vs) M6 := by
          have z := (R6.frSet (ys := av ++ [v])).wipes vs
          rw [w4, ww] at z
          exact z
        exact ⟨av, e6, by rw [← el]; exact q6.1, rfl, hlt, S6, wipeD env6 vs, M6, av ++ [v], acc ++ [d], sx.trans s6, R7, (ra.mono (s3.trans (s4.trans (s5.trans s6)))).append ⟨r6, trivial⟩, q6.2⟩
      | false =>
        have R7 : Rel X.K (upd F D (.lst av)) S5 (wipe σ vs) H5 (wipeD env5 vs) M5 := by
          have z := R5.wipes vs
          rw [w4, ww] at z
          exact z
        exact ⟨rfl, hlt, S5, wipeD env5 vs, M5, av, acc, sx, R7, ra.mono (s3.trans (s4.trans s5)), q5⟩
    rcases w.yld i items[i] x H2 H3 S2 hd s2 R2.c.same y with ⟨rfl, r⟩ | ⟨p1, o, hp1, rfl, r⟩
    · exact fin S2 (Same.refl _) R2 r
    · obtain ⟨R3, s3⟩ := R2.new (o := o) hp1
      exact fin _ s3 R3 r
  · obtain rfl : i = items.length := by omega
    rw [List.drop_length] at q2
    refine .inl ⟨w.stop H2 S2 s2 R2.c.same, ?_⟩
    obtain ⟨R3, nw⟩ := R2.frDrop fD
    have R4 : Rel X.K F S2 σ H2 (unw env1 be vs) M2 := by
      have z := Rel.restores R1 s2 R3 (wipe_length σ vs).symm vs hown
      rw [restoreS_wipe] at z
      exact z
    have n := nw acc ra
    refine p D H2 S2 _ M2 acc (s1.trans s2) R4 ⟨n.ex, n.s, n.m, n.f, fun j es hj e => ?_⟩ q2
    obtain ⟨b, zs, e1, e2, _, _, _, _⟩ := R4.own j es hj
    rw [e] at e1
    cases e1
    -- an own list of the def stands apart from the new one
    obtain ⟨h1, h2, h3⟩ := R2.c.fr D _ upd_same
    by_cases hm : j ∈ vs
    · have hj1 : look env1 j = .own es ∨ True := .inr trivial
      have key : ∀ us : List Nat, j ∈ us → us.all (fun v => notOwn (look env1 v)) = true → look (unw env1 be us) j ≠ .own es := fun us => by
        induction us with
        | nil => intro z; cases z
        | cons u us ih =>
          intro z ha
          simp only [List.all_cons, Bool.and_eq_true] at ha
          unfold unw
          by_cases e : u = j
          · subst e
            by_cases hl : u < (unw env1 be us).length
            · rw [look_put_same hl]
              intro y
              rw [y] at ha
              cases ha.1
            · intro y
              have := look_lt y (fun z => by cases z)
              rw [put_length] at this
              exact hl this
          · rw [look_put_ne e]
            exact ih ((List.mem_cons.mp z).resolve_left (Ne.symm e)) ha.2
      exact key vs hm hown hj
    · have key : ∀ us : List Nat, j ∉ us → look (unw env1 be us) j = look be j := fun us => by
        induction us with
        | nil => intro _; rfl
        | cons u us ih =>
          intro z
          unfold unw
          rw [look_put_ne (fun y => z (by rw [y]; exact List.mem_cons_self)), ih fun y => z (List.mem_cons_of_mem _ y)]
      rw [key vs hm] at hj
      obtain ⟨b, zs, f1, _, _, _, f5, _⟩ := R2.own j es hj
      rw [wipe_get hm, e] at f1
      cases f1
      rw [upd_same] at f5
      cases f5
@[reducible] def ownIx : List (Str × Nat) → List Nat
  | [] => []
  | q :: r => q.2 :: ownIx r
theorem ownIx_eq (own : List (Str × Nat)) : ownIx own = own.map (·.2) := by
  induction own with
  | nil => rfl
  | cons q r ih => rw [ownIx, ih, List.map_cons]
/-- tests of a comprehension -/
@[reducible] def dTrue : DTT := fun env M Q => Q true env M
theorem ts_nil : PTs X [] (LT X.K dTrue) := ⟨fun pins s σ H Q I ⟨F, S, env, M, Qd, R, t, p⟩ => (pts_nil (X := X)).run pins s σ H Q I (p true H S env M (Same.refl _) R t)⟩
theorem ts_one {c : Expr} {tc : DTT} (h : DTst X c tc) : PTs X [c] (LT X.K tc) := pts_one h
variable {elt tg iter : Expr} {ifs : List Expr} {scope : Scope} {own : List (Str × Nat)} {pos spos : Pos} {wi : DTI} {g : DTG} {tt : DTT} {te : DT}
theorem n_lc (hc : X.calm = true) (hN : X.N.Nodup) (hi : DI X tg iter wi) (ok : BlkOk X.N X.env.scope scope own)
    (hg : ∀ (s : Shared) (H : Hp) (C : Addr) (cl : List (Str × Addr)) (fp : List Addr), DGw (X.blk s H scope (compEnvC scope cl C X.env) fp) (ownIx own) tg g) (ht : ∀ (s : Shared) (H : Hp) (C : Addr) (cl : List (Str × Addr)) (fp : List Addr), PTs (X.blk s H scope (compEnvC scope cl C X.env) fp) ifs (LT X.K tt))
    (he : ∀ (s : Shared) (H : Hp) (C : Addr) (cl : List (Str × Addr)) (fp : List Addr), DE (X.blk s H scope (compEnvC scope cl C X.env) fp) elt te) (hs : ∀ x, foldedSetIterable iter X.env x = pure x := by intro _; rfl) :
    DN X (.ListComp elt [⟨tg, iter, ifs, 0⟩] scope pos) (dLc wi g tt te (ownIx own)) := by
  rw [ownIx_eq own] at hg ⊢
  exact pe_imp (pe_lc (g := LGw X.K (own.map (fun q : Str × Nat => q.2)) g) (tt := LT X.K tt) (te := LE X.K te) hc hN hi ok hg ht he hs) fun σ H Q q => lift_lc q
theorem s_setLc {i : Nat} {y : Str} {py : Pos} (hc : X.calm = true) (hN : X.N.Nodup) (hy : X.N[i]? = some y) (hyl : X.env.scope.names.lookup y = some .local)
    (hsw : swapsWith (.ListComp elt [⟨tg, iter, ifs, 0⟩] scope pos) (some (.Name y py)) spos.line X.env = pure true) (hi : DI X tg iter wi) (ok : BlkOk X.N X.env.scope scope own)
    (hg : ∀ (s : Shared) (H : Hp) (C : Addr) (cl : List (Str × Addr)) (fp : List Addr), DGw (X.blk s H scope (compEnvC scope cl C X.env) fp) (ownIx own) tg g) (ht : ∀ (s : Shared) (H : Hp) (C : Addr) (cl : List (Str × Addr)) (fp : List Addr), PTs (X.blk s H scope (compEnvC scope cl C X.env) fp) ifs (LT X.K tt))
    (he : ∀ (s : Shared) (H : Hp) (C : Addr) (cl : List (Str × Addr)) (fp : List Addr), DE (X.blk s H scope (compEnvC scope cl C X.env) fp) elt te) (hs : ∀ x, foldedSetIterable iter X.env x = pure x := by intro _; rfl) :
    DS X (.Assign [.Name y py] (.ListComp elt [⟨tg, iter, ifs, 0⟩] scope pos) spos) (sSetN (dLc wi g tt te (ownIx own)) i) := by
  rw [ownIx_eq own] at hg ⊢
  exact ps_imp (ps_setLc (own := own) (g := LGw X.K (own.map (fun q : Str × Nat => q.2)) g) (tt := LT X.K tt) (te := LE X.K te) hc hN hy hyl hsw hi ok hg ht he hs) fun D σ H ⟨F, S, env, M, Ed, R, t, p⟩ =>
    show tLc (LI X.K wi) (LGw X.K (own.map (fun q : Str × Nat => q.2)) g) (LT X.K tt) (LE X.K te) (own.map (fun q : Str × Nat => q.2)) σ H (fun x H1 => gName i x σ H1 D.nx) from lift_lc ⟨F, S, env, M, _, R, t, fun a H' S' env' M' ds s' R' n q => by
      obtain ⟨xs, e1, r⟩ := n.ex
      exact p.nx _ H' S' _ M' s' (R'.storeOwn e1 n.s n.m n.f r fun j es hj _ => n.o j es hj) q⟩
end
end DL
set_option Elab.async false
set_option linter.all false
set_option maxRecDepth 100000
set_option maxHeartbeats 1000000
/-! DL5: lists that grow, tuples of targets, dicts, isinstance, a def's promise by its body. -/
namespace DL
open PySem PySem.Spec PyProof.Rows L2

/-! ### xs.append(e), xs.extend(e): xs a list of one's own -/
section
variable {X : Cx} {e : Expr} {te : DT} {pos apos cpos npos : Pos}
theorem pv_own {K : PySem.W.Frag} {F S H : Hp} {σ : L2.St} {env : Ev} {M : Mem} {i : Nat} {ds : List D} (R : Rel K F S σ H env M) (h : look env i = .own ds) : ∃ a xs, σ[i]? = some (some (.ref a)) ∧ H a = some (.lst xs) ∧ Reps K S ds xs := by
  obtain ⟨a, xs, e1, e2, _, _, _, r⟩ := R.own i ds h
  exact ⟨a, xs, e1, e2, r⟩
/-- the list grows -/
theorem Rel.grow1 {K : PySem.W.Frag} {F S H : Hp} {σ : L2.St} {env : Ev} {M : Mem} {i : Nat} {ds es : List D} {a : Addr} {ys : List V} (R : Rel K F S σ H env M) (h : look env i = .own ds) (e : σ[i]? = some (some (.ref a))) (r : Reps K S es ys) : Rel K F S σ (upd H a (.lst ys)) (put env i (.own es)) M := by
  obtain ⟨b, xs, e1, e2, e3, e4, e5, _⟩ := R.own i ds h
  rw [e] at e1
  cases e1
  have hi : i < env.length := look_lt h (fun z => by cases z)
  have c : RelC K F S (upd H a (.lst ys)) M := by
    refine ⟨fun b o q => ?_, fun b o q => ?_, fun b o q => ?_⟩
    · rw [upd_ne (fun z => by rw [z, e3] at q; cases q)]; exact R.c.same b o q
    · have hb : b ≠ a := fun z => by rw [z, e5] at q; cases q
      rw [upd_ne hb]
      exact R.c.fr b o q
    · have hb : b ≠ a := fun z => by rw [z, e4] at q; cases q
      exact ⟨(R.c.mem b o q).1, (R.c.mem b o q).2.mono (Same.refl _) (upd_ne hb)⟩
  refine ⟨c, by rw [put_length]; exact R.len, fun j d q => ?_, fun j fs q => ?_, fun j k b fs gs n q1 q2 eb => ?_⟩
  · have hj : i ≠ j := fun z => by subst z; rw [look_put_same hi] at q; cases q
    rw [look_put_ne hj] at q
    exact R.val j d q
  · by_cases hj : i = j
    · subst hj
      rw [look_put_same hi] at q
      cases q
      exact ⟨a, ys, e, upd_same, e3, e4, e5, r⟩
    · rw [look_put_ne hj] at q
      obtain ⟨b, zs, f1, f2, f3⟩ := R.own j fs q
      have hb : b ≠ a := fun z => by rw [z] at f1; exact R.dis i j a ds fs hj h q e f1
      exact ⟨b, zs, f1, by rw [upd_ne hb]; exact f2, f3⟩
  · have look' : ∀ j fs, look (put env i (.own es)) j = .own fs → ∃ gs, look env j = .own gs := fun j fs q => by
      by_cases hj : i = j
      · subst hj; exact ⟨ds, h⟩
      · rw [look_put_ne hj] at q; exact ⟨fs, q⟩
    obtain ⟨fs', q1'⟩ := look' j fs q1
    obtain ⟨gs', q2'⟩ := look' k gs q2
    exact R.dis j k b fs' gs' n q1' q2' eb
@[reducible] def sApp (i : Nat) (te : DT) : DTS := fun E env M => match look env i with
  | .own _ => te env M fun d env1 M1 => (match look env1 i with
    | .own ds => ds.length < sizeLine ∧ E.nx (put env1 i (.own (ds ++ [d]))) M1
    | _ => False)
  | _ => False
theorem s_append (i : Nat) {x : Str} (he : DE X e te) (hN : X.N[i]? = some x := by rfl) (hv : Vis X.env.scope x := by first | exact Or.inl rfl | exact Or.inr (Or.inl rfl) | exact Or.inr (Or.inr rfl)) (hd : (x == ("__debug__" : Str)) = false := by decide) (hcd : (x == ("__classdict__" : Str)) = false := by decide)
    (hs : swapsWith (.Call (.Attribute (.Name x npos) "append" apos) [e] [] cpos) none pos.line X.env = pure false := by rfl)
    (hbase : attributeBase (.Name x npos) "append" X.env (eval (.Name x npos) X.env) = eval (.Name x npos) X.env := by rfl)
    (hfew : ((backTo cpos (starEach [e] X.env)).all (fun x => !x.1) && (backToKw cpos (keywordEach [] X.env)).all (fun x => x.1.isSome) && decide ([e].length + ([] : List Keyword).length + (if ([] : List Keyword).isEmpty then 0 else 1) < 30)) = true := by rfl)
    (hline : (apos.endLine == cpos.line) = true := by rfl) (hst : starEach [e] X.env = (false, eval e X.env) :: starEach [] X.env := by rfl) :
    DS X (.Expr (.Call (.Attribute (.Name x npos) "append" apos) [e] [] cpos) pos) (sApp i te) := by
  refine ps_imp (ps_expr (pe_bm PySem.F.plainAttrs_list PySem.F.slot_list_append PySem.F.type_list_append mt_append (pv i hN hv hd hcd) (pa_cons he pa_nil hst) hbase hfew hline hst rfl) hs) fun D σ H ⟨F, S, env, M, Ed, R, t, p⟩ => ?_
  unfold sApp at t
  cases hl : look env i with
  | own ds0 =>
    simp only [hl] at t
    obtain ⟨a, xs0, e1, e2, _⟩ := pv_own R hl
    refine ⟨_, e1, .inl ⟨rfl, _, SqL.of e2⟩, F, S, env, M, _, R, t, fun v H' S' env' M' d s' R' r q => ?_⟩
    cases hl' : look env' i with
    | own ds =>
      simp only [hl'] at q
      obtain ⟨b, xs, f1, f2, rs⟩ := pv_own R' hl'
      rw [e1] at f1
      cases f1
      exact ⟨a, xs, v, rfl, rfl, f2, by rw [← rs.length]; exact q.1, p.nx σ _ S' _ M' s' (R'.grow1 hl' e1 (rs.append (show Reps X.K S' [d] [v] from ⟨r, trivial⟩))) q.2⟩
    | val _ => simp only [hl'] at q
    | no => simp only [hl'] at q
  | val _ => simp only [hl] at t
  | no => simp only [hl] at t
@[reducible] def sExt (i : Nat) (te : DT) : DTS := fun E env M => match look env i with
  | .own _ => te env M fun d env1 M1 => (match look env1 i, d with
    | .own ds, .lst es => ds.length + es.length ≤ sizeLine ∧ E.nx (put env1 i (.own (ds ++ es))) M1
    | _, _ => False)
  | _ => False
theorem s_extend (i : Nat) {x : Str} (he : DE X e te) (hN : X.N[i]? = some x := by rfl) (hv : Vis X.env.scope x := by first | exact Or.inl rfl | exact Or.inr (Or.inl rfl) | exact Or.inr (Or.inr rfl)) (hd : (x == ("__debug__" : Str)) = false := by decide) (hcd : (x == ("__classdict__" : Str)) = false := by decide)
    (hs : swapsWith (.Call (.Attribute (.Name x npos) "extend" apos) [e] [] cpos) none pos.line X.env = pure false := by rfl)
    (hbase : attributeBase (.Name x npos) "extend" X.env (eval (.Name x npos) X.env) = eval (.Name x npos) X.env := by rfl)
    (hfew : ((backTo cpos (starEach [e] X.env)).all (fun x => !x.1) && (backToKw cpos (keywordEach [] X.env)).all (fun x => x.1.isSome) && decide ([e].length + ([] : List Keyword).length + (if ([] : List Keyword).isEmpty then 0 else 1) < 30)) = true := by rfl)
    (hline : (apos.endLine == cpos.line) = true := by rfl) (hst : starEach [e] X.env = (false, eval e X.env) :: starEach [] X.env := by rfl) :
    DS X (.Expr (.Call (.Attribute (.Name x npos) "extend" apos) [e] [] cpos) pos) (sExt i te) := by
  refine ps_imp (ps_expr (pe_bm PySem.F.plainAttrs_list PySem.F.slot_list_extend PySem.F.type_list_extend mt_extend (pv i hN hv hd hcd) (pa_cons he pa_nil hst) hbase hfew hline hst rfl) hs) fun D σ H ⟨F, S, env, M, Ed, R, t, p⟩ => ?_
  unfold sExt at t
  cases hl : look env i with
  | own ds0 =>
    simp only [hl] at t
    obtain ⟨a, xs0, e1, e2, _⟩ := pv_own R hl
    refine ⟨_, e1, .inl ⟨rfl, _, SqL.of e2⟩, F, S, env, M, _, R, t, fun v H' S' env' M' d s' R' r q => ?_⟩
    cases hl' : look env' i with
    | own ds =>
      cases d with
      | lst es =>
        simp only [hl'] at q
        obtain ⟨b, xs, f1, f2, rs⟩ := pv_own R' hl'
        rw [e1] at f1
        cases f1
        obtain ⟨c, zs, rfl, h1, rz⟩ := r
        exact ⟨a, c, xs, zs, rfl, rfl, f2, R'.c.same _ _ h1, by rw [← rs.length, ← rz.length]; exact q.1, p.nx σ _ S' _ M' s' (R'.grow1 hl' e1 (rs.append rz)) q.2⟩
      | _ => simp only [hl'] at q
    | val _ => simp only [hl'] at q
    | no => simp only [hl'] at q
  | val _ => simp only [hl] at t
  | no => simp only [hl] at t
end

/-! ### a, b = x, y: each a value or a new list -/
inductive RSl (K : PySem.W.Frag) (F S : Hp) (σ : L2.St) (H : Hp) (env : Ev) (M : Mem) : Sl → V → Prop where
  | val {d : D} {v : V} (r : Rep K S d v) : RSl K F S σ H env M (.val d) v
  | own {ds : List D} {a : Addr} (n : NewAt K F S σ H env M a ds) : RSl K F S σ H env M (.own ds) (.ref a)
section
variable {K : PySem.W.Frag} {F S H : Hp} {M : Mem} {σ : L2.St} {env : Ev}
/-- the frame of what is reckoned while a new list waits -/
theorem NewAt.keep {a : Addr} {ds : List D} {xs : List V} (R : Rel K F S σ H env M) (n : NewAt K F S σ H env M a ds) (e : H a = some (.lst xs)) : Rel K (upd F a (.lst xs)) S σ H env M := by
  refine ⟨⟨R.c.same, fun b o q => ?_, R.c.mem⟩, R.len, R.val, fun i es q => ?_, R.dis⟩
  · by_cases hb : b = a
    · subst hb; rw [upd_same] at q; cases q; exact ⟨e, n.s, n.m⟩
    · rw [upd_ne hb] at q; exact R.c.fr b o q
  · obtain ⟨b, ys, e1, e2, e3, e4, e5, r⟩ := R.own i es q
    have hb : b ≠ a := fun z => by rw [z] at e1; exact n.o i es q e1
    exact ⟨b, ys, e1, e2, e3, e4, by rw [upd_ne hb]; exact e5, r⟩
theorem Rel.storeSl (R : Rel K F S σ H env M) {i : Nat} {s : Sl} {v : V} (r : RSl K F S σ H env M s v) : Rel K F S (σ.set i (some v)) H (put env i s) M := by
  cases r with
  | val r => exact R.store r
  | own n =>
    obtain ⟨xs, e1, r⟩ := n.ex
    exact R.storeOwn e1 n.s n.m n.f r fun j es hj _ => n.o j es hj
end
abbrev KS2 := Sl → Sl → Ev → Mem → Prop
/-- two expressions, each a value (false) or a new list (true) -/
inductive EK where
  | v (t : DT) | n (t : DTN)
def ekK (K : PySem.W.Frag) : EK → TE
  | .v t => LE K t
  | .n t => LN K t
@[reducible] def ekRun : EK → Ev → Mem → (Sl → Ev → Mem → Prop) → Prop
  | .v t, env, M, Q => t env M fun d env1 M1 => Q (.val d) env1 M1
  | .n t, env, M, Q => t env M fun ds env1 M1 => Q (.own ds) env1 M1
theorem ek_lift {K : PySem.W.Frag} {F S H : Hp} {M : Mem} {σ : L2.St} {env : Ev} {k : EK} {Qd : Sl → Ev → Mem → Prop} {Q : VK} (R : Rel K F S σ H env M) (t : ekRun k env M Qd)
    (p : ∀ v H' S' env' M' s, Same S S' → Rel K F S' σ H' env' M' → RSl K F S' σ H' env' M' s v → Qd s env' M' → Q v H') : ekK K k σ H Q := by
  cases k with
  | v t1 => exact ⟨F, S, env, M, _, R, t, fun v H' S' env' M' d s' R' r q => p v H' S' env' M' (.val d) s' R' (.val r) q⟩
  | n t1 => exact ⟨F, S, env, M, _, R, t, fun a H' S' env' M' ds s' R' n q => p (.ref a) H' S' env' M' (.own ds) s' R' (.own n) q⟩
/-- while a first one waits -/
theorem ek_lift2 {K : PySem.W.Frag} {F S H : Hp} {M : Mem} {σ : L2.St} {env : Ev} {k : EK} {s1 : Sl} {v1 : V} {Qd : Sl → Ev → Mem → Prop} {Q : VK} (R : Rel K F S σ H env M) (r1 : RSl K F S σ H env M s1 v1) (t : ekRun k env M Qd)
    (p : ∀ v H' S' env' M' s, Same S S' → Rel K F S' σ H' env' M' → RSl K F S' σ H' env' M' s1 v1 → RSl K F S' σ H' env' M' s v → (∀ a, s1 = .own a → ∀ b, s = .own b → v ≠ v1) → Qd s env' M' → Q v H') : ekK K k σ H Q := by
  cases r1 with
  | val r => exact ek_lift R t fun v H' S' env' M' s s' R' r' q => p v H' S' env' M' s s' R' (.val (r.mono s')) r' (fun a z => by cases z) q
  | @own ds a n =>
    obtain ⟨xs, e1, rs⟩ := n.ex
    refine ek_lift (F := upd F a (.lst xs)) (NewAt.keep R n e1) t fun v H' S' env' M' s s' R' r' q => ?_
    obtain ⟨R2, nw⟩ := R'.frDrop n.f
    have n2 := nw ds (rs.mono s')
    have r2 : RSl K F S' σ H' env' M' s v := by
      cases r' with
      | val r => exact .val r
      | @own es b m =>
        have hb : b ≠ a := fun z => by have := m.f; rw [z, upd_same] at this; cases this
        exact .own ⟨m.ex, m.s, m.m, by have := m.f; rw [upd_ne hb] at this; exact this, m.o⟩
    refine p v H' S' env' M' s s' R2 (.own n2) r2 (fun _ _ b hb hv => ?_) q
    cases r' with
    | val _ => cases hb
    | @own es b' m =>
      cases hv
      have := m.f
      rw [upd_same] at this
      cases this
section
variable {X : Cx} {a b c : Expr} {pos px py pz pt : Pos} {kt k2 : Nat} {pt2 : Pos}
theorem Rel.storeSl2 {K : PySem.W.Frag} {F S H : Hp} {M : Mem} {σ : L2.St} {env : Ev} (R : Rel K F S σ H env M) {i j : Nat} {s t : Sl} {v u : V} (r : RSl K F S σ H env M s v) (q : RSl K F S σ H env M t u) (hv : ∀ a, s = .own a → ∀ b, t = .own b → u ≠ v) : Rel K F S ((σ.set i (some v)).set j (some u)) H (put (put env i s) j t) M := by
  have R1 := R.storeSl (i := i) r
  refine R1.storeSl ?_
  cases q with
  | val q => exact .val q
  | @own ds b n =>
    refine .own ⟨n.ex, n.s, n.m, n.f, fun k es hk e => ?_⟩
    by_cases z : i = k
    · subst z
      have hi : i < env.length := by have := look_lt hk (fun z => by cases z); rwa [put_length] at this
      rw [look_put_same hi] at hk
      subst hk
      rw [List.getElem?_set_self (by rw [← R.len]; exact hi)] at e
      exact hv es rfl ds rfl (Option.some.inj (Option.some.inj e)).symm
    · rw [look_put_ne z] at hk
      rw [List.getElem?_set_ne z] at e
      exact n.o k es hk e
/-- a, b = x, y; plain local names -/
@[reducible] def sPar (i j : Nat) (ka kb : EK) : DTS := fun E env M => ekRun ka env M fun s env1 M1 => ekRun kb env1 M1 fun t env2 M2 => E.nx (put (put env2 i s) j t) M2
theorem s_par {i j : Nat} {x y : Str} {ka kb : EK} (hc : X.calm = true) (hN : X.N.Nodup) (ha : PE X a (ekK X.K ka)) (hb : PE X b (ekK X.K kb)) (hi : X.N[i]? = some x := by rfl) (hj : X.N[j]? = some y := by rfl) (hij : i ≠ j := by decide)
    (hx : X.env.scope.names.lookup x = some .local := by rfl) (hy : X.env.scope.names.lookup y = some .local := by rfl)
    (hw : swappedStores [.Tuple [.Name x px, .Name y py] kt pt] (.Tuple [a, b] k2 pt2) X.env = pure (some [x, y]) := by rfl)
    (hs : swapsWithSole [.Tuple [.Name x px, .Name y py] kt pt] (.Tuple [a, b] k2 pt2) pos.line X.env = pure false := by rfl)
    (ht : starEach [a, b] X.env = (false, eval a X.env) :: starEach [b] X.env := by rfl) (ht2 : starEach [b] X.env = (false, eval b X.env) :: starEach [] X.env := by rfl) :
    DS X (.Assign [.Tuple [.Name x px, .Name y py] kt pt] (.Tuple [a, b] k2 pt2) pos) (sPar i j ka kb) :=
  ps_imp (ps_par hc hN hi hj hij hx hy (pa_cons ha (pa_cons hb pa_nil ht2) ht) hw hs) fun D σ H ⟨F, S, env, M, Ed, R, t, p⟩ =>
    ek_lift R t fun v H1 S1 env1 M1 s s1 R1 r1 q1 => ek_lift2 R1 r1 q1 fun u H2 S2 env2 M2 t2 s2 R2 r1' r2 hv q2 => ⟨v, u, rfl, p.nx _ H2 S2 _ M2 (s1.trans s2) (R2.storeSl2 r1' r2 hv) q2⟩
/-- a, b, c = x, y, z: the first two values -/
@[reducible] def sPar3 (i j l : Nat) (ta tb : DT) (kc : EK) : DTS := fun E env M => ta env M fun d env1 M1 => tb env1 M1 fun e env2 M2 => ekRun kc env2 M2 fun s env3 M3 => E.nx (put (put (put env3 i (.val d)) j (.val e)) l s) M3
theorem s_par3 {i j l : Nat} {x y z : Str} {ta tb : DT} {kc : EK} (hc : X.calm = true) (hN : X.N.Nodup) (ha : DE X a ta) (hb : DE X b tb) (hcc : PE X c (ekK X.K kc)) (hi : X.N[i]? = some x := by rfl) (hj : X.N[j]? = some y := by rfl) (hl : X.N[l]? = some z := by rfl) (hij : i ≠ j := by decide) (hil : i ≠ l := by decide) (hjl : j ≠ l := by decide)
    (hx : X.env.scope.names.lookup x = some .local := by rfl) (hy : X.env.scope.names.lookup y = some .local := by rfl) (hz : X.env.scope.names.lookup z = some .local := by rfl)
    (hw : swappedStores [.Tuple [.Name x px, .Name y py, .Name z pz] kt pt] (.Tuple [a, b, c] k2 pt2) X.env = pure (some [x, y, z]) := by rfl)
    (hs : swapsWithSole [.Tuple [.Name x px, .Name y py, .Name z pz] kt pt] (.Tuple [a, b, c] k2 pt2) pos.line X.env = pure false := by rfl)
    (ht : starEach [a, b, c] X.env = (false, eval a X.env) :: starEach [b, c] X.env := by rfl) (ht2 : starEach [b, c] X.env = (false, eval b X.env) :: starEach [c] X.env := by rfl) (ht3 : starEach [c] X.env = (false, eval c X.env) :: starEach [] X.env := by rfl) :
    DS X (.Assign [.Tuple [.Name x px, .Name y py, .Name z pz] kt pt] (.Tuple [a, b, c] k2 pt2) pos) (sPar3 i j l ta tb kc) :=
  ps_imp (ps_par3 hc hN hi hj hl hij hil hjl hx hy hz (pa_cons ha (pa_cons hb (pa_cons hcc pa_nil ht3) ht2) ht) hw hs) fun D σ H ⟨F, S, env, M, Ed, R, t, p⟩ =>
    ⟨F, S, env, M, _, R, t, fun v H1 S1 env1 M1 d s1 R1 r1 q1 => ⟨F, S1, env1, M1, _, R1, q1, fun u H2 S2 env2 M2 e s2 R2 r2 q2 => ek_lift R2 q2 fun w H3 S3 env3 M3 s s3 R3 r3 q3 => ⟨v, u, w, rfl, by
      have Q1 := R3.store (i := i) (r1.mono (s2.trans s3))
      have Q2 := Q1.store (i := j) (r2.mono s3)
      refine p.nx _ H3 S3 _ M3 ((s1.trans s2).trans s3) (Q2.storeSl ?_) q3
      cases r3 with
      | val r => exact .val r
      | @own ds b n =>
        refine .own ⟨n.ex, n.s, n.m, n.f, fun k es hk e => ?_⟩
        have k1 : j ≠ k := fun z => by
          subst z
          have hi : j < (put env3 i (.val d)).length := by have := look_lt hk (fun z => by cases z); rwa [put_length] at this
          rw [look_put_same hi] at hk
          cases hk
        rw [look_put_ne k1] at hk
        rw [List.getElem?_set_ne k1] at e
        have k0 : i ≠ k := fun z => by
          subst z
          have hi : i < env3.length := by have := look_lt hk (fun z => by cases z); rwa [put_length] at this
          rw [look_put_same hi] at hk
          cases hk
        rw [look_put_ne k0] at hk
        rw [List.getElem?_set_ne k0] at e
        exact n.o k es hk e⟩⟩⟩
end

/-! ### a list of one's own, read -/
section
variable {X : Cx} {e : Expr} {te : DT} {pos npos : Pos} {x : Str}
@[reducible] def dNeO (i : Nat) (te : DT) : DT := fun env M Q => match look env i with
  | .own _ => te env M fun d env1 M1 => (match look env1 i with
    | .own ds => okEq (.lst ds) ∧ okEq d ∧ Q (.bl (nb (deq (.lst ds) d))) env1 M1
    | _ => False)
  | _ => False
theorem d_neO {k : Nat} (hr : Room k X.A) (i : Nat) (he : DE X e te) (hN : X.N[i]? = some x := by rfl) (hv : Vis X.env.scope x := by first | exact Or.inl rfl | exact Or.inr (Or.inl rfl) | exact Or.inr (Or.inr rfl)) (hd : (x == ("__debug__" : Str)) = false := by decide) (hcd : (x == ("__classdict__" : Str)) = false := by decide) :
    DE X (.Compare (.Name x npos) [.NotEq] [e] pos) (dNeO i te) := by
  refine pe_imp (pe_cmpR (op_neD hr.units) (pv i hN hv hd hcd) he (nomark _)) fun σ H Q ⟨F, S, env, M, Qd, R, t, p⟩ => ?_
  unfold dNeO at t
  cases hl : look env i with
  | own ds0 =>
    simp only [hl] at t
    obtain ⟨a, xs0, e1, e2, _⟩ := pv_own R hl
    refine ⟨_, e1, F, S, env, M, _, R, t, fun v H' S' env' M' d s' R' r q => ?_⟩
    cases hl' : look env' i with
    | own ds =>
      simp only [hl'] at q
      obtain ⟨b, xs, f1, f2, rs⟩ := pv_own R' hl'
      rw [e1] at f1
      cases f1
      obtain ⟨h1, h2, q⟩ := q
      refine ⟨pd (.lst ds), pd d, ?_, Dp.mono R'.c.same (r.dp h2.1), h1.shaped, h2.shaped, p _ H' S' env' M' (.bl (nb (deq (.lst ds) d))) s' R' (congrArg V.bl (nb_eq _).symm) q⟩
      exact .lst (.of f2) (DpAll.mono R'.c.same (rs.dp (by simpa [isData] using h1.1)))
    | val _ => simp only [hl'] at q
    | no => simp only [hl'] at q
  | val _ => simp only [hl] at t
  | no => simp only [hl] at t
/-- len(xs) -/
@[reducible] def dLenO (i : Nat) : DT := fun env M Q => match look env i with
  | .own ds => Q (.int ds.length) env M
  | _ => False
theorem d_lenO {p : Pos} (i : Nat) (hg : Gl X "len") (hm : X.mg "len" = none) (hN : X.N[i]? = some x := by rfl) (hv : Vis X.env.scope x := by first | exact Or.inl rfl | exact Or.inr (Or.inl rfl) | exact Or.inr (Or.inr rfl)) (hd : (x == ("__debug__" : Str)) = false := by decide) (hcd : (x == ("__classdict__" : Str)) = false := by decide)
    (hst : starEach [Expr.Name x npos] X.env = (false, eval (.Name x npos) X.env) :: starEach [] X.env := by rfl) (hpl : (backTo pos (starEach [] X.env)).any (·.1) = false := by rfl) :
    DE X (.Call (.Name "len" p) [.Name x npos] [] pos) (dLenO i) := by
  refine pe_imp (pe_callB call_len_seq hg hm PySem.boot_len (pa_cons (pv i hN hv hd hcd) pa_nil hst) (by decide) (by decide) hst hpl) fun σ H Q ⟨F, S, env, M, Qd, R, t, p⟩ => ?_
  unfold dLenO at t
  cases hl : look env i with
  | own ds =>
    simp only [hl] at t
    obtain ⟨a, xs, e1, e2, rs⟩ := pv_own R hl
    refine ⟨_, e1, a, xs, rfl, .inl (SqL.of e2), ?_⟩
    rw [← rs.length]
    exact p _ H S env M (.int _) (Same.refl _) R rfl t
  | val _ => simp only [hl] at t
  | no => simp only [hl] at t
/-- xs[e] -/
@[reducible] def dIxO (i : Nat) (te : DT) : DT := fun env M Q => match look env i with
  | .own _ => te env M fun d env1 M1 => (match look env1 i, d with
    | .own ds, .int j => (match atI ds j with
      | some r => Q r env1 M1
      | none => False)
    | _, _ => False)
  | _ => False
theorem d_ixO (i : Nat) (he : DE X e te) (hN : X.N[i]? = some x := by rfl) (hv : Vis X.env.scope x := by first | exact Or.inl rfl | exact Or.inr (Or.inl rfl) | exact Or.inr (Or.inr rfl)) (hd : (x == ("__debug__" : Str)) = false := by decide) (hcd : (x == ("__classdict__" : Str)) = false := by decide)
    (hs : PlainIx e := by exact fun _ _ => rfl) : DE X (.Subscript (.Name x npos) e pos) (dIxO i te) := by
  refine pe_imp (pe_ix ix_list (pv i hN hv hd hcd) he hs) fun σ H Q ⟨F, S, env, M, Qd, R, t, p⟩ => ?_
  unfold dIxO at t
  cases hl : look env i with
  | own ds0 =>
    simp only [hl] at t
    obtain ⟨a, xs0, e1, e2, _⟩ := pv_own R hl
    refine ⟨_, e1, F, S, env, M, _, R, t, fun v H' S' env' M' d s' R' r q => ?_⟩
    cases hl' : look env' i with
    | own ds =>
      cases d with
      | int j =>
        cases r
        simp only [hl'] at q
        obtain ⟨b, xs, f1, f2, rs⟩ := pv_own R' hl'
        rw [e1] at f1
        cases f1
        cases hj : atI ds j with
        | none => simp only [hj] at q
        | some y =>
          simp only [hj] at q
          obtain ⟨u, g1, g2⟩ := reps_atI rs hj
          exact ⟨a, xs, j, u, rfl, rfl, SqL.of f2, g1, p u H' S' env' M' y s' R' g2 q⟩
      | _ => simp only [hl'] at q
    | val _ => simp only [hl'] at q
    | no => simp only [hl'] at q
  | val _ => simp only [hl] at t
  | no => simp only [hl] at t
/-- e in xs, e not in xs -/
@[reducible] def dInO (neg : Bool) (te : DT) (i : Nat) : DT := fun env M Q => te env M fun d env1 M1 => match look env1 i with
  | .own ds => flatD d = true ∧ ds.all flatD = true ∧ Q (.bl (match neg with
    | true => nb (inF d ds)
    | false => inF d ds)) env1 M1
  | _ => False
theorem lift_inO {neg : Bool} (i : Nat) {σ : L2.St} {H : Hp} {Q : VK} (q : LE X.K (dInO neg te i) σ H Q) : tOp (rIn X.K neg) (LE X.K te) (tVar i) σ H Q := by
  obtain ⟨F, S, env, M, Qd, R, t, p⟩ := q
  refine ⟨F, S, env, M, _, R, t, fun v H' S' env' M' d s' R' r q => ?_⟩
  cases hl : look env' i with
  | own ds =>
    simp only [hl] at q
    obtain ⟨f, g, q⟩ := q
    obtain ⟨a, xs, e1, e2, rs⟩ := pv_own R' hl
    refine ⟨_, e1, a, xs, rfl, .inl (SqL.of e2), rep_flat r f, reps_flat rs g, ?_⟩
    rw [reps_inF r f rs g]
    exact p _ H' S' env' M' (.bl _) s' R' (by cases neg <;> first | rfl | exact congrArg V.bl (nb_eq _).symm) q
  | val _ => simp only [hl] at q
  | no => simp only [hl] at q
theorem d_inO (i : Nat) (he : DE X e te) (hN : X.N[i]? = some x := by rfl) (hv : Vis X.env.scope x := by first | exact Or.inl rfl | exact Or.inr (Or.inl rfl) | exact Or.inr (Or.inr rfl)) (hd : (x == ("__debug__" : Str)) = false := by decide) (hcd : (x == ("__classdict__" : Str)) = false := by decide)
    (hm : behindInMarks .In (.Name x npos) = false := by rfl) : DE X (.Compare e [.In] [.Name x npos] pos) (dInO false te i) := pe_imp (pe_cmpR op_in_seq he (pv i hN hv hd hcd) hm) fun σ H Q q => lift_inO i q
theorem d_ninO (i : Nat) (he : DE X e te) (hN : X.N[i]? = some x := by rfl) (hv : Vis X.env.scope x := by first | exact Or.inl rfl | exact Or.inr (Or.inl rfl) | exact Or.inr (Or.inr rfl)) (hd : (x == ("__debug__" : Str)) = false := by decide) (hcd : (x == ("__classdict__" : Str)) = false := by decide)
    (hm : behindInMarks .NotIn (.Name x npos) = false := by rfl) : DE X (.Compare e [.NotIn] [.Name x npos] pos) (dInO true te i) := pe_imp (pe_cmpR op_notIn_seq he (pv i hN hv hd hcd) hm) fun σ H Q q => lift_inO i q
/-- a value that is a bool, as a test, for comparisons -/
theorem d_tv {a b : Expr} {op : CmpOp} {t : DT} (h : PE X (.Compare a [op] [b] pos) (LE X.K t)) (he : ∀ whole, isTrue (.Compare a [op] [b] pos) X.env whole = (do let v ← whole; standAt (Expr.Compare a [op] [b] pos).pos; holding [v] (truthy v)) := by intro _; rfl) : DTst X (.Compare a [op] [b] pos) (dTru t) := d_truth h he
end

/-! ### dicts with written keys -/
@[reducible] def keyD : D → Option Key
  | .int i => some (.inl i)
  | .str s => some (.inr s)
  | _ => none
def kget (k : Key) : List Key → List D → Option D
  | k' :: ks, d :: ds => if k' = k then some d else kget k ks ds
  | _, _ => none
def kputN (k : Key) (ks : List Key) : List Key := if ks.any (fun k' => decide (k' = k)) then ks else ks ++ [k]
def kputD {α : Type} (k : Key) (d : α) (ks : List Key) (ds : List α) : List α := if ks.any (fun k' => decide (k' = k)) then List.zipWith (fun k' x => if k' = k then d else x) ks ds else ds ++ [d]
section
variable {K : PySem.W.Frag} {S : Hp}
theorem keyD_kV {d : D} {v : V} {k : Key} (r : Rep K S d v) (h : keyD d = some k) : v = kV k := by
  cases d with
  | int i => cases h; exact r
  | str s => cases h; exact r
  | _ => cases h
theorem kget_valV {k : Key} {d : D} : ∀ {ks : List Key} {ds : List D} {xs : List V}, Reps K S ds xs → kget k ks ds = some d → ∃ v, valV (ks.zip xs) k = some v ∧ Rep K S d v
  | [], _, _, _, e => by cases e
  | _ :: _, [], [], _, e => by cases e
  | k' :: ks, d' :: ds, x :: xs, h, e => by
    unfold kget at e
    by_cases hk : k' = k
    · rw [if_pos hk] at e
      cases e
      exact ⟨x, by rw [List.zip_cons_cons, valV_pos (p := (k', x)) hk], h.1⟩
    · rw [if_neg hk] at e
      obtain ⟨v, e1, r⟩ := kget_valV h.2 e
      exact ⟨v, by rw [List.zip_cons_cons, valV_neg (p := (k', x)) hk, e1], r⟩
  | _ :: _, [], _ :: _, h, _ => h.elim
  | _ :: _, _ :: _, [], h, _ => h.elim
theorem zip_any {k : Key} : ∀ {ks : List Key} {xs : List V}, xs.length = ks.length → ((ks.zip xs).any fun kv => decide (kv.1 = k)) = ks.any fun k' => decide (k' = k)
  | [], [], _ => rfl
  | k' :: ks, x :: xs, h => by
    rw [List.zip_cons_cons, List.any_cons, List.any_cons, zip_any (Nat.succ.inj h)]
  | [], _ :: _, h => by cases h
  | _ :: _, [], h => by cases h
theorem putK_zip {k : Key} {v : V} {ks : List Key} {xs : List V} (h : xs.length = ks.length) : putK (ks.zip xs) k v = (kputN k ks).zip (kputD k v ks xs) ∧ (kputD k v ks xs).length = (kputN k ks).length := by
  unfold putK kputN kputD
  rw [zip_any h]
  by_cases e : (ks.any fun k' => decide (k' = k)) = true
  · rw [if_pos e, if_pos e, if_pos e]
    refine ⟨?_, by rw [List.length_zipWith, h, Nat.min_self]⟩
    clear e
    induction ks generalizing xs with
    | nil => rfl
    | cons k' ks ih =>
      cases xs with
      | nil => cases h
      | cons x xs =>
        rw [List.zip_cons_cons, List.map_cons, List.zipWith_cons_cons, List.zip_cons_cons, ih (Nat.succ.inj h)]
        by_cases q : k' = k
        · rw [if_pos q, if_pos q]
        · rw [if_neg q, if_neg q]
  · rw [if_neg e, if_neg e, if_neg e]
    refine ⟨?_, by rw [List.length_append, List.length_append, h]; rfl⟩
    rw [List.zip_append h.symm]
    rfl
theorem reps_kput {k : Key} {d : D} {v : V} (r : Rep K S d v) {ks : List Key} {ds : List D} {xs : List V} (h : Reps K S ds xs) : Reps K S (kputD k d ks ds) (kputD k v ks xs) := by
  unfold kputD
  by_cases e : (ks.any fun k' => decide (k' = k)) = true
  · rw [if_pos e, if_pos e]
    clear e
    induction ks generalizing ds xs with
    | nil => trivial
    | cons k' ks ih =>
      cases ds with
      | nil => cases xs with
        | nil => trivial
        | cons _ _ => exact h.elim
      | cons d' ds => cases xs with
        | nil => exact h.elim
        | cons x xs =>
          rw [List.zipWith_cons_cons, List.zipWith_cons_cons]
          refine ⟨?_, ih h.2⟩
          by_cases q : k' = k
          · rw [if_pos q, if_pos q]; exact r
          · rw [if_neg q, if_neg q]; exact h.1
  · rw [if_neg e, if_neg e]
    exact h.append (show Reps K S [d] [v] from ⟨r, trivial⟩)
end
section
variable {X : Cx} {o i value : Expr} {td ty tv : DT} {pos pos' : Pos}
/-- d[k] -/
@[reducible] def dDGet (td ty : DT) : DT := fun env M Q => td env M fun d env1 M1 => ty env1 M1 fun y env2 M2 => match d, keyD y with
  | .ref a, some k => (match M2 a with
    | some (.dK ks ds) => (match kget k ks ds with
      | some r => Q r env2 M2
      | none => False)
    | _ => False)
  | _, _ => False
theorem d_dget (hu : X.A.units + 1 < cLine) (ho : DE X o td) (hi : DE X i ty) (hs : NoSl i := by exact fun _ _ => rfl) : DE X (.Subscript o i pos) (dDGet td ty) := by
  refine pe_imp (pe_dget hu ho hi hs) fun σ H Q ⟨F, S, env, M, Qd, R, t, p⟩ => ⟨F, S, env, M, _, R, t, fun v H1 S1 env1 M1 d s1 R1 r1 q1 => ⟨F, S1, env1, M1, _, R1, q1, fun u H2 S2 env2 M2 y s2 R2 r2 q2 => ?_⟩⟩
  cases d with
  | ref a =>
    cases r1
    cases hk : keyD y with
    | none => simp only [hk] at q2
    | some k =>
      simp only [hk] at q2
      cases e : M2 a with
      | none => simp only [e] at q2
      | some m =>
        cases m with
        | dK ks ds =>
          simp only [e] at q2
          obtain ⟨xs, e1, l, rx⟩ := (R2.c.mem a _ e).2
          cases hg : kget k ks ds with
          | none => simp only [hg] at q2
          | some z =>
            simp only [hg] at q2
            obtain ⟨w, g1, g2⟩ := kget_valV rx hg
            refine ⟨a, w, rfl, ?_, p w H2 S2 env2 M2 z (s1.trans s2) R2 g2 q2⟩
            rw [← g1, keyD_kV r2 hk]
            exact DGet.k e1
        | _ => simp only [e] at q2
  | _ => exact q2.elim
/-- d[k] = v -/
@[reducible] def sDPutD (td ty tv : DT) : DTS := fun E env M => tv env M fun v env1 M1 => td env1 M1 fun d env2 M2 => ty env2 M2 fun y env3 M3 => match d, keyD y with
  | .ref a, some k => (match M3 a with
    | some (.dK ks ds) => ks.length < sizeLine ∧ E.nx env3 (mset M3 a (.dK (kputN k ks) (kputD k v ks ds)))
    | _ => False)
  | _, _ => False
theorem s_dput (hu : X.A.units + 1 < cLine) (ho : DE X o td) (hi : DE X i ty) (hv : DE X value tv) (hs : swapsWith value (some (.Subscript o i pos')) pos.line X.env = pure false := by rfl) : DS X (.Assign [.Subscript o i pos'] value pos) (sDPutD td ty tv) := by
  refine ps_imp (ps_dput hu ho hi hv hs) fun D σ H ⟨F, S, env, M, Ed, R, t, p⟩ => ⟨F, S, env, M, _, R, t, fun v H1 S1 env1 M1 dv s1 R1 r1 q1 => ⟨F, S1, env1, M1, _, R1, q1, fun u H2 S2 env2 M2 d s2 R2 r2 q2 => ⟨F, S2, env2, M2, _, R2, q2, fun w H3 S3 env3 M3 y s3 R3 r3 q3 => ?_⟩⟩⟩
  cases d with
  | ref a =>
    cases r2
    cases hk : keyD y with
    | none => simp only [hk] at q3
    | some k =>
      simp only [hk] at q3
      cases e : M3 a with
      | none => simp only [e] at q3
      | some m =>
        cases m with
        | dK ks ds =>
          simp only [e] at q3
          obtain ⟨xs, e1, l, rx⟩ := (R3.c.mem a _ e).2
          have z := putK_zip (k := k) (v := v) l
          refine ⟨a, _, rfl, by rw [keyD_kV r3 hk]; exact DPut.k e1 (by rw [List.length_zip, l, Nat.min_self]; exact q3.1), ?_⟩
          rw [z.1]
          exact p.nx σ _ S3 env3 _ (s1.trans (s2.trans s3)) (R3.setM (m' := .dK (kputN k ks) (kputD k dv ks ds)) e ⟨_, upd_same, z.2, reps_kput (r1.mono (s2.trans s3)) rx⟩) q3.2
        | _ => simp only [e] at q3
  | _ => exact q3.elim
end

/-! ### isinstance -/
structure ClsIs (K : PySem.W.Frag) (C : Addr) : Prop where
  cl : Cls K C
  ha : PySem.W.findIn K (.ref C) "__class__" = some (some (.builtin "object.__class__"))
  hn : PySem.W.specialIn K (.builtin "object.__class__") "__get__" = some (some (.builtin "getset_descriptor.__get__"))
  htk : PySem.W.takesIn K (.builtin "object.__class__") = some true
  hm : PySem.W.mroIn K C (.type "object") = some true
def TyD (K : PySem.W.Frag) : D → Value → Prop
  | .non, t => t = .type "NoneType"
  | .bl _, t => t = .type "bool"
  | .int _, t => t = .type "int"
  | .str _, t => t = .type "str"
  | .tup _, t => t = .type "tuple"
  | .lst _, t => t = .type "list"
  | .obj C _ _, t => t = .ref C ∧ ClsIs K C
  | _, _ => False
theorem tyX_of {K : PySem.W.Frag} {S H : Hp} {d : D} {v : V} {t : Value} (ss : Same S H) (r : Rep K S d v) (h : TyD K d t) : TyX K H v t := by
  cases d with
  | non => cases r; rw [show t = _ from h]; exact .base .non
  | bl b => cases r; rw [show t = _ from h]; exact .base (.bl b)
  | int i => cases r; rw [show t = _ from h]; exact .base (.int i)
  | str s => cases r; rw [show t = _ from h]; exact .base (.str s)
  | tup ds =>
    obtain ⟨a, xs, rfl, q, _⟩ := r
    rw [show t = _ from h]
    rcases DL.Same.tup ss q with (q | ⟨o, q⟩) | ⟨o, its, n, q, c, _⟩
    · exact .base (.tup q)
    · exact .fTuple q
    · exact .kTuple q c
  | lst ds =>
    obtain ⟨a, xs, rfl, q, _⟩ := r
    rw [show t = _ from h]
    exact .base (.lst (ss _ _ q))
  | obj C ns ds =>
    obtain ⟨a, dx, xs, rfl, q, _⟩ := r
    obtain ⟨rfl, c⟩ := h
    exact .base (.ins (ss _ _ q) c.cl c.ha c.hn c.htk c.hm)
  | _ => exact h.elim
def clsU : D → Option Value
  | .ty n => some (.type n)
  | .ref C => some (.ref C)
  | _ => none
def IsI (K : PySem.W.Frag) (d c : D) (b : Bool) : Prop := ∃ t u, TyD K d t ∧ clsU c = some u ∧ PySem.W.kitOne K t u = some b
@[reducible] def rdIsi (K : PySem.W.Frag) : RDA := fun ds env M Q => match ds with
  | [d, c] => ∃ b, IsI K d c b ∧ Q (.bl b) env M
  | _ => False
theorem cd_isi {X : Cx} : CallD X (.builtin "isinstance") (rdIsi X.K) := by
  refine ⟨⟨_, call_isi, fun F S σ H env M xs ds Qd Q R r q p => ?_⟩⟩
  unfold rdIsi at q
  split at q
  · rename_i d c
    obtain ⟨v, u, rfl, r1, r2⟩ := r.two
    obtain ⟨b, ⟨t, w, h1, h2, h3⟩, q⟩ := q
    refine ⟨v, u, t, w, b, rfl, ?_, tyX_of R.c.same r1 h1, h3, p _ H S env M (.bl b) (Same.refl _) R rfl q⟩
    cases c with
    | ty n => cases h2; cases r2; exact .ty n
    | ref C => cases h2; cases r2; exact .own C
    | _ => cases h2
  · exact q.elim

/-! ### sum -/
theorem cd_sum {X : Cx} (hc : X.calm = true) : CallD X (.builtin "sum") rdSum := by
  refine ⟨⟨_, cr_sum hc, fun F S σ H env M xs ds Qd Q R r q p => ?_⟩⟩
  unfold rdSum at q
  split at q
  · rename_i es
    obtain ⟨v, rfl, r1⟩ := r.one
    cases hn : intsD es with
    | none => simp only [hn] at q
    | some ns =>
      simp only [hn] at q
      obtain ⟨a, ys, rfl, h, t⟩ := r1
      have e1 := reps_ints t hn
      exact ⟨a, ns, rfl, by rw [← e1]; exact .of (R.c.same _ _ h), p _ H S env M (.int _) (Same.refl _) R rfl q⟩
  · exact q.elim

/-! ### a def's promise by its body -/
@[reducible] def startD (N : List Str) (ds : List D) : Ev := ds.map Sl.val ++ List.replicate (N.length - ds.length) .no
theorem look_map : ∀ {ds : List D} {r : Ev} {i : Nat} {d : D}, look (ds.map Sl.val ++ List.replicate n .no) i = .val d → ds[i]? = some d
  | [], r, i, d, h => by
    have key : ∀ (n i : Nat), look (List.replicate n Sl.no) i = .no := fun n => by
      induction n with
      | zero => intro i; rfl
      | succ n ih => intro i; cases i with
        | zero => rfl
        | succ i => exact ih i
    rw [List.map_nil, List.nil_append, key] at h
    cases h
  | d' :: ds, r, 0, d, h => by
    have e : Sl.val d' = .val d := h
    cases e
    rfl
  | d' :: ds, r, i + 1, d, h => by
    have h' : look (ds.map Sl.val ++ List.replicate n .no) i = .val d := h
    simpa using look_map (r := r) h'
theorem look_start_own : ∀ {ds : List D} {n i : Nat} {es : List D}, look (ds.map Sl.val ++ List.replicate n .no) i ≠ .own es
  | [], n, i, es => by
    have key : ∀ (n i : Nat), look (List.replicate n Sl.no) i = .no := fun n => by
      induction n with
      | zero => intro i; rfl
      | succ n ih => intro i; cases i with
        | zero => rfl
        | succ i => exact ih i
    rw [List.map_nil, List.nil_append, key]
    intro z
    cases z
  | _ :: _, n, 0, es => fun z => by cases z
  | _ :: ds, n, i + 1, es => fun z => look_start_own (ds := ds) (n := n) (i := i) (es := es) z
theorem rel_start {K : PySem.W.Frag} {F S H : Hp} {M : Mem} {N : List Str} {ds : List D} {vs : List V} (c : RelC K F S H M) (r : Reps K S ds vs) : Rel K F S (L2.start N vs) H (startD N ds) M := by
  have l := r.length
  refine ⟨c, ?_, fun i d e => ?_, fun i es e => absurd e look_start_own, fun i j a es fs n q1 => absurd q1 look_start_own⟩
  · unfold startD L2.start
    rw [List.length_append, List.length_append, List.length_map, List.length_map, List.length_replicate, List.length_replicate, l]
  · have e1 := look_map (r := []) e
    obtain ⟨v, e2, rv⟩ := r.get e1
    refine ⟨v, ?_, rv⟩
    have hi : i < vs.length := (List.getElem?_eq_some_iff.mp e2).1
    unfold L2.start
    rw [List.getElem?_append_left (by rw [List.length_map]; exact hi), List.getElem?_map, e2]
    rfl
section
variable {P : Program} {w : World} {K : PySem.W.Frag} {mg : Str → Option Value} {base : Heap} {x qual : Str} {params : Arguments} {body : List Stmt} {scope : Scope} {dvs : List V} {kws : List (Str × V)} {f : Addr} {fd : FuncData}
/-- THE RULE: a def that lets no exception out -/
theorem okD {N ps : List Str} {k : Nat} {sp : DSp} (G : FunD K x qual params body scope dvs kws f fd) (S : FnScope N ps scope) (len : ∀ ds M Q E, sp ds M Q E → ds.length = ps.length)
    (hbody : ∀ (cdv : Value) (A : Around) (outer : List Env) (s : Shared) (H : Hp) (E : XK), Room k (A.deeper (envOfC qual scope s.heap.objs.size f cdv)) →
      ∃ t, DSs (cxOf CX0 P w K mg base N qual scope f cdv A outer s H E).nox body t ∧ ∀ ds M Q Ed, sp ds M Q Ed → t { nx := fun _ M' => Q .non M', rt := Q } (startD N ds) M) : FnOk P w K mg base CX0 (k + 1) f fd ps (LSp K sp) := by
  refine G.ok S (fun vs H Q E ⟨F, S, ds, M, Qd, Ed, c, r, q, p, px⟩ => by rw [← r.length]; exact len _ _ _ _ q) fun cdv A outer s H vs Q E hr h => ?_
  obtain ⟨t, ht, hq⟩ := hbody cdv A outer s H E hr
  refine ⟨_, PSs.nox ht, ?_⟩
  obtain ⟨F, S, ds, M, Qd, Ed, c, r, q, p, px⟩ := h
  exact ⟨F, S, startD N ds, M, _, rel_start c r, hq ds M Qd Ed q, ⟨fun σ H' S' env' M' s' R' q' => p .non H' S' M' .non s' R'.c rfl q', fun v H' S' M' d s' c' r' q' => p v H' S' M' d s' c' r' q', fun _ _ _ _ _ _ _ z => z.elim, fun _ _ _ _ _ _ _ z => z.elim⟩⟩
end
end DL
set_option Elab.async false
set_option linter.all false
set_option maxRecDepth 100000
set_option maxHeartbeats 1000000
/-! DL6: a def as its callers see it; a class that is made; the script's pen. -/
namespace DL
open PySem PySem.Spec PyProof.Rows L2

/-- a def of the top keeps a promise -/
structure Fn (P : Program) (w : World) (K : PySem.W.Frag) (mg : Str → Option Value) (base : Heap) (k : Nat) (x : Str) (ps : List Str) (sp : DSp) : Prop where
  ex : ∃ f fd, FnOk P w K mg base CX0 k f fd ps (LSp K sp) ∧ mg x = some (.ref f) ∧ PySem.W.keepIn K (.ref f) = true ∧ Binds K fd ps []
theorem Fn.mono {P : Program} {w : World} {K : PySem.W.Frag} {mg : Str → Option Value} {base : Heap} {j k : Nat} {x : Str} {ps : List Str} {sp : DSp} (h : Fn P w K mg base j x ps sp) (l : j ≤ k) : Fn P w K mg base k x ps sp := by
  obtain ⟨f, fd, G, r⟩ := h.ex
  exact ⟨⟨f, fd, G.mono l, r⟩⟩
theorem LSp.imp {K : PySem.W.Frag} {sp sp' : DSp} (h : ∀ ds M Q E, sp' ds M Q E → sp ds M Q E) : ∀ vs H Q E, LSp K sp' vs H Q E → LSp K sp vs H Q E := fun vs H Q E ⟨F, S, ds, M, Qd, Ed, c, r, q, p⟩ => ⟨F, S, ds, M, Qd, Ed, c, r, h _ _ _ _ q, p⟩
theorem Fn.imp {P : Program} {w : World} {K : PySem.W.Frag} {mg : Str → Option Value} {base : Heap} {k : Nat} {x : Str} {ps : List Str} {sp sp' : DSp} (h : Fn P w K mg base k x ps sp) (i : ∀ ds M Q E, sp' ds M Q E → sp ds M Q E) : Fn P w K mg base k x ps sp' := by
  obtain ⟨f, fd, G, r⟩ := h.ex
  exact ⟨⟨f, fd, G.imp (LSp.imp i), r⟩⟩
section
variable {X : Cx} {k : Nat} {ps : List Str} {sp : DSp} {x : Str} {p pos : Pos} {e : Expr} {es : List Expr} {t : DTA}
theorem d_callF (h : Fn X.prog X.w X.K X.mg X.base k x ps sp) (hr : Room k X.A) (ha : DA X (e :: es) t) (hg : Gl X x := by rfl) (hdb : (x == ("__debug__" : Str)) = false := by decide) (he : starEach (e :: es) X.env = (false, eval e X.env) :: starEach es X.env := by rfl) (hpl : (backTo pos (starEach es X.env)).any (·.1) = false := by rfl) :
    DE X (.Call (.Name x p) (e :: es) [] pos) (dCall sp [] t) := by
  obtain ⟨f, fd, G, hm, hk, hb⟩ := h.ex
  exact d_call G hr hg hm hk hb .nil (fun _ => trivial) pass0 ha hdb he hpl
theorem d_callF0 (h : Fn X.prog X.w X.K X.mg X.base k x ps sp) (hr : Room k X.A) (hg : Gl X x := by rfl) (hdb : (x == ("__debug__" : Str)) = false := by decide) : DE X (.Call (.Name x p) [] [] pos) (dCall sp [] dNil) := by
  obtain ⟨f, fd, G, hm, hk, hb⟩ := h.ex
  exact d_call0 G hr hg hm hk hb .nil (fun _ => trivial) pass0 hdb
end
/-- a class of things that never change: C(..) -/
structure Cl (P : Program) (w : World) (K : PySem.W.Frag) (mg : Str → Option Value) (base : Heap) (k : Nat) (x : Str) (C : Addr) (ps : List Str) (g : List D → Option (List Str × List D)) : Prop where
  ex : ∃ f fd, FnOk P w K mg base CX0 k f fd ps (LSp K (spInit C g)) ∧ Mk K C f ∧ mg x = some (.ref C) ∧ Binds K fd ps []
section
variable {X : Cx} {k : Nat} {ps : List Str} {C : Addr} {g : List D → Option (List Str × List D)} {x : Str} {p pos : Pos} {e : Expr} {es : List Expr} {t : DTA}
theorem d_makeC (h : Cl X.prog X.w X.K X.mg X.base k x C ps g) (hr : Room (k + 1) X.A) (ha : DA X (e :: es) t) (hg : Gl X x := by rfl) (hdb : (x == ("__debug__" : Str)) = false := by decide) (he : starEach (e :: es) X.env = (false, eval e X.env) :: starEach es X.env := by rfl) (hpl : (backTo pos (starEach es X.env)).any (·.1) = false := by rfl) :
    DE X (.Call (.Name x p) (e :: es) [] pos) (dMake C g [] t) := by
  obtain ⟨f, fd, G, mk, hm, hb⟩ := h.ex
  exact d_make mk G hr hg hm hb .nil (fun _ => trivial) pass0 ha hdb he hpl
theorem d_makeC0 (h : Cl X.prog X.w X.K X.mg X.base k x C ps g) (hr : Room (k + 1) X.A) (hg : Gl X x := by rfl) (hdb : (x == ("__debug__" : Str)) = false := by decide) : DE X (.Call (.Name x p) [] [] pos) (dMake C g [] dNil) := by
  obtain ⟨f, fd, G, mk, hm, hb⟩ := h.ex
  exact d_make0 mk G hr hg hm hb .nil (fun _ => trivial) pass0 hdb
end
section
variable {X : Cx} {e : Expr} {te : DT} {pos npos : Pos} {x : Str}
theorem d_tneO {k : Nat} (hr : Room k X.A) (i : Nat) (he : DE X e te) (hN : X.N[i]? = some x := by rfl) (hv : Vis X.env.scope x := by first | exact Or.inl rfl | exact Or.inr (Or.inl rfl) | exact Or.inr (Or.inr rfl)) (hd : (x == ("__debug__" : Str)) = false := by decide) (hcd : (x == ("__classdict__" : Str)) = false := by decide) :
    DTst X (.Compare (.Name x npos) [.NotEq] [e] pos) (dTst (dNeO i te)) := by
  refine pt_imp (pt_cmpR (op_neD hr.units) (pv i hN hv hd hcd) he (nomark _)) fun σ H Q ⟨F, S, env, M, Qd, R, t, p⟩ => ?_
  unfold dTst dNeO at t
  cases hl : look env i with
  | own ds0 =>
    simp only [hl] at t
    obtain ⟨a, xs0, e1, e2, _⟩ := pv_own R hl
    refine ⟨_, e1, F, S, env, M, _, R, t, fun v H' S' env' M' d s' R' r q => ?_⟩
    cases hl' : look env' i with
    | own ds =>
      simp only [hl'] at q
      obtain ⟨b, xs, f1, f2, rs⟩ := pv_own R' hl'
      rw [e1] at f1
      cases f1
      obtain ⟨h1, h2, q⟩ := q
      refine ⟨pd (.lst ds), pd d, ?_, Dp.mono R'.c.same (r.dp h2.1), h1.shaped, h2.shaped, _, rfl, by have z := p _ H' S' env' M' s' R' q; rw [nb_eq] at z; exact z⟩
      exact .lst (.of f2) (DpAll.mono R'.c.same (rs.dp (by simpa [isData] using h1.1)))
    | val _ => simp only [hl'] at q
    | no => simp only [hl'] at q
  | val _ => simp only [hl] at t
  | no => simp only [hl] at t
end

/-! ### the pen: a dict of the law's own that draws numbers from the script -/
def penK : List Key := [.inr "cells", .inr "at", .inr "left"]
@[reducible] def penMO (c : List Int) (a l : Int) : MO := .dK penK [.lst (c.map D.int), .int a, .int l]
def PenO (o : MO) (n : Int) : Prop := ∃ c a l, o = penMO c a l ∧ c.length ≤ 63 ∧ 0 ≤ a ∧ a ≤ n
theorem PenO.mono {o : MO} {n m : Int} (h : PenO o n) (l : n ≤ m) : PenO o m := by
  obtain ⟨c, a, l', e, h1, h2, h3⟩ := h
  exact ⟨c, a, l', e, h1, h2, by omega⟩
theorem sk_ca : ¬ (Sum.inr "cells" : Key) = .inr "at" := by decide +kernel
theorem sk_cl : ¬ (Sum.inr "cells" : Key) = .inr "left" := by decide +kernel
theorem sk_al : ¬ (Sum.inr "at" : Key) = .inr "left" := by decide +kernel
theorem sk_ac : ¬ (Sum.inr "at" : Key) = .inr "cells" := by decide +kernel
theorem sk_lc : ¬ (Sum.inr "left" : Key) = .inr "cells" := by decide +kernel
theorem sk_la : ¬ (Sum.inr "left" : Key) = .inr "at" := by decide +kernel
theorem pen_cells {x y z : D} : kget (.inr "cells") penK [x, y, z] = some x := by
  unfold penK kget
  rw [if_pos rfl]
theorem pen_at {x y z : D} : kget (.inr "at") penK [x, y, z] = some y := by
  unfold penK kget kget
  rw [if_neg sk_ca, if_pos rfl]
theorem pen_left {x y z : D} : kget (.inr "left") penK [x, y, z] = some z := by
  unfold penK kget kget kget
  rw [if_neg sk_cl, if_neg sk_al, if_pos rfl]
theorem penN (k : Key) (h : penK.any (fun k' => decide (k' = k)) = true) : kputN k penK = penK := by
  unfold kputN
  rw [if_pos h]
theorem penN_at : kputN (.inr "at") penK = penK := penN _ (by decide +kernel)
theorem penN_left : kputN (.inr "left") penK = penK := penN _ (by decide +kernel)
theorem penD_at {x y z d : D} : kputD (.inr "at") d penK [x, y, z] = [x, d, z] := by
  unfold kputD
  rw [if_pos (by decide +kernel)]
  unfold penK
  simp only [List.zipWith_cons_cons, List.zipWith_nil_left, if_neg sk_ca, if_pos, if_neg sk_la]
theorem penD_left {x y z d : D} : kputD (.inr "left") d penK [x, y, z] = [x, y, d] := by
  unfold kputD
  rw [if_pos (by decide +kernel)]
  unfold penK
  simp only [List.zipWith_cons_cons, List.zipWith_nil_left, if_neg sk_cl, if_neg sk_al, if_pos]
/-- a draw: a number below m; at most n draws were done -/
def spDraw : DSp := fun ds M Q _ => ∃ p m n o, ds = [.ref p, .int m] ∧ 0 < m ∧ m < 2 ^ 30 ∧ n < 2 ^ 40 ∧ M p = some o ∧ PenO o n ∧ ∀ k o', 0 ≤ k → k < m → PenO o' (n + 1) → Q (.int k) (mset M p o')
end DL
namespace DL
open PySem PySem.Spec PyProof.Rows L2
theorem deq_nil (ds : List D) : deq (.lst ds) (.lst []) = ds.isEmpty := by
  cases ds with
  | nil => rfl
  | cons _ _ => rfl
theorem areData_ints (c : List Int) : areData (c.map D.int) = true := by
  induction c with
  | nil => rfl
  | cons _ _ ih => simp only [List.map_cons, areData, isData, ih, Bool.and_self]
theorem depDs_ints (c : List Int) : depDs (c.map D.int) = 0 := by
  induction c with
  | nil => rfl
  | cons _ _ ih => simp only [List.map_cons, depDs, depD, ih, Nat.max_self]
theorem okEq_ints (c : List Int) : okEq (.lst (c.map D.int)) := ⟨by simp only [isData, areData_ints], by simp only [depD, depDs_ints]; decide⟩
theorem okEq_nil : okEq (.lst []) := ⟨rfl, by decide⟩
theorem atI_of {α : Type} {ds : List α} {i : Int} (h0 : 0 ≤ i) (h1 : i < ds.length) : atI ds i = ds[i.toNat]? ∧ ∃ r, ds[i.toNat]? = some r := by
  have hn : i.toNat < ds.length := by omega
  refine ⟨?_, ds[i.toNat], by simp [hn]⟩
  unfold atI ixN
  rw [if_pos h0, if_pos h1]
  rfl
theorem atI_ints {c : List Int} {i : Int} (h0 : 0 ≤ i) (h1 : i < c.length) : ∃ x, atI (c.map D.int) i = some (.int x) := by
  obtain ⟨e, r, hr⟩ := atI_of (ds := c.map D.int) h0 (by rw [List.length_map]; exact h1)
  rw [List.getElem?_map] at hr e
  cases q : c[i.toNat]? with
  | none => rw [q] at hr; cases hr
  | some x => rw [q] at e; exact ⟨x, e⟩
theorem mulW {i j : Int} (h1 : i.natAbs < 2 ^ 200) (h2 : j.natAbs < 2 ^ 200) : CMulW i j := wide_mul h1 h2 (by decide) (by decide) (by decide)
end DL
namespace DL
open PySem PySem.Spec PyProof.Rows L2
/-- a def of the text as it stands behind the top -/
structure DefAt (K : PySem.W.Frag) (mg : Str → Option Value) (x : Str) (ps : List Str) (st : Stmt) : Prop where
  ex : ∃ f fd, FunD K x x (defArgs st) (defBody st) (defScope st) [] [] f fd ∧ mg x = some (.ref f) ∧ PySem.W.keepIn K (.ref f) = true ∧ Binds K fd ps []
theorem okF {P : Program} {w : World} {K : PySem.W.Frag} {mg : Str → Option Value} {base : Heap} {x : Str} {st : Stmt} {N ps : List Str} {k : Nat} {sp : DSp} (G : DefAt K mg x ps st) (S : FnScope N ps (defScope st)) (len : ∀ ds M Q E, sp ds M Q E → ds.length = ps.length)
    (hbody : ∀ (f : Addr) (cdv : Value) (A : Around) (outer : List Env) (s : Shared) (H : Hp) (E : XK), Room k (A.deeper (envOfC x (defScope st) s.heap.objs.size f cdv)) →
      ∃ t, DSs (cxOf CX0 P w K mg base N x (defScope st) f cdv A outer s H E).nox (defBody st) t ∧ ∀ ds M Q Ed, sp ds M Q Ed → t { nx := fun _ M' => Q .non M', rt := Q } (startD N ds) M) : Fn P w K mg base (k + 1) x ps sp := by
  obtain ⟨f, fd, F, hm, hk, hb⟩ := G.ex
  exact ⟨⟨f, fd, okD F S len (hbody f), hm, hk, hb⟩⟩
end DL
namespace DL
/-- the built-in names are still built-in ones -/
structure TxtP (mg : PySem.Str → Option PySem.Value) : Prop where
  z_len : mg "len" = none
  z_int : mg "int" = none
  z_list : mg "list" = none
  z_range : mg "range" = none
  z_min : mg "min" = none
  z_max : mg "max" = none
  z_sum : mg "sum" = none
  z_isinstance : mg "isinstance" = none
  z_tuple : mg "tuple" = none
  z_set : mg "set" = none
  z_sorted : mg "sorted" = none
  z_str : mg "str" = none
  z_enumerate : mg "enumerate" = none
  z_reversed : mg "reversed" = none
  z_all : mg "all" = none
  z_any : mg "any" = none
  z_divmod : mg "divmod" = none
  z_dict : mg "dict" = none
  z_super : mg "super" = none
  z_iter : mg "iter" = none
  z_zip : mg "zip" = none
  z_bool : mg "bool" = none
  z_abs : mg "abs" = none
  z_type : mg "type" = none
end DL
set_option Elab.async false
set_option linter.all false
set_option maxRecDepth 100000
set_option maxHeartbeats 1000000
/-! DL7: loops by induction; the pen made; ways as data. -/
namespace DL
open PySem PySem.Spec PyProof.Rows L2

/-! ### loops -/
theorem forW_ind {g : DTG} {tb : DTS} {E : DEnds} (Inv : List D → Ev → Mem → Prop) (h0 : ∀ env M, Inv [] env M → E.nx env M)
    (hs : ∀ d r, (∀ env M, Inv r env M → forW g tb E r env M) → ∀ env M, Inv (d :: r) env M → g d env M fun e1 M1 => tb { E with nx := forW g tb E r, ct := forW g tb E r, bk := E.nx } e1 M1) :
    ∀ items env M, Inv items env M → forW g tb E items env M
  | [], env, M, h => h0 env M h
  | d :: r, env, M, h => hs d r (fun env M h => forW_ind Inv h0 hs r env M h) env M h
theorem rngD_succ (lo : Int) (n : Nat) : rngD lo (n + 1) = .int lo :: rngD (lo + 1) n := by
  unfold rngD
  rw [List.range_succ_eq_map, List.map_cons, List.map_map]
  congr 1
  · show D.int (lo + ((0 : Nat) : Int)) = D.int lo
    rw [Int.natCast_zero, Int.add_zero]
  · refine List.map_congr_left fun k _ => ?_
    show D.int (lo + ((k + 1 : Nat) : Int)) = D.int (lo + 1 + (k : Int))
    congr 1
    omega
theorem rngD_zero (lo : Int) : rngD lo 0 = [] := rfl
/-- for i in range(lo, lo + n): Inv i ahead of turn i -/
theorem forW_rng {g : DTG} {tb : DTS} {E : DEnds} (Inv : Int → Ev → Mem → Prop) : ∀ (n : Nat) (lo : Int) (h0 : ∀ env M, Inv (lo + n) env M → E.nx env M)
    (hs : ∀ (i : Int) (R : Ev → Mem → Prop), lo ≤ i → i < lo + n → (∀ env M, Inv (i + 1) env M → R env M) → ∀ env M, Inv i env M → g (.int i) env M fun e1 M1 => tb { E with nx := R, ct := R, bk := E.nx } e1 M1) (env : Ev) (M : Mem), Inv lo env M → forW g tb E (rngD lo n) env M
  | 0, lo, h0, hs, env, M, h => by
    rw [rngD_zero]
    exact h0 env M (by rw [Int.natCast_zero, Int.add_zero]; exact h)
  | n + 1, lo, h0, hs, env, M, h => by
    rw [rngD_succ]
    refine hs lo _ (Int.le_refl _) (by omega) (fun env M h => ?_) env M h
    refine forW_rng Inv n (lo + 1) (fun env M h => h0 env M ?_) (fun i R h1 h2 => hs i R (by omega) (by omega)) env M h
    have e : lo + 1 + (n : Int) = lo + ((n + 1 : Nat) : Int) := by omega
    rw [← e]
    exact h
theorem while_ind {c : DTT} {tb : DTS} {E : DEnds} (Inv : Nat → Ev → Mem → Prop)
    (hs : ∀ (m : Nat) (R : Ev → Mem → Prop), (∀ m' env M, m' < m → Inv m' env M → R env M) → ∀ env M, Inv m env M → c env M fun b e1 M1 => match b with
      | true => tb { E with nx := R, ct := R, bk := E.nx } e1 M1
      | false => E.nx e1 M1) {m : Nat} {env : Ev} {M : Mem} (h : Inv m env M) : ∃ n, whW c tb E n env M := by
  have key : ∀ (n m : Nat) env M, m < n → Inv m env M → whW c tb E n env M := fun n => by
    induction n with
    | zero => intro m env M hm; exact absurd hm (Nat.not_lt_zero _)
    | succ n ih => intro m env M hm h; exact hs m (whW c tb E n) (fun m' env M hm' h' => ih m' env M (by omega) h') env M h
  exact ⟨m + 1, key (m + 1) m env M (Nat.lt_succ_self m) h⟩
theorem lcW_ind {g : DTG} {tt : DTT} {te : DT} {vs : List Nat} {Q : KN} (Inv : List D → List D → Ev → Mem → Prop) (h0 : ∀ acc env M, Inv [] acc env M → Q acc env M)
    (hs : ∀ d r (R : List D → Ev → Mem → Prop), (∀ acc env M, Inv r acc env M → R acc env M) → ∀ acc env M, Inv (d :: r) acc env M → g d env M fun e2 M2 => tt e2 M2 fun b e3 M3 => match b with
      | true => te e3 M3 fun y e4 M4 => acc.length < sizeLine ∧ R (acc ++ [y]) (wipeD e4 vs) M4
      | false => R acc (wipeD e3 vs) M3) : ∀ items acc env M, Inv items acc env M → lcW g tt te vs items acc env M Q
  | [], acc, env, M, h => h0 acc env M h
  | d :: r, acc, env, M, h => hs d r (fun acc env M => lcW g tt te vs r acc env M Q) (fun acc env M h => lcW_ind Inv h0 hs r acc env M h) acc env M h
/-- [f(x) for x in xs]: a function of each item, all else stays -/
theorem lcW_map {g : DTG} {te : DT} {vs : List Nat} {Q : KN} {f : D → D} {be : Ev} {M : Mem} (P : D → Prop)
    (hs : ∀ d (R : D → Ev → Mem → Prop), P d → (∀ e4, wipeD e4 vs = be → R (f d) e4 M) → g d be M fun e2 M2 => te e2 M2 R) : ∀ items acc, (∀ d ∈ items, P d) → acc.length + items.length ≤ sizeLine → Q (acc ++ items.map f) be M → lcW g dTrue te vs items acc be M Q
  | [], acc, _, _, q => by rw [List.map_nil, List.append_nil] at q; exact q
  | d :: r, acc, hp, hz, q => by
    show g d be M fun e2 M2 => te e2 M2 fun y e4 M4 => acc.length < sizeLine ∧ lcW g dTrue te vs r (acc ++ [y]) (wipeD e4 vs) M4 Q
    refine hs d _ (hp d List.mem_cons_self) fun e4 h4 => ⟨?_, ?_⟩
    · rw [List.length_cons] at hz
      omega
    · rw [h4]
      refine lcW_map P hs r (acc ++ [f d]) (fun x hx => hp x (List.mem_cons_of_mem _ hx)) ?_ ?_
      · rw [List.length_append, List.length_singleton]
        rw [List.length_cons] at hz
        omega
      · rw [List.append_assoc]
        exact q

/-! ### a def that is never called -/
theorem Fn.vac {P : Program} {w : World} {K : PySem.W.Frag} {mg : Str → Option Value} {base : Heap} {k : Nat} {x : Str} {ps : List Str} {st : Stmt} {sp : DSp} (G : DefAt K mg x ps st) (h : ∀ ds M Q E, ¬ sp ds M Q E) : Fn P w K mg base k x ps sp := by
  obtain ⟨f, fd, F, hm, hk, hb⟩ := G.ex
  exact ⟨⟨f, fd, ⟨fun vs H Q E ⟨_, _, ds, M, _, _, _, _, q, _⟩ => (h _ _ _ _ q).elim, fun A outer s H args us vs Q E _ _ _ _ ⟨_, _, ds, M, _, _, _, _, q, _⟩ => (h _ _ _ _ q).elim⟩, hm, hk, hb⟩⟩

/-! ### the pen is made -/
theorem merge3 {a b c : Key} (h1 : ¬ a = b) (h2 : ¬ a = c) (h3 : ¬ b = c) (x y z : V) : mergeK [] [(a, x), (b, y), (c, z)] = [(a, x), (b, y), (c, z)] := by
  simp [mergeK, putK, h1, h2, h3]
section
variable {X : Cx} {e1 e2 e3 : Expr} {t1 t2 t3 : DT} {p1 p2 p3 pos : Pos} {j1 j2 j3 : Nat}
def dPen (t1 t2 t3 : DT) : DT := fun env M Q => t1 env M fun d1 env1 M1 => t2 env1 M1 fun d2 env2 M2 => t3 env2 M2 fun d3 env3 M3 => ∀ p, M3 p = none → Q (.ref p) env3 (mset M3 p (.dK penK [d1, d2, d3]))
theorem Rel.frAny {K : PySem.W.Frag} {F S H : Hp} {M : Mem} {σ : L2.St} {env : Ev} {a : Addr} {o : HO} (R : Rel K F S σ H env M) (h : H a = none) : Rel K (upd F a o) S σ (upd H a o) env M := by
  have R1 : Rel K F S σ (upd H a o) env M := R.more fun b u e => by rw [upd_ne (ne_of_none e h)]; exact e
  refine ⟨⟨R1.c.same, fun b u e => ?_, R1.c.mem⟩, R.len, R.val, fun i ds e => ?_, R.dis⟩
  · by_cases hb : b = a
    · subst hb; rw [upd_same] at e ⊢; cases e; exact ⟨rfl, R.c.sfree h, R.c.mfree h⟩
    · rw [upd_ne hb] at e; exact R1.c.fr b u e
  · obtain ⟨b, zs, e1, e2, e3, e4, e5, r⟩ := R1.own i ds e
    have hb : b ≠ a := R.ownNe e1 ⟨ds, e⟩ h
    exact ⟨b, zs, e1, e2, e3, e4, by rw [upd_ne hb]; exact e5, r⟩
/-- a thing of the frame becomes a mutable one -/
theorem Rel.frTake {K : PySem.W.Frag} {F S H : Hp} {M : Mem} {σ : L2.St} {env : Ev} {a : Addr} {o u : HO} {m : MO} (R : Rel K (upd F a o) S σ H env M) (h : F a = none) (hm : MOk K S (upd H a u) a m) : Rel K F S σ (upd H a u) env (mset M a m) := by
  obtain ⟨h1, h2, h3⟩ := R.c.fr a _ upd_same
  refine ⟨⟨fun b v e => ?_, fun b v e => ?_, fun b v e => ?_⟩, R.len, R.val, fun i ds e => ?_, R.dis⟩
  · rw [upd_ne (fun z => by rw [z, h2] at e; cases e)]; exact R.c.same b v e
  · have hb : b ≠ a := fun z => by rw [z, h] at e; cases e
    obtain ⟨g1, g2, g3⟩ := R.c.fr b v (by rw [upd_ne hb]; exact e)
    exact ⟨by rw [upd_ne hb]; exact g1, g2, by rw [mset_ne hb]; exact g3⟩
  · by_cases hb : b = a
    · subst hb; rw [mset_same] at e; cases e; exact ⟨h2, hm⟩
    · rw [mset_ne hb] at e
      exact ⟨(R.c.mem b v e).1, (R.c.mem b v e).2.mono (Same.refl _) (upd_ne hb)⟩
  · obtain ⟨b, zs, e1, e2, e3, e4, e5, r⟩ := R.own i ds e
    have hb : b ≠ a := fun z => by rw [z, upd_same] at e5; cases e5
    exact ⟨b, zs, e1, by rw [upd_ne hb]; exact e2, e3, by rw [mset_ne hb]; exact e4, by rw [upd_ne hb] at e5; exact e5, r⟩
theorem d_pen (h1 : DE X e1 t1) (h2 : DE X e2 t2) (h3 : DE X e3 t3) :
    DE X (.Dict [some (.Constant (.str "cells") j1 p1), some (.Constant (.str "at") j2 p2), some (.Constant (.str "left") j3 p3)] [e1, e2, e3] pos) (dPen t1 t2 t3) := by
  refine pe_imp (pe_disp (pps_cons pe_str h1 (pps_cons pe_str h2 (pps_cons pe_str h3 pps_nil))) rfl rfl (fun z => by cases z) (by show 3 ≤ 15; decide)) fun σ H Q ⟨F, S, env, M, Qd, R, t, p⟩ a ha => ?_
  have fa := R.c.ffree ha
  have R0 := R.frAny (o := .dK []) ha
  refine ⟨_, S, env, M, _, R0, t, fun v1 H1 S1 env1 M1 d1 s1 R1 r1 q1 => ⟨_, S1, env1, M1, _, R1, q1, fun v2 H2 S2 env2 M2 d2 s2 R2 r2 q2 => ⟨_, S2, env2, M2, _, R2, q2, fun v3 H3 S3 env3 M3 d3 s3 R3 r3 q3 => ?_⟩⟩⟩
  obtain ⟨g1, g2, g3⟩ := R3.c.fr a _ upd_same
  refine ⟨g1, [(.inr "cells", v1), (.inr "at", v2), (.inr "left", v3)], rfl, by show 3 ≤ 15; decide, ?_⟩
  rw [merge3 sk_ca sk_cl sk_al]
  exact p _ _ S3 env3 _ (.ref a) (s1.trans (s2.trans s3)) (R3.frTake (m := .dK penK [d1, d2, d3]) fa ⟨[v1, v2, v3], upd_same, rfl, ⟨r1.mono (s2.trans s3), r2.mono s3, r3, trivial⟩⟩) rfl (q3 a g3)
/-- list(xs) -/
@[reducible] def rdList : RDA := fun ds env M Q => match ds with
  | [d] => (match seqD d with
    | some es => Q (.lst es) env M
    | none => False)
  | _ => False
theorem cd_list : CallD X (.type "list") rdList := by
  refine ⟨⟨_, call_list_of (X := X), fun F S σ H env M xs ds Qd Q R r q p => ?_⟩⟩
  cases ds with
  | nil => exact q.elim
  | cons d rs =>
    cases rs with
    | cons _ _ => exact q.elim
    | nil =>
      obtain ⟨v, rfl, r1⟩ := r.one
      have q' : (match seqD d with
        | some es => Qd (.lst es) env M
        | none => False) := q
      cases he : seqD d with
      | none => rw [he] at q'; exact q'.elim
      | some es =>
        rw [he] at q'
        have q := q'
        obtain ⟨a, ys, rfl, h, t⟩ := rep_seq R.c.same he r1
        refine ⟨a, ys, rfl, h, fun l hl => ?_⟩
        obtain ⟨R', ss⟩ := R.new (o := .lst ys) hl
        exact p _ _ _ env M (.lst es) ss R' (rep_lst t (R.c.sfree hl)) q
/-- tuple(xs) -/
@[reducible] def rdTuple : RDA := fun ds env M Q => match ds with
  | [d] => (match seqD d with
    | some es => Q (.tup es) env M
    | none => False)
  | _ => False
theorem cd_tuple : CallD X (.type "tuple") rdTuple := by
  refine ⟨⟨_, call_tuple_of (X := X), fun F S σ H env M xs ds Qd Q R r q p => ?_⟩⟩
  cases ds with
  | nil => exact q.elim
  | cons d rs =>
    cases rs with
    | cons _ _ => exact q.elim
    | nil =>
      obtain ⟨v, rfl, r1⟩ := r.one
      cases d with
      | lst es =>
        obtain ⟨a, ys, rfl, h, t⟩ := r1
        refine ⟨a, ys, rfl, .inl ⟨.of (R.c.same _ _ h), fun l hl => ?_⟩⟩
        obtain ⟨R', ss⟩ := R.new (o := .tup ys) hl
        exact p _ _ _ env M (.tup es) ss R' (rep_tup t (R.c.sfree hl)) q
      | lstK es =>
        obtain ⟨a, ys, rfl, h, t⟩ := r1
        refine ⟨a, ys, rfl, .inl ⟨L2.Same.seq R.c.same h, fun l hl => ?_⟩⟩
        obtain ⟨R', ss⟩ := R.new (o := .tup ys) hl
        exact p _ _ _ env M (.tup es) ss R' (rep_tup t (R.c.sfree hl)) q
      | tup es =>
        obtain ⟨a, ys, rfl, h, t⟩ := r1
        exact ⟨a, ys, rfl, .inr ⟨DL.Same.tup R.c.same h, p _ H S env M (.tup es) (Same.refl _) R ⟨a, ys, rfl, h, t⟩ q⟩⟩
      | _ => exact q.elim
end
/-- the pen of a script -/
def spPen : DSp := fun ds M Q _ => ∃ ns : List Int, ds = [.lstK (ns.map D.int)] ∧ ns.length ≤ 63 ∧ ∀ p o, M p = none → PenO o 0 → Q (.ref p) (mset M p o)
/-- one of some things -/
def spPick : DSp := fun ds M Q _ => ∃ p it es n o, ds = [.ref p, it] ∧ itemsD it = some es ∧ 0 < es.length ∧ es.length < 1000000 ∧ n < 2 ^ 40 ∧ M p = some o ∧ PenO o n ∧ ∀ r o', r ∈ es → PenO o' (n + 1) → Q r (mset M p o')
end DL
set_option Elab.async false
set_option linter.all false
set_option maxRecDepth 100000
set_option maxHeartbeats 1000000
/-! DL8: texts as lists of signs; ways as data. -/
namespace DL
open PySem PySem.Spec PyProof.Rows L2

theorem mset_self {M : Mem} {a : Addr} {o : MO} (h : M a = some o) : mset M a o = M := by
  funext b
  unfold mset
  split
  · rename_i e; rw [e, h]
  · rfl
/-! ### texts -/
def tx (l : List Nat) : Str := ⟨l.toArray⟩
theorem tx_len (l : List Nat) : (tx l).length = l.length := rfl
theorem tx_cps (l : List Nat) : (tx l).cps.toList = l := rfl
theorem tx_add (a b : List Nat) : tx a ++ tx b = tx (a ++ b) := by
  show (⟨a.toArray ++ b.toArray⟩ : Str) = ⟨(a ++ b).toArray⟩
  congr 1
  simp
theorem tx_eta (z : Str) : tx z.cps.toList = z := by
  cases z
  rfl
theorem tx_inj {a b : List Nat} (h : tx a = tx b) : a = b := by
  have := congrArg (fun z : Str => z.cps.toList) h
  exact this
theorem tx_beq (a b : List Nat) : (tx a == tx b) = decide (a = b) := by
  by_cases h : a = b
  · rw [h, decide_eq_true rfl]; exact beq_self_eq_true _
  · rw [decide_eq_false h]
    exact beq_eq_false_iff_ne.mpr fun z => h (tx_inj z)
theorem cut_tx (l : List Nat) (lo hi : Option Int) : cutS (tx l) lo hi = tx ((l.drop (HT.sIx l.length 0 lo)).take (HT.sIx l.length l.length hi - HT.sIx l.length 0 lo)) := rfl
theorem cut_lo (l : List Nat) (k : Nat) : cutS (tx l) none (some (k : Int)) = tx (l.take k) := by
  rw [cut_tx, HT.sIx_none, HT.sIx_nat, List.drop_zero, Nat.sub_zero]
  congr 1
  rcases Nat.le_total k l.length with g | g
  · rw [Nat.min_eq_left g]
  · rw [Nat.min_eq_right g, List.take_of_length_le (Nat.le_refl _), List.take_of_length_le g]
theorem cut_hi (l : List Nat) (k : Nat) : cutS (tx l) (some (k : Int)) none = tx (l.drop k) := by
  rw [cut_tx, HT.sIx_none, HT.sIx_nat]
  congr 1
  rcases Nat.le_total k l.length with g | g
  · rw [Nat.min_eq_left g, List.take_of_length_le (by rw [List.length_drop]; omega)]
  · rw [Nat.min_eq_right g, Nat.sub_self, List.take_zero, List.drop_of_length_le g]
theorem cut_mid (l : List Nat) (j k : Nat) : cutS (tx l) (some (j : Int)) (some (k : Int)) = tx ((l.drop j).take (k - j)) := by
  rw [cut_tx, HT.sIx_nat, HT.sIx_nat]
  congr 1
  rcases Nat.le_total j l.length with g | g
  · rw [Nat.min_eq_left g]
    rcases Nat.le_total k l.length with g2 | g2
    · rw [Nat.min_eq_left g2]
    · rw [Nat.min_eq_right g2, List.take_of_length_le (by rw [List.length_drop]; omega), List.take_of_length_le (by rw [List.length_drop]; omega)]
  · rw [Nat.min_eq_right g, List.drop_of_length_le g, List.drop_of_length_le (Nat.le_refl _), List.take_nil, List.take_nil]
/-- t[k:k+1] -/
theorem cut_one (l : List Nat) (k : Nat) : cutS (tx l) (some (k : Int)) (some ((k : Int) + 1)) = tx (match l[k]? with
    | some c => [c]
    | none => []) := by
  have := cut_mid l k (k + 1)
  rw [show (((k + 1 : Nat) : Int)) = (k : Int) + 1 from by omega] at this
  rw [this, show k + 1 - k = 1 from by omega]
  congr 1
  cases h : l[k]? with
  | none =>
    rw [List.getElem?_eq_none_iff] at h
    rw [List.drop_of_length_le h, List.take_nil]
  | some c =>
    obtain ⟨h1, h2⟩ := List.getElem?_eq_some_iff.mp h
    rw [List.drop_eq_getElem_cons h1, h2]
    rfl
theorem atI_k {α : Type} (l : List α) (k : Nat) : atI l (k : Int) = l[k]? := by
  unfold atI ixN
  by_cases h : (k : Int) < l.length
  · rw [if_pos (by omega), if_pos h]
    rfl
  · have h2 : ¬ k < l.length := by omega
    rw [if_pos (by omega), if_neg h, List.getElem?_eq_none_iff.mpr (by omega)]
    rfl
theorem strD_tx (l : List Nat) : strD (tx l) = l.map fun c => D.str (tx [c]) := rfl
def lettersN : List Nat := [97, 98, 99, 100, 101, 102, 103, 104, 105, 106, 107, 108, 109, 110, 111, 112, 113, 114, 115, 116, 117, 118, 119, 120, 121, 122]
theorem tx_letters : (("abcdefghijklmnopqrstuvwxyz" : String) : Str) = tx lettersN := by decide +kernel
theorem tx_empty : (("" : String) : Str) = tx [] := by decide +kernel
theorem letters_nodup : lettersN.Nodup := by decide +kernel
theorem letters_iff (c : Nat) : c ∈ lettersN ↔ 97 ≤ c ∧ c ≤ 122 := by
  constructor
  · intro h
    have : ∀ x ∈ lettersN, 97 ≤ x ∧ x ≤ 122 := by decide +kernel
    exact this c h
  · intro ⟨h1, h2⟩
    have : c ∈ (List.range 26).map (· + 97) := List.mem_map.mpr ⟨c - 97, List.mem_range.mpr (by omega), by omega⟩
    have e : (List.range 26).map (· + 97) = lettersN := by decide +kernel
    rwa [e] at this
/-- different letters -/
def SignsOk (l : List Nat) : Prop := l.Nodup ∧ ∀ c ∈ l, c ∈ lettersN
/-- m different letters -/
def spSigns : DSp := fun ds M Q _ => ∃ p m n o, ds = [.ref p, .int (m : Nat)] ∧ m ≤ 26 ∧ n < 2 ^ 39 ∧ M p = some o ∧ PenO o n ∧ ∀ l o', l.length = m → SignsOk l → PenO o' (n + m) → Q (.str (tx l)) (mset M p o')
/-- of what is left, one is taken -/
theorem signs_step {a b : List Nat} {k c : Nat} (h : (a ++ b).Perm lettersN) (e : b[k]? = some c) : ((a ++ [c]) ++ (b.take k ++ b.drop (k + 1))).Perm lettersN := by
  obtain ⟨h1, h2⟩ := List.getElem?_eq_some_iff.mp e
  have e2 : b = b.take k ++ c :: b.drop (k + 1) := by
    rw [← h2, ← List.drop_eq_getElem_cons h1, List.take_append_drop]
  refine List.Perm.trans ?_ h
  rw [List.append_assoc]
  refine List.Perm.append_left a ?_
  conv => rhs; rw [e2]
  show (c :: (b.take k ++ b.drop (k + 1))).Perm _
  exact List.perm_middle.symm
theorem signs_ok {a b : List Nat} (h : (a ++ b).Perm lettersN) : SignsOk a :=
  ⟨(List.nodup_append.mp (h.nodup_iff.mpr letters_nodup)).1, fun c hc => h.mem_iff.mp (List.mem_append_left _ hc)⟩

/-! ### == of own lists -/
section
variable {X : Cx} {e : Expr} {te : DT} {pos npos : Pos} {x : Str}
@[reducible] def dEqO (i : Nat) (te : DT) : DT := fun env M Q => match look env i with
  | .own _ => te env M fun d env1 M1 => (match look env1 i with
    | .own ds => okEq (.lst ds) ∧ okEq d ∧ Q (.bl (deq (.lst ds) d)) env1 M1
    | _ => False)
  | _ => False
theorem d_eqO {k : Nat} (hr : Room k X.A) (i : Nat) (he : DE X e te) (hN : X.N[i]? = some x := by rfl) (hv : Vis X.env.scope x := by first | exact Or.inl rfl | exact Or.inr (Or.inl rfl) | exact Or.inr (Or.inr rfl)) (hd : (x == ("__debug__" : Str)) = false := by decide) (hcd : (x == ("__classdict__" : Str)) = false := by decide) :
    DE X (.Compare (.Name x npos) [.Eq] [e] pos) (dEqO i te) := by
  refine pe_imp (pe_cmpR (op_eqD hr.units) (pv i hN hv hd hcd) he (nomark _)) fun σ H Q ⟨F, S, env, M, Qd, R, t, p⟩ => ?_
  unfold dEqO at t
  cases hl : look env i with
  | own ds0 =>
    simp only [hl] at t
    obtain ⟨a, xs0, e1, e2, _⟩ := pv_own R hl
    refine ⟨_, e1, F, S, env, M, _, R, t, fun v H' S' env' M' d s' R' r q => ?_⟩
    cases hl' : look env' i with
    | own ds =>
      simp only [hl'] at q
      obtain ⟨b, xs, f1, f2, rs⟩ := pv_own R' hl'
      rw [e1] at f1
      cases f1
      obtain ⟨h1, h2, q⟩ := q
      refine ⟨pd (.lst ds), pd d, ?_, Dp.mono R'.c.same (r.dp h2.1), h1.shaped, h2.shaped, p _ H' S' env' M' (.bl (deq (.lst ds) d)) s' R' rfl q⟩
      exact .lst (.of f2) (DpAll.mono R'.c.same (rs.dp (by simpa [isData] using h1.1)))
    | val _ => simp only [hl'] at q
    | no => simp only [hl'] at q
  | val _ => simp only [hl] at t
  | no => simp only [hl] at t
theorem d_teqO {k : Nat} (hr : Room k X.A) (i : Nat) (he : DE X e te) (hN : X.N[i]? = some x := by rfl) (hv : Vis X.env.scope x := by first | exact Or.inl rfl | exact Or.inr (Or.inl rfl) | exact Or.inr (Or.inr rfl)) (hd : (x == ("__debug__" : Str)) = false := by decide) (hcd : (x == ("__classdict__" : Str)) = false := by decide) :
    DTst X (.Compare (.Name x npos) [.Eq] [e] pos) (dTst (dEqO i te)) := by
  refine pt_imp (pt_cmpR (op_eqD hr.units) (pv i hN hv hd hcd) he (nomark _)) fun σ H Q ⟨F, S, env, M, Qd, R, t, p⟩ => ?_
  unfold dTst dEqO at t
  cases hl : look env i with
  | own ds0 =>
    simp only [hl] at t
    obtain ⟨a, xs0, e1, e2, _⟩ := pv_own R hl
    refine ⟨_, e1, F, S, env, M, _, R, t, fun v H' S' env' M' d s' R' r q => ?_⟩
    cases hl' : look env' i with
    | own ds =>
      simp only [hl'] at q
      obtain ⟨b, xs, f1, f2, rs⟩ := pv_own R' hl'
      rw [e1] at f1
      cases f1
      obtain ⟨h1, h2, q⟩ := q
      refine ⟨pd (.lst ds), pd d, ?_, Dp.mono R'.c.same (r.dp h2.1), h1.shaped, h2.shaped, _, rfl, p _ H' S' env' M' s' R' q⟩
      exact .lst (.of f2) (DpAll.mono R'.c.same (rs.dp (by simpa [isData] using h1.1)))
    | val _ => simp only [hl'] at q
    | no => simp only [hl'] at q
  | val _ => simp only [hl] at t
  | no => simp only [hl] at t
end

/-! ### == and in, of plain things -/
theorem ofString_inj {a b : String} (h : Str.ofString a = Str.ofString b) : a = b := by
  rw [Str.ofString_eq_toList, Str.ofString_eq_toList] at h
  have h2 : (a.toList.map Char.toNat) = b.toList.map Char.toNat := congrArg (fun z : Str => z.cps.toList) h
  have h3 : a.toList = b.toList := by
    generalize a.toList = x at h2
    generalize b.toList = y at h2
    induction x generalizing y with
    | nil => cases y with
      | nil => rfl
      | cons _ _ => cases h2
    | cons c x ih => cases y with
      | nil => cases h2
      | cons d y =>
        rw [List.map_cons, List.map_cons] at h2
        injection h2 with e1 e2
        rw [ih y e2]
        congr 1
        exact Char.ext (UInt32.toNat_inj.mp e1)
  exact String.toList_inj.mp h3
theorem lit_beq (a b : String) : (Str.ofString a == Str.ofString b) = (a == b) := by
  by_cases h : a = b
  · rw [h, beq_self_eq_true, beq_self_eq_true]
  · rw [beq_eq_false_iff_ne.mpr h, beq_eq_false_iff_ne.mpr fun z => h (ofString_inj z)]
def flatOk : D → Bool
  | .non => true
  | .bl _ => true
  | .int _ => true
  | .str z => PyData.strOk z
  | _ => false
theorem okEq_flat {d : D} (h : flatOk d = true) : okEq d := by
  cases d <;> first | (exact ⟨rfl, by unfold depD; decide⟩) | (exact ⟨h, by unfold depD; decide⟩) | cases h
theorem deq_int (i j : Int) : deq (.int i) (.int j) = decide (i = j) := rfl
theorem deq_str (a b : Str) : deq (.str a) (.str b) = (a == b) := rfl
theorem deq_NI (i : Int) : deq .non (.int i) = false := rfl
theorem deq_IN (i : Int) : deq (.int i) .non = false := rfl
theorem deq_NN : deq .non .non = true := rfl
theorem inF_cons (d e : D) (ds : List D) : inF d (e :: ds) = (eqF e d || inF d ds) := rfl
theorem inF_nil (d : D) : inF d [] = false := rfl
theorem eqF_lit (a b : String) : eqF (.str (Str.ofString a)) (.str (Str.ofString b)) = (a == b) := lit_beq a b
theorem eqF_str (a b : Str) : eqF (.str a) (.str b) = (a == b) := rfl

/-! ### ways as data -/
inductive Un where
  | again | maybe | ahead | unless
  deriving DecidableEq
inductive WT where
  | nothing | one | letter (s : Str) | call (s : Str) | un (k : Un) (w : WT) | many (c : Bool) (ws : List WT)
@[reducible] def Un.s : Un → Str
  | .again => "again" | .maybe => "maybe" | .ahead => "ahead" | .unless => "unless"
@[reducible] def manyS : Bool → Str
  | true => "choice" | false => "row"
mutual
def WT.d : WT → D
  | .nothing => .tup [.str "nothing"]
  | .one => .tup [.str "one"]
  | .letter s => .tup [.str "letter", .str s]
  | .call s => .tup [.str "call", .str s]
  | .un k w => .tup [.str k.s, w.d]
  | .many c ws => .tup [.str (manyS c), .lst (WT.dOf ws)]
def WT.dOf : List WT → List D
  | [] => []
  | w :: ws => w.d :: WT.dOf ws
end
mutual
def WT.size : WT → Nat
  | .un _ w => w.size + 1
  | .many _ ws => WT.sizes ws + 1
  | _ => 1
def WT.sizes : List WT → Nat
  | [] => 0
  | w :: ws => w.size + WT.sizes ws
end
mutual
/-- what the laws' ways keep: signs from a text, two parts or more -/
def WT.ok (P : Str → Prop) : WT → Prop
  | .letter s => P s
  | .call _ => False
  | .un _ w => w.ok P
  | .many _ ws => 2 ≤ ws.length ∧ WT.oks P ws
  | _ => True
def WT.oks (P : Str → Prop) : List WT → Prop
  | [] => True
  | w :: ws => w.ok P ∧ WT.oks P ws
end
theorem WT.dOf_map (ws : List WT) : WT.dOf ws = ws.map WT.d := by
  induction ws with
  | nil => rfl
  | cons w ws ih => rw [WT.dOf, ih, List.map_cons]
theorem WT.dOf_append (a b : List WT) : WT.dOf (a ++ b) = WT.dOf a ++ WT.dOf b := by
  rw [WT.dOf_map, WT.dOf_map, WT.dOf_map, List.map_append]
theorem WT.size_pos (w : WT) : 1 ≤ w.size := by
  cases w <;> unfold WT.size <;> omega
theorem WT.sizes_append (a b : List WT) : WT.sizes (a ++ b) = WT.sizes a + WT.sizes b := by
  induction a with
  | nil => rw [List.nil_append, WT.sizes, Nat.zero_add]
  | cons w ws ih => rw [List.cons_append, WT.sizes, WT.sizes, ih, Nat.add_assoc]
theorem WT.sizes_snoc (a : List WT) (w : WT) : WT.sizes (a ++ [w]) = WT.sizes a + w.size := by
  rw [WT.sizes_append, WT.sizes, WT.sizes, Nat.add_zero]
theorem WT.oks_append {P : Str → Prop} {a b : List WT} (h1 : WT.oks P a) (h2 : WT.oks P b) : WT.oks P (a ++ b) := by
  induction a with
  | nil => exact h2
  | cons w ws ih => exact ⟨h1.1, ih h1.2⟩
theorem WT.oks_mem {P : Str → Prop} {ws : List WT} (h : WT.oks P ws) {w : WT} (hw : w ∈ ws) : w.ok P := by
  induction ws with
  | nil => cases hw
  | cons v ws ih =>
    rcases List.mem_cons.mp hw with rfl | hw
    · exact h.1
    · exact ih h.2 hw
theorem WT.sizes_mem {ws : List WT} {w : WT} (hw : w ∈ ws) : w.size ≤ WT.sizes ws := by
  induction ws with
  | nil => cases hw
  | cons v ws ih =>
    rw [WT.sizes]
    rcases List.mem_cons.mp hw with rfl | hw
    · omega
    · have := ih hw
      omega
theorem WT.sizes_length (ws : List WT) : ws.length ≤ WT.sizes ws := by
  induction ws with
  | nil => exact Nat.le_refl _
  | cons v ws ih =>
    rw [WT.sizes, List.length_cons]
    have := v.size_pos
    omega
/-- the sign of a leaf: one of the signs of a text -/
def Sgn (l : List Nat) (s : Str) : Prop := ∃ c ∈ l, s = tx [c]
theorem okEq_s (z : Str) (h : PyData.strOk z = true) : okEq (.str z) := ⟨h, by unfold depD; decide⟩
theorem isData_of {l : List Nat} (hl : ∀ c ∈ l, c ∈ lettersN) {s : Str} (h : Sgn l s) : PyData.strOk s = true := by
  obtain ⟨c, hc, rfl⟩ := h
  have := (letters_iff c).mp (hl c hc)
  show ([c].toArray.all fun x => decide (x < 0x110000)) = true
  simp
  omega
theorem areData_append (a b : List D) : areData (a ++ b) = (areData a && areData b) := by
  induction a with
  | nil => rfl
  | cons d a ih => rw [List.cons_append, areData, areData, ih, Bool.and_assoc]
mutual
theorem WT.data {P : Str → Prop} (hP : ∀ s, P s → PyData.strOk s = true) : ∀ w : WT, w.ok P → isData w.d = true
  | .nothing, _ => by decide +kernel
  | .one, _ => by decide +kernel
  | .letter s, h => by
    show (PyData.strOk _ && (PyData.strOk s && true)) = true
    rw [hP s h]
    decide +kernel
  | .call s, h => h.elim
  | .un k w, h => by
    show (PyData.strOk _ && (isData w.d && true)) = true
    rw [WT.data hP w h]
    cases k <;> decide +kernel
  | .many c ws, h => by
    show (PyData.strOk _ && (areData (WT.dOf ws) && true)) = true
    rw [WT.datas hP ws h.2]
    cases c <;> decide +kernel
theorem WT.datas {P : Str → Prop} (hP : ∀ s, P s → PyData.strOk s = true) : ∀ ws : List WT, WT.oks P ws → areData (WT.dOf ws) = true
  | [], _ => rfl
  | w :: ws, h => by
    show (isData w.d && areData (WT.dOf ws)) = true
    rw [WT.data hP w h.1, WT.datas hP ws h.2]
    rfl
end
mutual
theorem WT.dep : ∀ w : WT, depD w.d ≤ 2 * w.size
  | .nothing => by decide +kernel
  | .one => by decide +kernel
  | .letter s => by unfold WT.d WT.size; simp only [depD, depDs]; omega
  | .call s => by unfold WT.d WT.size; simp only [depD, depDs]; omega
  | .un k w => by
    have := WT.dep w
    unfold WT.d WT.size; simp only [depD, depDs]; omega
  | .many c ws => by
    have := WT.deps ws
    unfold WT.d WT.size; simp only [depD, depDs]; omega
theorem WT.deps : ∀ ws : List WT, depDs (WT.dOf ws) ≤ 2 * WT.sizes ws
  | [] => by decide
  | w :: ws => by
    have h1 := WT.dep w
    have h2 := WT.deps ws
    unfold WT.dOf WT.sizes; simp only [depDs]; omega
end
theorem WT.okEqs {P : Str → Prop} (hP : ∀ s, P s → PyData.strOk s = true) (ws : List WT) (h : WT.oks P ws) (hs : WT.sizes ws ≤ 30) : okEq (.lst (WT.dOf ws)) := by
  refine ⟨WT.datas hP ws h, ?_⟩
  have := WT.deps ws
  simp only [depD]
  omega
def spLeaf : DSp := fun ds M Q _ => ∃ p l n o, ds = [.ref p, .str (tx l)] ∧ 0 < l.length ∧ l.length < 1000 ∧ n < 2 ^ 39 ∧ M p = some o ∧ PenO o n ∧ ∀ (w : WT) (o' : MO), w.size = 1 → w.ok (Sgn l) → PenO o' (n + 2) → Q w.d (mset M p o')
def spWayOf (S : Nat) : DSp := fun ds M Q _ => ∃ (p : Addr) (l : List Nat) (m : Nat) (n : Int) (o : MO), ds = [.ref p, .str (tx l), .int (m : Nat)] ∧ 0 < m ∧ m ≤ S ∧ m ≤ 30 ∧ (∀ c ∈ l, c ∈ lettersN) ∧ 0 < l.length ∧ l.length < 1000 ∧ n + 4 * m < 2 ^ 38 ∧ M p = some o ∧ PenO o n ∧ ∀ (w : WT) (o' : MO), w.size = m → w.ok (Sgn l) → PenO o' (n + 4 * m - 2) → Q w.d (mset M p o')
def spWay (S : Nat) : DSp := fun ds M Q _ => ∃ (p : Addr) (l : List Nat) (m : Nat) (n : Int) (o : MO), ds = [.ref p, .str (tx l), .int (m : Nat)] ∧ 0 < m ∧ m ≤ S ∧ m ≤ 30 ∧ (∀ c ∈ l, c ∈ lettersN) ∧ 0 < l.length ∧ l.length < 1000 ∧ n < 2 ^ 37 ∧ M p = some o ∧ PenO o n ∧ ∀ (w : WT) (o' : MO), w.size ≤ m → w.ok (Sgn l) → PenO o' (n + 1 + 4 * m) → Q w.d (mset M p o')
/-- the parts of a way -/
@[reducible] def WT.inner : WT → List WT
  | .un _ w => [w]
  | .many _ ws => ws
  | _ => []
def spInner : DSp := fun ds M Q _ => ∃ w : WT, ds = [w.d] ∧ Q (.lst (w.inner.map WT.d)) M
end DL
set_option Elab.async false
set_option linter.all false
set_option maxRecDepth 100000
set_option maxHeartbeats 1000000
/-! DL9: super().__init__(..) as a body's first line. -/
namespace DL
open PySem PySem.Spec PyProof.Rows L2

/-- what super().__init__ asks of the text's kept part -/
structure SupK (P : Program) (K : PySem.W.Frag) (cc cda D C f2 : Addr) (nm : Str) : Prop where
  code : ∃ ccl cdd vs ccs file tf, K.lookup cda = some ⟨ccl, cdd, .fields vs, ccs⟩ ∧ vs[2]? = some (.str file tf) ∧ ((P.main.file : Str) == file) = true
  cell : ∃ cl cld csl, K.lookup cc = some ⟨cl, cld, .cell (some (.ref D)), csl⟩
  cls : ∃ cdD, PySem.W.clsIn K D = some cdD
  sub : PySem.W.mroIn K C (.ref D) = some true
  find : PySem.W.ks_superIn K C D nm = some (some (.ref f2))
  ty : PySem.W.typeIn K (.ref f2) = some (.type "function")
  fi : PySem.W.fnIn K f2 = true
  st : PySem.W.nsIn K cStatics "thirdparty.any" = some none
  top : (P.main.scope.names.lookup ("super" : Str)).isSome = false
section
variable {X : Cx} {pins : List (Addr × Obj)} {σ : L2.St} {H : Hp} {s : Shared} {A : Around} {E : Value → Shared → Prop} {cc cda D C f f2 x dx : Addr} {nm : Str} {fs : List (Str × V)}
theorem sup_base {body : List Stmt} {p0 p1 : Pos} {attr : Str} {whole : Sem Value} {fo : Obj} {fd : FuncData} {ar : Arg} {Q : Value → Shared → Prop}
    (I : Inv X pins σ H s) (S : SupK X.prog X.K cc cda D C f2 nm) (hef : X.env.func = some f) (hlf : X.K.lookup f = some fo) (hfo : fo.data = .func fd) (hp : (fd.params.posonlyargs ++ fd.params.args).head? = some ar)
    (hcode : X.env.code = .ref cda) (hcells : X.env.cells.lookup ("__class__" : Str) = some cc) (hks : X.env.scope.names.lookup ("super" : Str) = some .globalImplicit) (hkc : X.env.scope.names.lookup ("__class__" : Str) = some .free)
    (hka : X.env.scope.names.lookup ar.arg = some .local) (h0 : X.N[0]? = some ar.arg) (σ0 : σ[0]? = some (some (.ref x))) (hx : H x = some (.ins C dx fs)) (hmg : X.mg "super" = none) (hat : (attr == ("__class__" : Str)) = false)
    (h : ∀ s', s'.heap.get? s.heap.objs.size = some (PySem.W.ks_superObj D x C) → Inv X pins σ H s' → Q (.ref s.heap.objs.size) s') :
    _root_.PySem.wpAt (model X.prog X.w) A (.func body X.env) (attributeBase (.Call (.Name "super" p0) [] [] p1) attr X.env whole) Q E s := by
  obtain ⟨ccl, cdd, vs, ccs, file, tf, hc1, hvs, hfile⟩ := S.code
  obtain ⟨cl, cld, csl, hcell⟩ := S.cell
  obtain ⟨cdD, hD⟩ := S.cls
  have XK := I.kIn
  obtain ⟨mA, O, _, _, _, _⟩ := ins_get I.hok hx
  obtain ⟨od, J, _⟩ := O.look
  obtain ⟨oD, hD1, hD2⟩ : ∃ oD, s.heap.get? D = some oD ∧ oD.data = .cls cdD := by
    unfold PySem.W.clsIn at hD
    split at hD
    · rename_i c d cd' sl ho
      cases hD
      exact ⟨_, XK _ _ ho, rfl⟩
    · cases hD
  refine PySem.ks_wpAt_super_base hks hkc hat hef (XK _ _ hlf) hfo hp hcode (XK _ _ hc1) rfl hvs hfile S.top ?_
  obtain ⟨mb, h1, h2⟩ := I.mod.blt
  refine PySem.W.ks_loadName_global I.ok.kind hks (Calls.loadGlobal_builtin (by rw [I.ok.glob]; exact I.mod.glob.keeps I.bk) hmg (by rw [I.ok.blt]; exact h1.keeps I.bk) (v := .type "super") ((h2 _ (by decide)).trans (by decide +kernel)) ⟨rfl, ?_⟩)
  refine wpAny_loadName_free I.ok.kind hkc hcells ⟨_, XK _ _ hcell, rfl⟩ ?_
  obtain ⟨m, hm, hl⟩ := I.loc
  obtain ⟨u, ru, lk⟩ := hl 0 ar.arg (.ref x) h0 σ0 (.inl hka)
  obtain rfl : u = Value.ref x := ru
  have hmx : m ar.arg = some (.ref x) := by
    rcases lk with ⟨_, e⟩ | ⟨e | e, _⟩
    · exact e
    · have e' : X.env.scope.names.lookup ar.arg = some .cell := e
      rw [hka] at e'; cases e'
    · have e' : X.env.scope.names.lookup ar.arg = some .free := e
      rw [hka] at e'; cases e'
  refine wpAny_loadName_local I.ok.kind hka hm hmx ?_
  obtain ⟨hh, g, d, t, os⟩ := s
  refine PySem.ks_wpAny_isType_cls hD1 hD2 ⟨rfl, ?_⟩
  refine PySem.ks_wpAny_call_super hD1 hD2 J.at_ J.cls (fun c e => ?_) (PySem.W.looks_mroIn XK S.sub) (fun h' e k => ?_)
  · have := J.no
    unfold PySem.W.notCls at this
    rw [e] at this
    exact Bool.noConfusion this
  · exact h _ e (I.kept k)
theorem sup_meth {pl : Sem Bool} {Q : Value × List Value → Shared → Prop} {so : Addr} (I : Inv X pins σ H s) (S : SupK X.prog X.K cc cda D C f2 nm) (hso : s.heap.get? so = some (PySem.W.ks_superObj D x C)) (hx : H x = some (.ins C dx fs)) (hn : (nm == ("__class__" : Str)) = false)
    (h : ∀ s', Inv X ((s.heap.objs.size, PySem.W.methodObj (.ref f2) (.ref x)) :: pins) σ H s' → Q (.ref s.heap.objs.size, []) s') : wpAny (model X.prog X.w) A (getMethod (.ref so) nm pl) Q E s := by
  have XK := I.kIn
  obtain ⟨mA, O, _, _, _, _⟩ := ins_get I.hok hx
  obtain ⟨od, J, _⟩ := O.look
  have hm := S.find
  obtain ⟨hh, g, d, t, os⟩ := s
  cases hc : PySem.W.clsIn X.K C with
  | none => unfold PySem.W.ks_superIn at hm; rw [hc] at hm; cases hm
  | some cd =>
    unfold PySem.W.ks_superIn at hm
    rw [hc] at hm
    obtain ⟨of, hof, hofc⟩ : ∃ of, hh.get? f2 = some of ∧ of.cls = .type "function" := by
      have ht' : (X.K.lookup f2).map (·.cls) = some (.type "function") := S.ty
      cases z : X.K.lookup f2 with
      | none => rw [z] at ht'; cases ht'
      | some of => rw [z] at ht'; exact ⟨of, XK _ _ z, Option.some.inj ht'⟩
    refine PySem.ks_wpAny_getMethod_super hso (PySem.W.looks_opaque XK S.st) (l₀ := cd.mro) ?_ rfl XK hm hof hofc (PySem.W.ks_ne XK J hc) hn ?_
    · exact fun A Q E s k q => wpAny_bind ((PySem.W.looks_clsIn XK hc) A _ E s k (wpAny_pure q))
    · exact h _ (ClX.met_new I)
end

/-- the object at f: a def whose text names its class -/
structure SupD (K : PySem.W.Frag) (x qual : Str) (params : Arguments) (body : List Stmt) (scope : Scope) (cc cda f : Addr) (fd : FuncData) : Prop where
  ex : ∃ (oc : Value) (od : Option Addr) (dV kV doc pm : Value) (an : Option Addr) (ct : Value) (osl : Array (Option Value)),
    fd = PySem.W.fnX x qual params body scope [(("__class__" : Str), cc)] dV kV doc pm an (.ref cda) ct ∧ K.lookup f = some ⟨oc, od, .func fd, osl⟩
  cd : PySem.W.codeIn K (.ref cda) qual = true
abbrev nfS (x qual : Str) (params : Arguments) (body : List Stmt) (scope : Scope) (cc cda : Addr) : NdefX.NF := ⟨x, qual, params, body, scope, [(("__class__" : Str), cc)], cda⟩
abbrev cxS (P : Program) (w : World) (K : PySem.W.Frag) (mg : Str → Option Value) (base : Heap) (N : List Str) (F : NdefX.NF) (f : Addr) (A : Around) (outer : List Env) (s : Shared) (H : Hp) (E : XK) : Cx := NdefX.ncx CX0 P w K mg base N F f A outer s H E
@[reducible] def dSup (C : Addr) (sp : DSp) (t : DTA) (tr : DTS) : DTS := fun E env M => match look env 0 with
  | .val (.ref x) => (match M x with
    | some (.ins C' _ _) => C' = C ∧ t env M fun ds env1 M1 => sp (.ref x :: ds) M1 (fun _ M2 => tr E env1 M2) KX0
    | _ => False)
  | _ => False
theorem startF_eq {N : List Str} {vs : List V} (h : vs.length + 1 ≤ N.length) : NdefX.startF N vs [none] = L2.start N vs := by
  unfold NdefX.startF L2.start
  congr 1
  rw [List.length_singleton, show N.length - vs.length = (N.length - vs.length - 1) + 1 from by omega]
  rfl
section
variable {P : Program} {w : World} {K : PySem.W.Frag} {mg : Str → Option Value} {base : Heap} {x qual : Str} {params : Arguments} {body rest : List Stmt} {scope : Scope} {cc cda f D C f2 : Addr} {fd : FuncData} {N ps : List Str} {k : Nat} {sp sp2 : DSp}
  {nm : Str} {e : Expr} {es : List Expr} {p0 p1 apos pos ep : Pos} {ar : Arg} {pl : Env → Sem Bool}
theorem okSup (G : SupD K x qual params body scope cc cda f fd) (hbd : body = .Expr (.Call (.Attribute (.Call (.Name "super" p0) [] [] p1) nm apos) (e :: es) [] pos) ep :: rest) (S : NdefX.NScope N ps ["__class__"] scope)
    (hks : scope.names.lookup ("super" : Str) = some .globalImplicit) (hkc : scope.names.lookup ("__class__" : Str) = some .free) (hka : scope.names.lookup ar.arg = some .local) (hp : (params.posonlyargs ++ params.args).head? = some ar) (h0 : N[0]? = some ar.arg)
    (hmg : mg "super" = none) (hnm : (nm == ("__class__" : Str)) = false) (Sk : SupK P K cc cda D C f2 nm) (F2 : FnR P w K mg base CX0 k f2 (LSp K sp2)) (len : ∀ ds M Q E, sp ds M Q E → ds.length = ps.length)
    (hbody : ∀ (A : Around) (outer : List Env) (s : Shared) (H : Hp) (E : XK), Room k (A.deeper (NdefX.envF (nfS x qual params body scope cc cda) f s.heap.objs.size)) →
      ∃ t tr, DA (cxS P w K mg base N (nfS x qual params body scope cc cda) f A outer s H E) (e :: es) t ∧ DSs (cxS P w K mg base N (nfS x qual params body scope cc cda) f A outer s H E) rest tr ∧ ∀ ds M Q Ed, sp ds M Q Ed → dSup C sp2 t tr { nx := fun _ M' => Q .non M', rt := Q } (startD N ds) M)
    (hst : ∀ env, starEach (e :: es) env = (false, eval e env) :: starEach es env := by exact fun _ => rfl) (hpl : ∀ env, (backTo pos (starEach es env)).any (·.1) = false := by exact fun _ => rfl)
    (hev : ∀ env, eval (.Call (.Attribute (.Call (.Name "super" p0) [] [] p1) nm apos) (e :: es) [] pos) env = (do
      let ov ← attributeBase (.Call (.Name "super" p0) [] [] p1) nm env (eval (.Call (.Name "super" p0) [] [] p1) env)
      standAt apos.atName
      let (f, first) ← holding [ov] (getMethod ov nm (pl env))
      callWith pos f first (backTo pos (starEach (e :: es) env)) []) := by exact fun _ => rfl)
    (hsw : ∀ env, swapsWith (.Call (.Attribute (.Call (.Name "super" p0) [] [] p1) nm apos) (e :: es) [] pos) none ep.line env = pure false := by exact fun _ => rfl) :
    FnOk P w K mg base CX0 (k + 1) f fd ps (LSp K sp) := by
  have len' : ∀ vs H Q E, LSp K sp vs H Q E → vs.length = ps.length := fun vs H Q E ⟨F, S, ds, M, Qd, Ed, c, r, q, p, px⟩ => by rw [← r.length]; exact len _ _ _ _ q
  refine ⟨len', fun A outer s H args us vs Q E hr e0 hb r hsp => ?_⟩
  have hl := len' _ _ _ _ hsp
  obtain ⟨oc, od, dV, kV, doc, pm, an, ct, osl, rfl, lk⟩ := G.ex
  have KX : K.In s.heap := e0.mod.kin.keeps fun b o e => (e0.bs b o e).1
  have lim : s.heap.NoLimit := e0.mod.nolimit.keeps fun b o e => (e0.bs b o e).1
  have hpl1 : ps.length + 1 ≤ N.length := by
    have q := congrArg List.length S.pre
    rw [List.length_take, List.length_append, List.length_singleton] at q
    omega
  obtain ⟨cl, cld, csl, hcell⟩ := Sk.cell
  refine PySem.ks_codeAny_call_defAt (body := body) (binds := ps.zip us) hr.depth (KX _ _ lk) rfl lim (PySem.W.codeRec_of KX G.cd) rfl hb (fun y hy z => S.nocell y hy z) (fun ⟨n, _⟩ hy => S.par n (List.of_mem_zip hy).1) (fun h₁ hns kp => ?_) S.co S.gen S.kind
  have hcc : H cc = none := (e0.bs cc _ (e0.mod.kin _ _ hcell)).2
  have C0 : NdefX.CellsAt [(("__class__" : Str), cc)] ["__class__"] [none] s.heap H := by
    have one : ∀ y c, List.lookup y [(("__class__" : Str), cc)] = some c → y = "__class__" ∧ c = cc := fun y c h => by
      by_cases hy : y = ("__class__" : Str)
      · subst hy
        rw [List.lookup_cons_self] at h
        exact ⟨rfl, (Option.some.inj h).symm⟩
      · have : (y == ("__class__" : Str)) = false := beq_eq_false_iff_ne.mpr hy
        simp only [List.lookup, this] at h
        cases h
    refine ⟨rfl, fun y c h => ?_, fun x y c h1 h2 => ((one x c h1).1).trans ((one y c h2).1).symm, fun i y h => ?_⟩
    · obtain ⟨_, rfl⟩ := one y c h
      exact ⟨hcc, _, ⟨_, KX _ _ hcell, rfl⟩⟩
    · cases i with
      | zero =>
        cases h
        exact ⟨cc, List.lookup_cons_self, fun v hv => by cases hv⟩
      | succ i => simp at h
  have I0 : Inv (cxS P w K mg base N (nfS x qual params body scope cc cda) f A outer s H E) [] (NdefX.startF N vs [none]) H { s with heap := h₁, toks := s.toks + (ps.zip us).length } := NdefX.inv_startN S hr.hd e0 hl r C0 hns kp
  rw [startF_eq (by rw [hl]; exact hpl1)] at I0
  obtain ⟨F, S0, ds, M, Qd, Ed, c0, r0, q, p, px⟩ := hsp
  obtain ⟨t, tr, hta, htr, hq⟩ := hbody A outer s H E (hr.deeper _)
  have q := hq ds M Qd Ed q
  have R0 : Rel K F S0 (L2.start N vs) H (startD N ds) M := rel_start c0 r0
  cases hx0 : look (startD N ds) 0 with
  | no => unfold dSup at q; simp only [hx0] at q
  | own _ => unfold dSup at q; simp only [hx0] at q
  | val d0 =>
  cases d0 with
  | ref xa =>
    cases hm : M xa with
    | none => unfold dSup at q; simp only [hx0, hm] at q
    | some mo =>
    cases mo with
    | ins C' ns' es' =>
      unfold dSup at q
      simp only [hx0, hm] at q
      obtain ⟨rfl, q⟩ := q
      obtain ⟨_, dx, xs, hHx, _, _⟩ := c0.mem xa _ hm
      obtain ⟨u, σ0, ru⟩ := R0.val 0 _ hx0
      cases ru
      refine PySem.ks_wpAt_mono (Q := SP (cxS P w K mg base N (nfS x qual params body scope cc cda) f A outer s H E) [] { nx := fun _ H' => Q .non H', rt := Q }) ?_ (fun fl s' hs => ?_) fun _ _ y => y
      · subst hbd
        refine PySem.ks_wpAt_execs_cons (PySem.ks_wpAt_Expr_any (PySem.ks_wpAt_MethodCall ?_ (he := hev _)) (hs := hsw _) (hi := by have hki : scope.kind = .function := S.kind; show (scope.kind == ScopeKind.module && _) = false; rw [hki]; rfl))
        refine sup_base I0 Sk rfl lk rfl hp rfl List.lookup_cons_self hks hkc hka h0 σ0 hHx hmg hnm fun s1 hso I1 => ?_
        refine sup_meth I1 Sk hso hHx hnm fun s2 I2 => ?_
        have q3 : ∀ vs' H' S' env' M' ds', Same S0 S' → Rel K F S' (L2.start N vs) H' env' M' → Reps K S' ds' vs' → sp2 (.ref xa :: ds') M' (fun _ M2 => tr { nx := fun _ M' => Qd .non M', rt := Qd } env' M2) KX0 →
            LSp K sp2 (.ref xa :: vs') H' (fun _ H2 => LS K tr { nx := fun _ H' => Q .non H', rt := Q } (L2.start N vs) H2) E0 := fun vs' H' S' env' M' ds' s' R' r' q' =>
          sp_of (ds := .ref xa :: ds') (vs := .ref xa :: vs') (Qd := fun _ env M2 => tr { nx := fun _ M' => Qd .non M', rt := Qd } env M2) R' ⟨rfl, r'⟩ q' fun v H2 S2 env2 M2 d s2 R2 _ q2 => ⟨F, S2, env2, M2, _, R2, q2, ⟨fun σ H' S' env' M' s3 R' q' => p .non H' S' M' .non ((s'.trans s2).trans s3) R'.c rfl q', fun v H' S' M' d s3 c' r' q' => p v H' S' M' d ((s'.trans s2).trans s3) c' r' q', fun _ _ _ _ _ _ _ z => z.elim, fun _ _ _ _ _ _ _ z => z.elim⟩⟩
        refine ClX.callwith_cm I2 (ClX.base_none I1 (Nat.le_refl _)) Sk.fi (thn (hta.run pos _ s2 (L2.start N vs) H (fun vs' H' => LSp K sp2 (.ref xa :: vs') H' (fun _ H2 => LS K tr { nx := fun _ H' => Q .non H', rt := Q } (L2.start N vs) H2) E0) I2 ⟨F, S0, startD N ds, M, _, R0, q, fun vs' H' S' env' M' ds' s' R' r' q' => q3 vs' H' S' env' M' ds' s' R' r' q'⟩) fun us s3 ⟨vs', H2, I3, rv, q2⟩ => ⟨⟨ClX.pin_at I3, I3.kIn⟩, thn (ClX.run_cm F2 (hr.deeper _) pass0 I3 rv q2) fun u s4 ⟨v, H4, I4, r4, q4⟩ => wpAt_of_wpAny (htr.run [] s4 (L2.start N vs) H4 _ I4 q4)⟩) (hst _) (hpl _)
      · have fin : ∀ {σ' : L2.St} {H' : Hp} {v : V} {u : Value}, Inv (cxS P w K mg base N (nfS x qual params body scope cc cda) f A outer s H E) [] σ' H' s' → L2.RelV v u → Q v H' → CE outer P w H s Q u s' :=
          fun {σ' H' v u} J rv q => ⟨v, H', J.os, J.bare, J.base, J.hok, rv, q⟩
        cases fl with
        | ret u =>
          obtain ⟨v, σ', H', J, rv, q⟩ := hs
          exact fin J rv q
        | next =>
          obtain ⟨σ', H', J, q⟩ := hs
          exact fin (v := V.non) (u := Value.none) J rfl q
        | brk =>
          obtain ⟨_, _, _, q⟩ := hs
          exact False.elim q
        | cont =>
          obtain ⟨_, _, _, q⟩ := hs
          exact False.elim q
    | lst _ => unfold dSup at q; simp only [hx0, hm] at q
    | dK _ _ => unfold dSup at q; simp only [hx0, hm] at q
  | _ => unfold dSup at q; simp only [hx0] at q
end
end DL
set_option Elab.async false
set_option linter.all false
set_option maxRecDepth 100000
set_option maxHeartbeats 1000000
/-! DL10: the package's ways as things. -/
namespace DL
open PySem PySem.Spec PyProof.Rows L2

/-- a method of the text as it stands behind the top -/
structure MethAt (K : PySem.W.Frag) (nm qual : Str) (ps : List Str) (st : Stmt) (f : Addr) : Prop where
  ex : ∃ fd, FunD K nm qual (defArgs st) (defBody st) (defScope st) [] [] f fd ∧ Binds K fd ps []
/-- .. that says super() -/
structure SupAt (P : Program) (K : PySem.W.Frag) (C : Addr) (nm qual : Str) (ps : List Str) (st : Stmt) (f f2 : Addr) : Prop where
  ex : ∃ cc cda fd, SupD K nm qual (defArgs st) (defBody st) (defScope st) cc cda f fd ∧ SupK P K cc cda C C f2 "__init__" ∧ Binds K fd ps []
theorem fputN_new {f : Str} : ∀ {ns : List Str}, f ∉ ns → fputN f ns = ns ++ [f]
  | [], _ => rfl
  | g :: r, h => by
    unfold fputN
    rw [if_neg (fun z => h (by rw [z]; exact List.mem_cons_self)), fputN_new fun z => h (List.mem_cons_of_mem _ z)]
    rfl
theorem fputD_new {α : Type} {f : Str} {d : α} : ∀ {ns : List Str} {xs : List α}, f ∉ ns → xs.length = ns.length → fputD f d ns xs = xs ++ [d]
  | [], [], _, _ => rfl
  | [], _ :: _, _, h => by cases h
  | _ :: _, [], _, h => by cases h
  | g :: r, x :: xs, h, hl => by
    unfold fputD
    rw [if_neg (fun z => h (by rw [z]; exact List.mem_cons_self)), fputD_new (fun z => h (List.mem_cons_of_mem _ z)) (Nat.succ.inj hl)]
    rfl
def wayN : List Str := ["word", "sign", "inner"]
def fldN : List Str := ["word", "sign", "inner", "letter", "name", "part", "ways"]
/-- Way.__init__ -/
def spWayInit (C : Addr) : DSp := fun ds M Q _ => ∃ x a b it es, ds = [.ref x, a, b, it] ∧ M x = some (.ins C [] []) ∧ seqD it = some es ∧ Q .non (mset M x (.ins C wayN [a, b, .tup es]))
/-- a leaf with a sign -/
@[reducible] def gLeaf (w n : Str) : List D → Option (List Str × List D)
  | [d] => some (wayN ++ [n], [.str w, d, .tup [], d])
  | _ => none
@[reducible] def gBare (w : Str) : List D → Option (List Str × List D)
  | [] => some (wayN, [.str w, .str "", .tup []])
  | _ => none
@[reducible] def gUn (w : Str) : List D → Option (List Str × List D)
  | [d] => some (wayN ++ [("part" : Str)], [.str w, .str "", .tup [d], d])
  | _ => none
@[reducible] def gMany (w : Str) : List D → Option (List Str × List D)
  | [it] => (match seqD it with
    | some es => some (wayN ++ [("ways" : Str)], [.str w, .str "", .tup es, .tup es])
    | none => none)
  | _ => none
theorem new_letter {d x : D} {xs : List D} {n : Str} (hn : n ∉ wayN) (hl : xs.length = 3) : fputN n wayN = wayN ++ [n] ∧ fputD n d wayN xs = xs ++ [d] := ⟨fputN_new hn, fputD_new hn hl⟩
theorem fget_w {a b c : D} {ns : List Str} {ds : List D} : fget "word" (wayN ++ ns) (a :: b :: c :: ds) = some a := by
  show List.lookup _ (((("word" : Str)), a) :: _) = _
  rw [List.lookup_cons_self]
theorem fget_s {a b c : D} {ns : List Str} {ds : List D} : fget "sign" (wayN ++ ns) (a :: b :: c :: ds) = some b := by
  show List.lookup _ (((("word" : Str)), a) :: ((("sign" : Str)), b) :: _) = _
  rw [List.lookup_cons, show (("sign" : Str) == ("word" : Str)) = false from by decide +kernel]
  show List.lookup _ (((("sign" : Str)), b) :: _) = _
  rw [List.lookup_cons_self]
theorem fget_i {a b c : D} {ns : List Str} {ds : List D} : fget "inner" (wayN ++ ns) (a :: b :: c :: ds) = some c := by
  show List.lookup _ (((("word" : Str)), a) :: ((("sign" : Str)), b) :: ((("inner" : Str)), c) :: _) = _
  rw [List.lookup_cons, show (("inner" : Str) == ("word" : Str)) = false from by decide +kernel]
  show List.lookup _ (((("sign" : Str)), b) :: ((("inner" : Str)), c) :: _) = _
  rw [List.lookup_cons, show (("inner" : Str) == ("sign" : Str)) = false from by decide +kernel]
  show List.lookup _ (((("inner" : Str)), c) :: _) = _
  rw [List.lookup_cons_self]
/-- the classes of ways -/
structure WA where
  nothing : Addr
  one : Addr
  letter : Addr
  call : Addr
  un : Un → Addr
  many : Bool → Addr
def WA.has (W : WA) (C : Addr) : Prop := C = W.nothing ∨ C = W.one ∨ C = W.letter ∨ C = W.call ∨ (∃ k, C = W.un k) ∨ ∃ c, C = W.many c
mutual
/-- a way as a thing of the package -/
def WT.o (W : WA) : WT → D
  | .nothing => .obj W.nothing wayN [.str "nothing", .str "", .tup []]
  | .one => .obj W.one wayN [.str "one", .str "", .tup []]
  | .letter s => .obj W.letter (wayN ++ [("letter" : Str)]) [.str "letter", .str s, .tup [], .str s]
  | .call s => .obj W.call (wayN ++ [("name" : Str)]) [.str "call", .str s, .tup [], .str s]
  | .un k w => .obj (W.un k) (wayN ++ [("part" : Str)]) [.str k.s, .str "", .tup [w.o W], w.o W]
  | .many c ws => .obj (W.many c) (wayN ++ [("ways" : Str)]) [.str (manyS c), .str "", .tup (WT.oOf W ws), .tup (WT.oOf W ws)]
def WT.oOf (W : WA) : List WT → List D
  | [] => []
  | w :: ws => w.o W :: WT.oOf W ws
end
theorem WT.oOf_map (W : WA) (ws : List WT) : WT.oOf W ws = ws.map (WT.o W) := by
  induction ws with
  | nil => rfl
  | cons w ws ih => rw [WT.oOf, ih, List.map_cons]
@[reducible] def WT.word : WT → Str
  | .nothing => "nothing" | .one => "one" | .letter _ => "letter" | .call _ => "call" | .un k _ => k.s | .many c _ => manyS c
@[reducible] def WT.sign : WT → Str
  | .letter s => s | .call s => s | _ => ""
/-- what of a way all code reads -/
theorem WT.o_obj (W : WA) (w : WT) : ∃ C ns ds, w.o W = .obj C (wayN ++ ns) (.str w.word :: .str w.sign :: .tup (w.inner.map (WT.o W)) :: ds) ∧ W.has C := by
  cases w with
  | nothing => exact ⟨_, [], [], rfl, .inl rfl⟩
  | one => exact ⟨_, [], [], rfl, .inr (.inl rfl)⟩
  | letter s => exact ⟨_, ["letter"], [.str s], rfl, .inr (.inr (.inl rfl))⟩
  | call s => exact ⟨_, ["name"], [.str s], rfl, .inr (.inr (.inr (.inl rfl)))⟩
  | un k w => exact ⟨_, ["part"], [w.o W], rfl, .inr (.inr (.inr (.inr (.inl ⟨k, rfl⟩))))⟩
  | many c ws =>
    refine ⟨W.many c, ["ways"], [.tup (WT.oOf W ws)], ?_, .inr (.inr (.inr (.inr (.inr ⟨c, rfl⟩))))⟩
    rw [WT.o, ← WT.oOf_map]
/-- the fields of ways are plain ones -/
def WOk (K : PySem.W.Frag) (W : WA) : Prop := ∀ C, W.has C → ∀ n ∈ fldN, FldOk K C n
end DL
namespace DL
open PySem PySem.Spec PyProof.Rows L2
theorem FnR_of {P : Program} {w : World} {K : PySem.W.Frag} {mg : Str → Option Value} {base : Heap} {k : Nat} {f : Addr} {fd : FuncData} {ps : List Str} {sp : Sp} (F : FnOk P w K mg base CX0 k f fd ps sp) (hb : Binds K fd ps []) : FnR P w K mg base CX0 k f sp :=
  (F.raw hb .nil).imp fun vs H Q E h => by rw [List.append_nil]; exact h
end DL
namespace DL
open PySem PySem.Spec PyProof.Rows L2
theorem fputD_w {a b c d : D} {n : Str} (h : n ∉ wayN) : fputD n d wayN [a, b, c] = [a, b, c, d] := fputD_new h rfl
theorem fget_i0 {a b c : D} : fget "inner" wayN [a, b, c] = some c := fget_i (ns := []) (ds := [])
theorem insD_ref {M : Mem} {a C : Addr} {ns : List Str} {ds : List D} (h : M a = some (.ins C ns ds)) : insD (.ref a) M = some (C, ns, ds) := by
  unfold insD
  simp only [h]
end DL
namespace DL
open PySem PySem.Spec PyProof.Rows L2
/-- [g(a) for a in xs] -/
theorem lcW_mapL {α : Type} {tg : DTG} {te : DT} {vs : List Nat} {Q : KN} {f g : α → D} {be : Ev} {M : Mem} (P : α → Prop)
    (hs : ∀ a (R : D → Ev → Mem → Prop), P a → (∀ e4, wipeD e4 vs = be → R (g a) e4 M) → tg (f a) be M fun e2 M2 => te e2 M2 R) : ∀ (xs : List α) acc, (∀ a ∈ xs, P a) → acc.length + xs.length ≤ sizeLine → Q (acc ++ xs.map g) be M → lcW tg dTrue te vs (xs.map f) acc be M Q
  | [], acc, _, _, q => by rw [List.map_nil, List.append_nil] at q; exact q
  | d :: r, acc, hp, hz, q => by
    show tg (f d) be M fun e2 M2 => te e2 M2 fun y e4 M4 => acc.length < sizeLine ∧ lcW tg dTrue te vs (r.map f) (acc ++ [y]) (wipeD e4 vs) M4 Q
    refine hs d _ (hp d List.mem_cons_self) fun e4 h4 => ⟨?_, ?_⟩
    · rw [List.length_cons] at hz
      omega
    · rw [h4]
      refine lcW_mapL P hs r (acc ++ [g d]) (fun x hx => hp x (List.mem_cons_of_mem _ hx)) ?_ ?_
      · rw [List.length_append, List.length_singleton]
        rw [List.length_cons] at hz
        omega
      · rw [List.append_assoc]
        exact q
/-- the makers of ways -/
structure WCl (P : Program) (w : World) (K : PySem.W.Frag) (mg : Str → Option Value) (base : Heap) (W : WA) : Prop where
  c_nothing : Cl P w K mg base 2 "Nothing" W.nothing ["self"] (gBare "nothing")
  c_one : Cl P w K mg base 2 "One" W.one ["self"] (gBare "one")
  c_letter : Cl P w K mg base 2 "Letter" W.letter ["self", "letter"] (gLeaf "letter" "letter")
  c_call : Cl P w K mg base 2 "Call" W.call ["self", "name"] (gLeaf "call" "name")
  c_again : Cl P w K mg base 2 "Again" (W.un .again) ["self", "part"] (gUn "again")
  c_maybe : Cl P w K mg base 2 "Maybe" (W.un .maybe) ["self", "part"] (gUn "maybe")
  c_ahead : Cl P w K mg base 2 "Ahead" (W.un .ahead) ["self", "part"] (gUn "ahead")
  c_unless : Cl P w K mg base 2 "Unless" (W.un .unless) ["self", "part"] (gUn "unless")
  c_row : Cl P w K mg base 2 "Row" (W.many false) ["self", "ways"] (gMany "row")
  c_choice : Cl P w K mg base 2 "Choice" (W.many true) ["self", "ways"] (gMany "choice")
/-- the law's way as the package's -/
def spMade (W : WA) (S : Nat) : DSp := fun ds M Q _ => ∃ v : WT, ds = [v.d] ∧ v.size ≤ S ∧ v.size ≤ 1000 ∧ Q (v.o W) M
end DL
set_option Elab.async false
set_option linter.all false
set_option maxRecDepth 100000
set_option maxHeartbeats 2000000
/-! DL11: enumerate over a tuple; range downwards; lists that change within a list. -/
namespace DL
open PySem PySem.Spec PyProof.Rows L2

/-! ### enumerate over a tuple -/
theorem meets_enumT (l : Addr) (items : Array Value) (n : Nat) (dct : Option Addr) (sl : Array (Option Value)) :
    Meets (Builtin.«enumerate.__new__» ⟨[.type "enumerate", .ref l], []⟩) (fun _ R s => s.heap.get? l = some { cls := .type "tuple", dict := dct, data := .seq items n, slots := sl } ∧
      R (.ok (.ret (.ref (s.heap.push { cls := .type "tuple_iterator", data := .fields #[.ref l, .int 0 0] }).objs.size)))
        { s with heap := (s.heap.push { cls := .type "tuple_iterator", data := .fields #[.ref l, .int 0 0] }).push { cls := .type "enumerate", data := .fields #[.none, .bool false, .ref s.heap.objs.size, rawInt 0, .none, .none] } }) :=
  .of_wp fun prog w A R s h => by
    obtain ⟨hp, g, d, tk, os⟩ := s; obtain ⟨hl, h⟩ := h
    have hsub := sub_enumerate
    have hL : Heap.IsTuple (Shared.heap ⟨hp, g, d, tk, os⟩) l items := ⟨_, hl, rfl, n, rfl⟩
    wp_walk using AutoSeq1.wpAny_loadPart' hl
    refine wpAny_stack_any fun st => wpAny_pure ?_
    split
    · rename_i c _ _ _ _ _
      cases (c == Value.type "enumerate")
      · wp_walk using AutoSeq1.wpAny_loadPart' hl, wpAny_pyIter_tuple hL
        exact ⟨_, rfl, h⟩
      · wp_walk using AutoSeq1.wpAny_loadPart' hl, wpAny_pyIter_tuple hL
        exact ⟨_, rfl, h⟩
    · wp_walk using AutoSeq1.wpAny_loadPart' hl, wpAny_pyIter_tuple hL
      exact ⟨_, rfl, h⟩
section
variable {prog : Program} {w : World} {A : Around} {E : Value → Shared → Prop} {s : Shared}
theorem call_enumT {l : Addr} {items : Array Value} {Q : Value → Shared → Prop} (hL : s.heap.IsTuple l items)
    (h : ∀ h', IsEnum h' (s.heap.objs.size + 1) s.heap.objs.size 0 .none → h'.IsTupleIter s.heap.objs.size l 0 → h'.objs.size = s.heap.objs.size + 2 →
      (∀ b o, s.heap.get? b = some o → h'.get? b = some o) → Q (.ref (s.heap.objs.size + 1)) { s with heap := h' }) :
    wpAny (model prog w) A (call (.type "enumerate") [.ref l]) Q E s := by
  obtain ⟨⟨c, dct, dt, sl⟩, hl, hc, n, hd⟩ := hL
  replace hc : c = .type "tuple" := hc
  replace hd : dt = .seq items n := hd
  subst hc hd
  refine callType_new F.called_enumerate (by decide) (F.typeCall_enumerate_1 _) (F.newCall_enumerate_1 _) (fun obj => F.args_object_init_2 obj _) F.entry_enumerate_new
    (meets_enumT l items n dct sl) ⟨hl, ?_⟩
  have hz : (s.heap.push { cls := .type "tuple_iterator", data := .fields #[.ref l, .int 0 0] }).objs.size = s.heap.objs.size + 1 := Heap.size_push ..
  show _ ∧ _
  rw [hz]
  have he : IsEnum ((s.heap.push { cls := .type "tuple_iterator", data := .fields #[.ref l, .int 0 0] }).push
      { cls := .type "enumerate", data := .fields #[.none, .bool false, .ref s.heap.objs.size, rawInt 0, .none, .none] }) (s.heap.objs.size + 1) s.heap.objs.size 0 .none := by
    have := Heap.get?_push_size (s.heap.push { cls := .type "tuple_iterator", data := .fields #[.ref l, .int 0 0] })
      (o := { cls := .type "enumerate", data := .fields #[.none, .bool false, .ref s.heap.objs.size, rawInt 0, .none, .none] }) rfl
    rw [hz] at this; exact this
  refine ⟨⟨_, he, rfl⟩, h _ he ⟨_, Heap.get?_push_of_some _ (Heap.get?_push_size _ rfl), rfl, rfl⟩ (by rw [Heap.size_push, hz]) fun b o x => Heap.get?_push_of_some _ (Heap.get?_push_of_some _ x)⟩
end
section
variable {prog : Program} {w : World} {A : Around} {E : Value → Shared → Prop} {s : Shared}
theorem enumT_end {e it l : Addr} {i : Nat} {items : Array Value} {old : Value} {Q : Option Value → Shared → Prop} (hh : A.handled = none)
    (he : IsEnum s.heap e it i old) (hit : s.heap.IsTupleIter it l i) (hl : s.heap.IsTuple l items) (hx : items[i]? = none)
    (hQ : ∀ h', Heap.ExtBut it s.heap h' → Q none { s with heap := h' }) : wpAny (model prog w) A (pyNext (.ref e)) Q E s := by
  have hT : s.TypeIs (.ref e) "enumerate" := ⟨_, he, rfl⟩
  unfold pyNext
  refine wpAny_bind (wpAny_attempt (wpAny_callSpecial?_slot (name := Str.ofString "__next__") hT F.slot_enumerate_next
    (wpAny_call_entry F.slot_enumerate_next hT F.entry_enumerate_next ?_ (F.args_enumerate_next_1 _))))
  show wpAny _ _ (field (.ref e) 2 >>= _) _ _ _
  refine wpAny_bind (wpAny_field he rfl (x := .ref it) rfl ?_)
  refine wpAny_bind (wpAny_nextOf_tuple_end hh hit hl hx fun h' x he' hx' => ?_)
  obtain ⟨o, ho, hc⟩ := hx'
  refine wpAny_bind (wpAny_isInstance (T := "StopIteration") (b := true) ⟨o, ho, hc⟩ isSubtype_stop ?_)
  exact wpAny_pure (hQ _ he')
end
/-- the tuple at a, each item in a new pair -/
def IteT (K : PySem.W.Frag) (a : Addr) : It :=
  ⟨fun i H => ∃ (xs : List V) (x : V), SqT K H a xs ∧ xs[i]? = some x, fun i H v H' => ∃ T x, v = .ref T ∧ H T = none ∧ H' = upd H T (.tup [.int (i : Nat), x]) ∧ ∀ xs, SqT K H a xs → xs[i]? = some x, fun i H => ∃ xs : List V, SqT K H a xs ∧ xs.length ≤ i⟩
theorem turn_enumT {P : Program} {w : World} {K : PySem.W.Frag} {elts : List Expr} {kk : Nat} {tpos : Pos} (a e it : Addr) (hai : a ≠ it) :
    Turn P w K (.Tuple elts kk tpos) (IteT K a) [e, it] e (fun i h => (∃ old, IsEnum h e it ((i : Nat) : Int) old) ∧ h.IsTupleIter it a i ∧ e ≠ it ∧ e ≠ a) where
  mem := by simp
  obj := fun i h st b hb => by
    obtain ⟨⟨old, he⟩, ⟨o, ho, hc, hd⟩, _⟩ := st
    have e' : b = e ∨ b = it := by simpa using hb
    rcases e' with z | z
    · rw [z]; exact ⟨_, he, fun v q => nomatch q⟩
    · rw [z]; exact ⟨o, ho, fun v q => by rw [hd] at q; cases q⟩
  keep := fun i h h' st k => let ⟨⟨old, he⟩, hi, hne⟩ := st; ⟨⟨old, k e (by simp) _ he⟩, hi.at fun o q => k it (by simp) o q, hne⟩
  item := by
    intro X hP hw hK hc i pins s σ H E I hf st hg
    subst hP hw hK
    obtain ⟨⟨old, he⟩, hit, hne, hea⟩ := st
    obtain ⟨xs, x, hq, hx⟩ := hg
    obtain ⟨its, rv, p, hz⟩ := I.tuple hq
    obtain ⟨u, hu, ru⟩ := rv.get hx
    have hel : e < s.heap.objs.size := Heap.lt_size he
    have hil : it < s.heap.objs.size := by obtain ⟨_, q, _⟩ := hit; exact Heap.lt_size q
    have hlt : i < its.toArray.size := by
      have := (List.getElem?_eq_some_iff.mp hu).1
      simpa using this
    refine wpAny_pyNext_enum_itemD (Draws.tuple (prog := X.prog) (w := X.w) (A := X.A.in1) (I.ok.hd hc) it a hai its.toArray) he ⟨hit, p⟩ hlt hne (by simp [hne, hea]) fun x1 h' tk hx1 ho hst hT hsz hk => ?_
    obtain ⟨hit', _⟩ := hst
    have e1 : x1 = u := by
      have : its[i]? = some x1 := by simpa using hx1
      rw [hu] at this
      exact (Option.some.inj this).symm
    subst e1
    refine ⟨_, rfl, wpAny_letOwnedTupleGo_enum (s := { s with heap := h', toks := tk + 1 }) ho fun h'' he' sb => ?_⟩
    have hT2 : h''.get? s.heap.objs.size = some { cls := .type "tuple", data := .seq #[.int i tk, x1] } := (sb.2 _ (Nat.ne_of_gt hel)).trans hT
    have new : ObjOk X.prog X.w (upd H s.heap.objs.size (.tup [.int (i : Nat), x])) h'' s.heap.objs.size (.tup [.int (i : Nat), x]) :=
      ⟨by show 2 ≤ sizeLine; decide, [.int i tk, x1], .cons ⟨_, rfl⟩ (.cons ru .nil), ⟨_, hT2, rfl, _, rfl⟩⟩
    have I1 : Inv X pins σ (upd H s.heap.objs.size (.tup [.int (i : Nat), x])) { s with heap := h'', toks := tk + 1 } :=
      I.turnedNew (ch := [e, it]) (fun b ob hb q => (sb.2 b (fun z => hb (by simp [z]))).trans (hk b ob (fun z => hb (by simp [z])) (fun z => hb (by simp [z])) q)) hf (Nat.le_refl _) new
    refine ⟨.ref s.heap.objs.size, _, I1, rfl, ⟨_, x, rfl, I.hok.fresh (Nat.le_refl _), rfl, fun ys hy => by rw [I.tuple_inj hy hq]; exact hx⟩, ⟨⟨x1, ?_⟩, hit'.at fun o q => (sb.2 it (Ne.symm hne)).trans q, hne, hea⟩, fun b hb => ?_⟩
    · have e1 : ((i + 1 : Nat) : Int) = (i : Int) + 1 := by omega
      rw [e1]; exact he'
    · have hb' : b < s.heap.objs.size := by
        have e' : b = e ∨ b = it := by simpa using hb
        rcases e' with z | z
        · rw [z]; exact hel
        · rw [z]; exact hil
      rw [upd_ne (Nat.ne_of_lt hb')]
      exact (hf b hb).1
  done := by
    intro X hP hw hK hc i pins s σ H E I hf st hg
    subst hP hw hK
    obtain ⟨⟨old, he⟩, hit, hne, hea⟩ := st
    obtain ⟨xs, hq, hx⟩ := hg
    obtain ⟨its, rv, p, hz⟩ := I.tuple hq
    obtain ⟨f0, f1, f2, f3, f4, f5⟩ := hf it (by simp)
    have hl := rv.length
    exact enumT_end (I.ok.hd hc) he hit p (by simp; omega) fun h' eb => ⟨rfl, I.turned (t' := s.toks) (fun b o hb q => eb b o hb q) f0 f1 f3 f4 f5⟩
  self := fun A i s Q E st h => let ⟨⟨_, he⟩, _⟩ := st; wpAny_pyIter_enum he h
def iEnumA (K : PySem.W.Frag) (ta : TA) : TI := fun σ H R => ta σ H fun vs H1 => ∃ a, vs = [.ref a] ∧ ((∃ xs, SqL K H1 a xs ∧ R (Ite K a) H1) ∨ (∃ xs, SqT K H1 a xs ∧ R (IteT K a) H1))
theorem pi_enumA {X : Cx} {e : Expr} {ta : TA} {p pos tpos : Pos} {elts : List Expr} {kk : Nat} (hg : Gl X "enumerate") (hm : X.mg "enumerate" = none) (ha : PA X [e] ta) (hs : starEach [e] X.env = [(false, eval e X.env)] := by rfl) :
    PI X (.Tuple elts kk tpos) (.Call (.Name "enumerate" p) [e] [] pos) (iEnumA X.K ta) := by
  refine ⟨fun pins s σ H R I h => ?_⟩
  refine Call_ (ld_blt I hg hm boot_enumerate (PyProof.Rows.callWith_type1 (thn (ha.run pos pins s σ H _ I h) fun us s1 ⟨vs, H1, I1, r1, q1⟩ => ?_) hs rfl))
  obtain ⟨a, ex, q⟩ := q1
  subst ex
  have fpk : ∀ b ∈ [s1.heap.objs.size + 1, s1.heap.objs.size], s1.heap.objs.size ≤ b := fun b hb => by
    have e' : b = s1.heap.objs.size + 1 ∨ b = s1.heap.objs.size := by simpa using hb
    rcases e' with z | z
    · rw [z]; exact Nat.le_add_right _ _
    · rw [z]; exact Nat.le_refl _
  cases r1 with
  | cons r rr =>
    cases rr
    cases r
    rcases q with ⟨xs, hq, q⟩ | ⟨xs, hq, q⟩
    · obtain ⟨its, rv, p', hz⟩ := I1.list hq
      refine call_enumerate_list p'.isList fun h' he hit hsz hk => wpAny_pyIter_enum he ?_
      have I2 : Inv X pins σ H1 { s1 with heap := h' } := I1.kept (t' := s1.toks) hk
      exact ⟨s1.heap.objs.size + 1, [s1.heap.objs.size + 1, s1.heap.objs.size], _, _, H1, rfl, I2, turn_enum a (s1.heap.objs.size + 1) s1.heap.objs.size, ⟨⟨.none, he⟩, hit, Nat.succ_ne_self _⟩, fun b hb => I1.fpOk (fpk b hb) (I1.hok.fresh (fpk b hb)), q⟩
    · obtain ⟨its, rv, p', hz⟩ := I1.tuple hq
      have hal : a < s1.heap.objs.size := by obtain ⟨_, ho, _⟩ := p'; exact Heap.lt_size ho
      refine call_enumT p' fun h' he hit hsz hk => wpAny_pyIter_enum he ?_
      have I2 : Inv X pins σ H1 { s1 with heap := h' } := I1.kept (t' := s1.toks) hk
      exact ⟨s1.heap.objs.size + 1, [s1.heap.objs.size + 1, s1.heap.objs.size], _, _, H1, rfl, I2, turn_enumT a (s1.heap.objs.size + 1) s1.heap.objs.size (Nat.ne_of_lt hal), ⟨⟨.none, he⟩, hit, Nat.succ_ne_self _, Nat.ne_of_gt (Nat.lt_succ_of_lt hal)⟩, fun b hb => I1.fpOk (fpk b hb) (I1.hok.fresh (fpk b hb)), q⟩
/-- (i, item) for each item -/
def enD (i : Nat) : List D → List D
  | [] => []
  | d :: ds => .tup [.int (i : Nat), d] :: enD (i + 1) ds
theorem enD_length : ∀ (ds : List D) (i : Nat), (enD i ds).length = ds.length
  | [], _ => rfl
  | _ :: ds, i => congrArg Nat.succ (enD_length ds (i + 1))
theorem enD_get : ∀ {ds : List D} {j i : Nat} {d : D}, (enD j ds)[i]? = some d → ∃ d', ds[i]? = some d' ∧ d = .tup [.int ((j + i : Nat) : Int), d']
  | [], _, _, _, h => by simp [enD] at h
  | x :: ds, j, 0, d, h => by
    simp [enD] at h
    exact ⟨x, rfl, h.symm⟩
  | x :: ds, j, i + 1, d, h => by
    have h' : (enD (j + 1) ds)[i]? = some d := by simpa [enD] using h
    obtain ⟨d', e1, e2⟩ := enD_get h'
    exact ⟨d', by simpa using e1, by rw [e2]; congr 4; omega⟩
theorem walks_enL {K : PySem.W.Frag} {S : Hp} {a : Addr} {xs : List V} {ds : List D} (h : SqL K S a xs) (r : Reps K S ds xs) : Walks K (Ite K a) S (enD 0 ds) := by
  have l := r.length
  have l2 := enD_length ds 0
  refine ⟨fun i H S' hi s1 s2 => ⟨xs, xs[i]'(by omega), L2.Same.seq (s1.trans s2) h, by simp⟩, fun H S' s1 s2 => ⟨xs, L2.Same.seq (s1.trans s2) h, by omega⟩, fun i d x H H' S' hd s1 s2 y => ?_⟩
  obtain ⟨T, x', rfl, hT, rfl, y⟩ := y
  obtain ⟨d', e1, rfl⟩ := enD_get hd
  obtain ⟨v, e2, r1⟩ := r.get e1
  have e3 := y xs (L2.Same.seq (s1.trans s2) h)
  rw [e2] at e3
  cases e3
  refine .inr ⟨T, _, hT, rfl, T, [.int ((i : Nat) : Int), x'], rfl, .inl (.inl upd_same), ?_⟩
  have hu : Same S' (upd S' T (.tup [.int ((i : Nat) : Int), x'])) := fun b o e => by
    have hb : b ≠ T := fun z => by rw [z] at e; have := s2 _ _ e; rw [hT] at this; cases this
    rw [upd_ne hb]; exact e
  exact ⟨by rw [Nat.zero_add]; rfl, (r1.mono s1).mono hu, trivial⟩
theorem walks_enT {K : PySem.W.Frag} {S : Hp} {a : Addr} {xs : List V} {ds : List D} (h : SqT K S a xs) (r : Reps K S ds xs) : Walks K (IteT K a) S (enD 0 ds) := by
  have l := r.length
  have l2 := enD_length ds 0
  refine ⟨fun i H S' hi s1 s2 => ⟨xs, xs[i]'(by omega), DL.Same.tup (s1.trans s2) h, by simp⟩, fun H S' s1 s2 => ⟨xs, DL.Same.tup (s1.trans s2) h, by omega⟩, fun i d x H H' S' hd s1 s2 y => ?_⟩
  obtain ⟨T, x', rfl, hT, rfl, y⟩ := y
  obtain ⟨d', e1, rfl⟩ := enD_get hd
  obtain ⟨v, e2, r1⟩ := r.get e1
  have e3 := y xs (DL.Same.tup (s1.trans s2) h)
  rw [e2] at e3
  cases e3
  refine .inr ⟨T, _, hT, rfl, T, [.int ((i : Nat) : Int), x'], rfl, .inl (.inl upd_same), ?_⟩
  have hu : Same S' (upd S' T (.tup [.int ((i : Nat) : Int), x'])) := fun b o e => by
    have hb : b ≠ T := fun z => by rw [z] at e; have := s2 _ _ e; rw [hT] at this; cases this
    rw [upd_ne hb]; exact e
  exact ⟨by rw [Nat.zero_add]; rfl, (r1.mono s1).mono hu, trivial⟩
@[reducible] def iEnD (t : DTA) : DTI := fun env M Q => t env M fun ds env1 M1 => match ds with
  | [d] => (match seqD d with
    | some es => Q (enD 0 es) env1 M1
    | none => False)
  | _ => False
theorem i_enum {X : Cx} {e : Expr} {t : DTA} {p pos tpos : Pos} {elts : List Expr} {kk : Nat} (hg : Gl X "enumerate") (hm : X.mg "enumerate" = none) (ha : DA X [e] t) (hs : starEach [e] X.env = [(false, eval e X.env)] := by rfl) :
    DI X (.Tuple elts kk tpos) (.Call (.Name "enumerate" p) [e] [] pos) (iEnD t) := by
  refine pi_imp (pi_enumA hg hm ha hs) fun σ H R' ⟨F, S, env, M, Qd, R, t, p⟩ => ⟨F, S, env, M, _, R, t, fun vs H' S' env' M' ds s' R1 r q => ?_⟩
  cases ds with
  | nil => exact q.elim
  | cons d rs =>
    cases rs with
    | cons _ _ => exact q.elim
    | nil =>
      obtain ⟨v, rfl, rv⟩ := r.one
      have q' : (match seqD d with
        | some es => Qd (enD 0 es) env' M'
        | none => False) := q
      cases d with
      | lst es =>
        obtain ⟨a, xs, rfl, h, t1⟩ := rv
        exact ⟨a, rfl, .inl ⟨xs, .of (R1.c.same _ _ h), p _ H' S' env' M' _ s' R1 (walks_enL (.of h) t1) q'⟩⟩
      | lstK es =>
        obtain ⟨a, xs, rfl, h, t1⟩ := rv
        exact ⟨a, rfl, .inl ⟨xs, L2.Same.seq R1.c.same h, p _ H' S' env' M' _ s' R1 (walks_enL h t1) q'⟩⟩
      | tup es =>
        obtain ⟨a, xs, rfl, h, t1⟩ := rv
        exact ⟨a, rfl, .inr ⟨xs, DL.Same.tup R1.c.same h, p _ H' S' env' M' _ s' R1 (walks_enT h t1) q'⟩⟩
      | _ => exact q'.elim
end DL
set_option Elab.async false
set_option linter.all false
set_option maxRecDepth 100000
set_option maxHeartbeats 1000000
/-! DL12: lists that change, held by other things; star; defaults; what is never reached. -/
namespace DL
open PySem PySem.Spec PyProof.Rows L2

/-! ### lists that change -/
theorem Rel.sealM {K : PySem.W.Frag} {F S H : Hp} {M : Mem} {σ : L2.St} {env : Ev} {a : Addr} {ds : List D} (R : Rel K F S σ H env M) (n : NewAt K F S σ H env M a ds) : Rel K F S σ H env (mset M a (.lst ds)) := by
  refine ⟨⟨R.c.same, fun b o e => ?_, fun b o e => ?_⟩, R.len, R.val, fun i es hi => ?_, R.dis⟩
  · have hb : b ≠ a := fun z => by rw [z, n.f] at e; cases e
    obtain ⟨h1, h2, h3⟩ := R.c.fr b o e
    exact ⟨h1, h2, by rw [mset_ne hb]; exact h3⟩
  · by_cases hb : b = a
    · subst hb
      rw [mset_same] at e
      cases e
      exact ⟨n.s, n.ex⟩
    · rw [mset_ne hb] at e
      exact R.c.mem b o e
  · obtain ⟨b, xs, e1, e2, e3, e4, e5, r⟩ := R.own i es hi
    have hb : b ≠ a := fun z => by rw [z] at e1; exact n.o i es hi e1
    exact ⟨b, xs, e1, e2, e3, by rw [mset_ne hb]; exact e4, e5, r⟩
@[reducible] def dNewM (t : DTN) : DT := fun env M Q => t env M fun ds env1 M1 => ∀ a, M1 a = none → Q (.ref a) env1 (mset M1 a (.lst ds))
section
variable {X : Cx} {e a b o i value : Expr} {te : DTN} {ta tb to ti tv : DT} {pos pos' p : Pos}
theorem d_newM (h : DN X e te) : DE X e (dNewM te) := pe_imp h fun σ H Q ⟨F, S, env, M, Qd, R, t, p⟩ => ⟨F, S, env, M, _, R, t, fun a H' S' env' M' ds s' R' n q =>
  p (.ref a) H' S' env' _ (.ref a) s' (R'.sealM n) rfl (q a n.m)⟩
/-- xs[i], xs may be one that changes -/
@[reducible] def rdIxM : RD2 := fun d e env M Q => match d with
  | .ref a => (match M a with
    | some (.lst ds) => (match e with
      | .int i => (match atI ds i with
        | some r => Q r env M
        | none => False)
      | _ => False)
    | _ => False)
  | _ => rdIx d e env M Q
theorem d_ixM (ha : DE X a ta) (hb : DE X b tb) (hs : PlainIx b := by exact fun _ _ => rfl) : DE X (.Subscript a b pos) (dBin rdIxM ta tb) := by
  refine pe_imp (pe_ix ix_seq ha hb hs) fun σ H Q q => lift2 (r := rIx X.K) (fun F S σ H env M x y d e Qd Q R r1 r2 q p => ?_) q
  have old : rdIx d e env M Qd → rIx X.K x y H Q := fun q => by
    unfold rdIx at q
    cases e with
    | int i =>
      cases r2
      have seq : ∀ ds, seqD d = some ds → (match atI ds i with | some r => Qd r env M | none => False) → rIx X.K x (.int i) H Q := fun ds hd q => by
        obtain ⟨p1, xs, rfl, h, t⟩ := rep_seq R.c.same hd r1
        cases he : atI ds i with
        | none => rw [he] at q; exact q.elim
        | some r =>
          rw [he] at q
          obtain ⟨v, e1, r'⟩ := reps_atI t he
          have fin := p v H S env M r (Same.refl _) R r' q
          rcases h with h | h
          · exact .inl ⟨p1, xs, i, v, rfl, rfl, h, e1, fin⟩
          · exact .inr (.inl ⟨p1, xs, i, v, rfl, rfl, h, e1, fin⟩)
      cases d with
      | str z =>
        cases r1
        obtain ⟨hz, q⟩ := q
        cases he : atI z.cps.toList i with
        | none => rw [he] at q; exact q.elim
        | some c =>
          rw [he] at q
          exact .inr (.inr ⟨z, i, c, rfl, rfl, hz, he, p _ H S env M (.str ⟨#[c]⟩) (Same.refl _) R rfl q⟩)
      | tup ds => exact seq ds rfl q
      | lst ds => exact seq ds rfl q
      | lstK ds => exact seq ds rfl q
      | _ => exact q.elim
    | _ => exact q.elim
  cases d with
  | ref a1 =>
    unfold rdIxM at q
    cases hm : M a1 with
    | none => simp only [hm] at q
    | some mo =>
      cases mo with
      | lst ds =>
        simp only [hm] at q
        cases e with
        | int i =>
          cases r2
          cases r1
          obtain ⟨_, xs, hx, t⟩ := R.c.mem a1 _ hm
          cases he : atI ds i with
          | none => simp only [he] at q
          | some r =>
            simp only [he] at q
            obtain ⟨v, e1, r'⟩ := reps_atI (t.mono R.c.same) he
            obtain ⟨v2, e2, r2'⟩ := reps_atI t he
            rw [e1] at e2
            cases e2
            exact .inl ⟨a1, xs, i, v, rfl, rfl, .of hx, e1, p v H S env M r (Same.refl _) R r2' q⟩
        | _ => simp only at q
      | _ => simp only [hm] at q
  | _ => exact old q
/-- xs[i] = v, xs one that changes -/
@[reducible] def gSubM (to ti : DT) : DTG := fun d env M Q => to env M fun o env1 M1 => ti env1 M1 fun k env2 M2 => match o with
  | .ref a => (match M2 a with
    | some (.lst ds) => (match k with
      | .int j => (match ixN ds.length j with
        | some n => Q env2 (mset M2 a (.lst (ds.set n d)))
        | none => False)
      | _ => False)
    | _ => False)
  | _ => False
theorem g_subM (ho : DE X o to) (hi : DE X i ti)
    (ha : ∀ v, assign (.Subscript o i pos) X.env v = (do
      let ov ← holding [v] (eval o X.env)
      let iv ← holding [v, ov] (eval i X.env)
      standAt pos
      holding [v, ov, iv] (setItem ov iv v)
      release [v, ov, iv] []) := by intro _; rfl) : DG X (.Subscript o i pos) (gSubM to ti) := by
  refine pg_imp (pg_sub ho hi set_list ha) fun v σ H Q ⟨F, S, env, M, d, Qd, R, r, t, p⟩ => ⟨F, S, env, M, _, R, t, fun x H1 S1 env1 M1 d1 s1 R1 r1 q1 => ⟨F, S1, env1, M1, _, R1, q1, fun y H2 S2 env2 M2 d2 s2 R2 r2 q2 => ?_⟩⟩
  cases d1 with
  | ref a =>
    cases r1
    cases hm : M2 a with
    | none => simp only [hm] at q2
    | some mo =>
      cases mo with
      | lst ds =>
        simp only [hm] at q2
        cases d2 with
        | int j =>
          cases r2
          obtain ⟨_, xs, hx, tx⟩ := R2.c.mem a _ hm
          simp only at q2
          cases hj : ixN ds.length j with
          | none => simp only [hj] at q2
          | some n =>
            simp only [hj] at q2
            refine ⟨a, xs, j, n, rfl, rfl, hx, by rw [← tx.length]; exact hj, ?_⟩
            exact p σ _ S2 env2 _ (s1.trans s2) (R2.setM (m' := .lst (ds.set n d)) hm ⟨_, upd_same, tx.set n (r.mono (s1.trans s2))⟩) q2
        | _ => simp only at q2
      | _ => simp only [hm] at q2
  | _ => simp only at q2
end

/-! ### what is never reached -/
@[reducible] def dNever : DT := fun _ _ _ => False
@[reducible] def sNever : DTS := fun _ _ _ => False
theorem d_never {X : Cx} {e : Expr} : DE X e dNever := ⟨fun pins s σ H Q I ⟨F, S, env, M, Qd, R, t, p⟩ => t.elim⟩
theorem s_never {X : Cx} {st : Stmt} : DS X st sNever := ⟨fun pins s σ H D I ⟨F, S, env, M, Qd, R, t, p⟩ => t.elim⟩

/-! ### (*xs, y) -/
@[reducible] def dStar (te : DT) (t : DTA) : DTA := fun env M Q => te env M fun d env1 M1 => match seqD d with
  | some es => t env1 M1 fun ds env2 M2 => Q (es ++ ds) env2 M2
  | none => False
theorem a_star {X : Cx} {e : Expr} {es : List Expr} {te : DT} {t : DTA} {p : Pos} (he : DE X e te) (hr : DA X es t) (hs : starEach (.Starred e p :: es) X.env = (true, eval e X.env) :: starEach es X.env := by rfl) : DA X (.Starred e p :: es) (dStar te t) := by
  refine ⟨fun pos pins s σ H Q I q => (StX.pa_star he hr hs).run pos pins s σ H Q I ?_⟩
  obtain ⟨F, S, env, M, Qd, R, t, p⟩ := q
  refine ⟨F, S, env, M, _, R, t, fun v H' S' env' M' d s' R' r q => ?_⟩
  cases hd : seqD d with
  | none => simp only [hd] at q
  | some ds =>
    simp only [hd] at q
    obtain ⟨a, xs, rfl, h, t1⟩ := rep_seq R'.c.same hd r
    exact ⟨a, xs, rfl, h.symm, F, S', env', M', _, R', q, fun ys H2 S2 env2 M2 es2 s2 R2 r2 q2 => p _ H2 S2 env2 M2 _ (s'.trans s2) R2 ((t1.mono s2).append r2) q2⟩

/-! ### -x -/
@[reducible] def dNeg (ta : DT) : DT := fun env M Q => ta env M fun d env1 M1 => match d with
  | .int i => Q (.int (-i)) env1 M1
  | _ => False
theorem d_neg {X : Cx} {a : Expr} {ta : DT} {pos : Pos} (ha : DE X a ta) : DE X (.UnaryOp .USub a pos) (dNeg ta) :=
  pe_imp (pe_un un_neg ha) fun σ H Q ⟨F, S, env, M, Qd, R, t, p⟩ => ⟨F, S, env, M, _, R, t, fun v H' S' env' M' d s' R' r q => by
    cases d with
    | int i => cases r; exact ⟨i, rfl, p _ H' S' env' M' (.int (-i)) s' R' rfl q⟩
    | _ => exact q.elim⟩

/-! ### range downwards -/
def dnD (hi : Int) (n : Nat) : List D := (List.range n).map fun k => .int (hi - (k : Nat))
theorem walks_dn {K : PySem.W.Frag} {S : Hp} (hi : Int) (n : Nat) : Walks K (Itc hi (-1) n) S (dnD hi n) := by
  have l : (dnD hi n).length = n := by unfold dnD; rw [List.length_map, List.length_range]
  refine ⟨fun i H S' hi _ _ => by show i < n; omega, fun H S' _ _ => by show n ≤ _; omega, fun i d x H H' S' hd s1 s2 y => ?_⟩
  obtain ⟨rfl, rfl⟩ := y
  unfold dnD at hd
  rw [List.getElem?_map] at hd
  by_cases h : i < n
  · rw [List.getElem?_range h] at hd
    cases hd
    refine .inl ⟨rfl, ?_⟩
    show V.int _ = V.int _
    congr 1
    omega
  · rw [List.getElem?_eq_none_iff.mpr (by rw [List.length_range]; omega)] at hd
    cases hd
@[reducible] def iDn (t : DTA) : DTI := fun env M Q => t env M fun ds env1 M1 => match ds with
  | [.int i, .int j, .int k] => k = -1 ∧ i62 i ∧ i62 j ∧ Q (dnD i (i - j).toNat) env1 M1
  | _ => False
theorem i_dn {X : Cx} {tg a b c : Expr} {t : DTA} {p pos : Pos} (hg : Gl X "range") (hm : X.mg "range" = none) (ha : DA X [a, b, c] t)
    (hs : starEach [a, b, c] X.env = (false, eval a X.env) :: starEach [b, c] X.env := by rfl) (hpl : (backTo pos (starEach [b, c] X.env)).any (·.1) = false := by rfl) : DI X tg (.Call (.Name "range" p) [a, b, c] [] pos) (iDn t) := by
  refine pi_imp (pi_range3 hg hm ha hs hpl) fun σ H R' ⟨F, S, env, M, Qd, R, t, p⟩ => ⟨F, S, env, M, _, R, t, fun vs H' S' env' M' ds s' R1 r q => ?_⟩
  unfold iDn at q
  split at q
  · rename_i i j k
    obtain ⟨rfl, hi, hj, q⟩ := q
    obtain ⟨v, us, rfl, r1, r2⟩ := r.cons_inv
    obtain ⟨v2, v3, rfl, r3, r4⟩ := r2.two
    cases r1
    cases r3
    cases r4
    exact ⟨i, j, -1, _, rfl, RgC.neg hi.1 hi.2 hj.1 hj.2, p _ H' S' env' M' _ s' R1 (walks_dn i _) q⟩
  · exact q.elim

/-! ### things forgotten -/
theorem RelC.less {K : PySem.W.Frag} {F S H : Hp} {M M0 : Mem} (R : RelC K F S H M) (h : ∀ a o, M0 a = some o → M a = some o) : RelC K F S H M0 :=
  ⟨R.same, fun a o e => ⟨(R.fr a o e).1, (R.fr a o e).2.1, by
    cases z : M0 a with
    | none => rfl
    | some m => have := h a m z; rw [(R.fr a o e).2.2] at this; cases this⟩, fun a o e => R.mem a o (h a o e)⟩
/-- what it made and keeps to itself may be left behind -/
theorem Fn.forget {P : Program} {w : World} {K : PySem.W.Frag} {mg : Str → Option Value} {base : Heap} {k : Nat} {x : Str} {ps : List Str} {sp : DSp} (h : Fn P w K mg base k x ps sp) :
    Fn P w K mg base k x ps (fun ds M Q E => sp ds M (fun d M' => ∃ M0 : Mem, (∀ a o, M0 a = some o → M' a = some o) ∧ Q d M0) E) := by
  obtain ⟨f, fd, G, r⟩ := h.ex
  refine ⟨⟨f, fd, G.imp fun vs H Q E ⟨F, S, ds, M, Qd, Ed, c, rr, q, p, px⟩ => ⟨F, S, ds, M, _, Ed, c, rr, q, fun v H' S' M' d s' c' r' ⟨M0, hm, q'⟩ => p v H' S' M0 d s' (c'.less hm) r' q', px⟩, r⟩⟩

/-! ### defs with defaults -/
structure Fn1 (P : Program) (w : World) (K : PySem.W.Frag) (mg : Str → Option Value) (base : Heap) (k : Nat) (x : Str) (ps : List Str) (dds : List D) (sp : DSp) : Prop where
  ex : ∃ f fd dvs dl, FnOk P w K mg base CX0 k f fd ps (LSp K sp) ∧ mg x = some (.ref f) ∧ PySem.W.keepIn K (.ref f) = true ∧ Binds K fd ps [] ∧ Binds K fd ps dl ∧ Vals dvs dl ∧ ∀ S, Reps K S dds dvs
theorem Fn1.fn {P : Program} {w : World} {K : PySem.W.Frag} {mg : Str → Option Value} {base : Heap} {k : Nat} {x : Str} {ps : List Str} {dds : List D} {sp : DSp} (h : Fn1 P w K mg base k x ps dds sp) : Fn P w K mg base k x ps sp := by
  obtain ⟨f, fd, dvs, dl, G, hm, hk, hb, _⟩ := h.ex
  exact ⟨⟨f, fd, G, hm, hk, hb⟩⟩
theorem Fn1.of {P : Program} {w : World} {K : PySem.W.Frag} {mg : Str → Option Value} {base : Heap} {k j : Nat} {x : Str} {ps : List Str} {dds : List D} {sp sp' : DSp} (h : Fn1 P w K mg base k x ps dds sp) (l : k ≤ j) (i : ∀ ds M Q E, sp' ds M Q E → sp ds M Q E) : Fn1 P w K mg base j x ps dds sp' := by
  obtain ⟨f, fd, dvs, dl, G, r⟩ := h.ex
  exact ⟨⟨f, fd, dvs, dl, (G.mono l).imp (LSp.imp i), r⟩⟩
theorem Fn1.forget {P : Program} {w : World} {K : PySem.W.Frag} {mg : Str → Option Value} {base : Heap} {k : Nat} {x : Str} {ps : List Str} {dds : List D} {sp : DSp} (h : Fn1 P w K mg base k x ps dds sp) :
    Fn1 P w K mg base k x ps dds (fun ds M Q E => sp ds M (fun d M' => ∃ M0 : Mem, (∀ a o, M0 a = some o → M' a = some o) ∧ Q d M0) E) := by
  obtain ⟨f, fd, dvs, dl, G, r⟩ := h.ex
  exact ⟨⟨f, fd, dvs, dl, G.imp fun vs H Q E ⟨F, S, ds, M, Qd, Ed, c, rr, q, p, px⟩ => ⟨F, S, ds, M, _, Ed, c, rr, q, fun v H' S' M' d s' c' r' ⟨M0, hm, q'⟩ => p v H' S' M0 d s' (c'.less hm) r' q', px⟩, r⟩⟩
/-- a def with defaults as it stands behind the top -/
structure DefAt1 (K : PySem.W.Frag) (mg : Str → Option Value) (x : Str) (ps : List Str) (dds : List D) (st : Stmt) : Prop where
  ex : ∃ f fd dvs dl, FunD K x x (defArgs st) (defBody st) (defScope st) dvs [] f fd ∧ mg x = some (.ref f) ∧ PySem.W.keepIn K (.ref f) = true ∧ Binds K fd ps [] ∧ Binds K fd ps dl ∧ Vals dvs dl ∧ ∀ S, Reps K S dds dvs
theorem Fn1.vac {P : Program} {w : World} {K : PySem.W.Frag} {mg : Str → Option Value} {base : Heap} {k : Nat} {x : Str} {ps : List Str} {dds : List D} {st : Stmt} {sp : DSp} (G : DefAt1 K mg x ps dds st) (h : ∀ ds M Q E, ¬ sp ds M Q E) : Fn1 P w K mg base k x ps dds sp := by
  obtain ⟨f, fd, dvs, dl, F, r⟩ := G.ex
  exact ⟨⟨f, fd, dvs, dl, ⟨fun vs H Q E ⟨_, _, ds, M, _, _, _, _, q, _⟩ => (h _ _ _ _ q).elim, fun A outer s H args us vs Q E _ _ _ _ ⟨_, _, ds, M, _, _, _, _, q, _⟩ => (h _ _ _ _ q).elim⟩, r⟩⟩
theorem okF1 {P : Program} {w : World} {K : PySem.W.Frag} {mg : Str → Option Value} {base : Heap} {x : Str} {st : Stmt} {N ps : List Str} {dds : List D} {k : Nat} {sp : DSp} (G : DefAt1 K mg x ps dds st) (S : FnScope N ps (defScope st)) (len : ∀ ds M Q E, sp ds M Q E → ds.length = ps.length)
    (hbody : ∀ (f : Addr) (cdv : Value) (A : Around) (outer : List Env) (s : Shared) (H : Hp) (E : XK), Room k (A.deeper (envOfC x (defScope st) s.heap.objs.size f cdv)) →
      ∃ t, DSs (cxOf CX0 P w K mg base N x (defScope st) f cdv A outer s H E).nox (defBody st) t ∧ ∀ ds M Q Ed, sp ds M Q Ed → t { nx := fun _ M' => Q .non M', rt := Q } (startD N ds) M) : Fn1 P w K mg base (k + 1) x ps dds sp := by
  obtain ⟨f, fd, dvs, dl, F, r⟩ := G.ex
  exact ⟨⟨f, fd, dvs, dl, okD F S len (hbody f), r⟩⟩
section
variable {X : Cx} {k : Nat} {ps : List Str} {dds : List D} {sp : DSp} {x : Str} {p pos : Pos} {e : Expr} {es : List Expr} {t : DTA}
/-- x(..), the last parameters left to their defaults -/
theorem d_callF1 (h : Fn1 X.prog X.w X.K X.mg X.base k x ps dds sp) (hr : Room k X.A) (ha : DA X (e :: es) t) (hg : Gl X x := by rfl) (hdb : (x == ("__debug__" : Str)) = false := by decide) (he : starEach (e :: es) X.env = (false, eval e X.env) :: starEach es X.env := by rfl) (hpl : (backTo pos (starEach es X.env)).any (·.1) = false := by rfl) :
    DE X (.Call (.Name x p) (e :: es) [] pos) (dCall sp dds t) := by
  obtain ⟨f, fd, dvs, dl, G, hm, hk, hb0, hb, hv, hd⟩ := h.ex
  exact d_call G hr hg hm hk hb hv hd pass0 ha hdb he hpl
end
end DL
set_option Elab.async false
set_option linter.all false
set_option maxRecDepth 100000
set_option maxHeartbeats 1000000
/-! DL13: parts of ways, nodes, tables: plain. -/
namespace DL
open PySem PySem.Spec PyProof.Rows L2

/-! ### parts with paths -/
mutual
def WT.parts (p : List Nat) : WT → List (List Nat × WT)
  | .un k v => (p, .un k v) :: WT.parts (p ++ [0]) v
  | .many c ws => (p, .many c ws) :: WT.partsL p 0 ws
  | .nothing => [(p, .nothing)]
  | .one => [(p, .one)]
  | .letter s => [(p, .letter s)]
  | .call s => [(p, .call s)]
def WT.partsL (p : List Nat) (i : Nat) : List WT → List (List Nat × WT)
  | [] => []
  | w :: ws => WT.parts (p ++ [i]) w ++ WT.partsL p (i + 1) ws
end
theorem WT.parts_eq (p : List Nat) (w : WT) : w.parts p = (p, w) :: WT.partsL p 0 w.inner := by
  cases w <;> simp only [WT.parts, WT.inner, WT.partsL, List.append_nil]
@[reducible] def pathD (p : List Nat) : D := .tup (p.map fun n => .int (n : Nat))
@[reducible] def ptD (W : WA) (q : List Nat × WT) : D := .tup [pathD q.1, q.2.o W]
mutual
theorem WT.parts_length (p : List Nat) : ∀ w : WT, (w.parts p).length = w.size
  | .un k v => by simp only [WT.parts, WT.size, List.length_cons, WT.parts_length (p ++ [0]) v]
  | .many c ws => by simp only [WT.parts, WT.size, List.length_cons, WT.partsL_length p 0 ws]
  | .nothing => rfl
  | .one => rfl
  | .letter _ => rfl
  | .call _ => rfl
theorem WT.partsL_length (p : List Nat) (i : Nat) : ∀ ws : List WT, (WT.partsL p i ws).length = WT.sizes ws
  | [] => rfl
  | w :: ws => by simp only [WT.partsL, WT.sizes, List.length_append, WT.parts_length (p ++ [i]) w, WT.partsL_length p (i + 1) ws]
end
theorem WT.sizes_inner (w : WT) : w.size = WT.sizes w.inner + 1 := by
  cases w <;> simp only [WT.size, WT.inner, WT.sizes] <;> rfl
theorem enD_map {α : Type} (f : α → D) : ∀ (xs : List α) (i : Nat) , enD i (xs.map f) = (xs.zipIdx i).map fun q => .tup [.int (q.2 : Nat), f q.1]
  | [], _ => rfl
  | x :: xs, i => by
    rw [List.map_cons, enD, enD_map f xs (i + 1), List.zipIdx_cons, List.map_cons]
/-- a turn for each of xs, numbered -/
theorem forW_enum {α : Type} {f : α → D} {g : DTG} {tb : DTS} {E : DEnds} (Inv : Nat → List α → Ev → Mem → Prop) (h0 : ∀ i env M, Inv i [] env M → E.nx env M)
    (hs : ∀ i a r (R : Ev → Mem → Prop), (∀ env M, Inv (i + 1) r env M → R env M) → ∀ env M, Inv i (a :: r) env M → g (.tup [.int (i : Nat), f a]) env M fun e1 M1 => tb { E with nx := R, ct := R, bk := E.nx } e1 M1) :
    ∀ (xs : List α) i env M, Inv i xs env M → forW g tb E (enD i (xs.map f)) env M
  | [], i, env, M, h => h0 i env M h
  | a :: r, i, env, M, h => hs i a r _ (fun env M h => forW_enum Inv h0 hs r (i + 1) env M h) env M h
/-- a turn for each of xs -/
theorem forW_list {α : Type} {f : α → D} {g : DTG} {tb : DTS} {E : DEnds} (Inv : List α → Ev → Mem → Prop) (h0 : ∀ env M, Inv [] env M → E.nx env M)
    (hs : ∀ a r (R : Ev → Mem → Prop), (∀ env M, Inv r env M → R env M) → ∀ env M, Inv (a :: r) env M → g (f a) env M fun e1 M1 => tb { E with nx := R, ct := R, bk := E.nx } e1 M1) :
    ∀ (xs : List α) env M, Inv xs env M → forW g tb E (xs.map f) env M
  | [], env, M, h => h0 env M h
  | a :: r, env, M, h => hs a r _ (fun env M h => forW_list Inv h0 hs r env M h) env M h
def spParts (W : WA) (S : Nat) : DSp := fun ds M Q _ => ∃ (v : WT) (p : List Nat), ds = [v.o W, pathD p] ∧ v.size ≤ S ∧ v.size + p.length < 1000000 ∧ Q (.lst ((v.parts p).map (ptD W))) M
def WT.calls (w : WT) : List Str := ((w.parts []).filter fun q => q.2.word == ("call" : Str)).map fun q => q.2.sign
def spCalls (W : WA) (S : Nat) : DSp := fun ds M Q _ => ∃ (v : WT), ds = [v.o W] ∧ v.size ≤ S ∧ v.size < 100000 ∧ Q (.lst (v.calls.map D.str)) M
end DL
namespace DL
open PySem PySem.Spec PyProof.Rows L2
/-- [g(a) for a in xs if q(a)] -/
theorem lcW_filter {α : Type} {tg : DTG} {tt : DTT} {te : DT} {vs : List Nat} {Q : KN} {f g : α → D} {q : α → Bool} {be : Ev} {M : Mem} (P : α → Prop)
    (hs : ∀ a (R1 : D → Ev → Mem → Prop) (R0 : Ev → Mem → Prop), P a → (q a = true → ∀ e4, wipeD e4 vs = be → R1 (g a) e4 M) → (q a = false → ∀ e4, wipeD e4 vs = be → R0 e4 M) →
      tg (f a) be M fun e2 M2 => tt e2 M2 fun b e3 M3 => match b with
        | true => te e3 M3 R1
        | false => R0 e3 M3) : ∀ (xs : List α) acc, (∀ a ∈ xs, P a) → acc.length + xs.length ≤ sizeLine → Q (acc ++ (xs.filter q).map g) be M → lcW tg tt te vs (xs.map f) acc be M Q
  | [], acc, _, _, k => by rw [List.filter_nil, List.map_nil, List.append_nil] at k; exact k
  | d :: r, acc, hp, hz, k => by
    rw [List.length_cons] at hz
    show tg (f d) be M fun e2 M2 => tt e2 M2 fun b e3 M3 => match b with
      | true => te e3 M3 fun y e4 M4 => acc.length < sizeLine ∧ lcW tg tt te vs (r.map f) (acc ++ [y]) (wipeD e4 vs) M4 Q
      | false => lcW tg tt te vs (r.map f) acc (wipeD e3 vs) M3 Q
    refine hs d (fun y e4 M4 => acc.length < sizeLine ∧ lcW tg tt te vs (r.map f) (acc ++ [y]) (wipeD e4 vs) M4 Q) (fun e3 M3 => lcW tg tt te vs (r.map f) acc (wipeD e3 vs) M3 Q) (hp d List.mem_cons_self) (fun hq e4 h4 => ⟨by omega, ?_⟩) (fun hq e4 h4 => ?_)
    · rw [h4]
      refine lcW_filter P hs r (acc ++ [g d]) (fun x hx => hp x (List.mem_cons_of_mem _ hx)) (by rw [List.length_append, List.length_singleton]; omega) ?_
      rw [List.filter_cons, if_pos hq, List.map_cons] at k
      rw [List.append_assoc]
      exact k
    · rw [h4]
      refine lcW_filter P hs r acc (fun x hx => hp x (List.mem_cons_of_mem _ hx)) (by omega) ?_
      rw [List.filter_cons, if_neg (by rw [hq]; decide)] at k
      exact k
theorem okEq_tx {l : List Nat} (h : ∀ c ∈ l, c < 1114112) : okEq (.str (tx l)) := by
  refine okEq_flat ?_
  show (l.toArray.all fun x => decide (x < 0x110000)) = true
  simp
  exact h
def spCheck (W : WA) (S : Nat) : DSp := fun ds M Q _ => ∃ (ws : List WT), ds = [.lst (ws.map (WT.o W))] ∧ (∀ v ∈ ws, v.size ≤ S ∧ v.size < 100000 ∧ v.calls = []) ∧ Q .non M
theorem word_beq (v : WT) : (v.word == ("call" : Str)) = (match v with | .call _ => true | _ => false) := by
  cases v with
  | nothing => exact (by decide +kernel : ((("nothing" : Str)) == ("call" : Str)) = false)
  | one => exact (by decide +kernel : ((("one" : Str)) == ("call" : Str)) = false)
  | letter s => exact (by decide +kernel : ((("letter" : Str)) == ("call" : Str)) = false)
  | call s => exact (by decide +kernel : ((("call" : Str)) == ("call" : Str)) = true)
  | un k w =>
    cases k
    · exact (by decide +kernel : ((("again" : Str)) == ("call" : Str)) = false)
    · exact (by decide +kernel : ((("maybe" : Str)) == ("call" : Str)) = false)
    · exact (by decide +kernel : ((("ahead" : Str)) == ("call" : Str)) = false)
    · exact (by decide +kernel : ((("unless" : Str)) == ("call" : Str)) = false)
  | many c ws =>
    cases c
    · exact (by decide +kernel : ((("row" : Str)) == ("call" : Str)) = false)
    · exact (by decide +kernel : ((("choice" : Str)) == ("call" : Str)) = false)
theorem okEq_word (v : WT) : okEq (.str v.word) := by
  refine okEq_flat ?_
  cases v with
  | nothing => exact (by decide +kernel : flatOk (.str ("nothing" : Str)) = true)
  | one => exact (by decide +kernel : flatOk (.str ("one" : Str)) = true)
  | letter s => exact (by decide +kernel : flatOk (.str ("letter" : Str)) = true)
  | call s => exact (by decide +kernel : flatOk (.str ("call" : Str)) = true)
  | un k w =>
    cases k
    · exact (by decide +kernel : flatOk (.str ("again" : Str)) = true)
    · exact (by decide +kernel : flatOk (.str ("maybe" : Str)) = true)
    · exact (by decide +kernel : flatOk (.str ("ahead" : Str)) = true)
    · exact (by decide +kernel : flatOk (.str ("unless" : Str)) = true)
  | many c ws =>
    cases c
    · exact (by decide +kernel : flatOk (.str ("row" : Str)) = true)
    · exact (by decide +kernel : flatOk (.str ("choice" : Str)) = true)
theorem ts_oneK {X : Cx} {K : PySem.W.Frag} {c : Expr} {tc : DTT} (h : DTst X c tc) (hK : X.K = K := by rfl) : PTs X [c] (LT K tc) := by
  subst hK
  exact ts_one h
end DL
namespace DL
open PySem PySem.Spec PyProof.Rows L2
theorem d_fldK {X : Cx} {e : Expr} {f : Str} {pos : Pos} {te : DT} {K : PySem.W.Frag} (he : DE X e te) (hK : X.K = K := by rfl) (hb : attributeBase e f X.env (eval e X.env) = eval e X.env := by rfl) : DE X (.Attribute e f pos) (dFld K te f) := by
  subst hK
  exact d_fld he hb
end DL
set_option Elab.async false
set_option linter.all false
set_option maxRecDepth 100000
set_option maxHeartbeats 1000000
/-! DL14: what a way takes of a text: plain. -/
namespace DL
open PySem PySem.Spec PyProof.Rows L2

def tkAgain (f : Nat → Option Nat) : Nat → Nat → Nat
  | 0, _ => 0
  | n + 1, p => match f p with
    | some (t + 1) => (t + 1) + tkAgain f n (p + (t + 1))
    | _ => 0
mutual
def tk (l : List Nat) : WT → Nat → Option Nat
  | .nothing, _ => some 0
  | .one, p => if p < l.length then some 1 else none
  | .letter s, p => (match l[p]? with
    | some c => if tx [c] = s then some 1 else none
    | none => none)
  | .call _, _ => none
  | .un .again w, p => some (tkAgain (tk l w) (l.length + 1) p)
  | .un .maybe w, p => some ((tk l w p).getD 0)
  | .un .ahead w, p => (tk l w p).map fun _ => 0
  | .un .unless w, p => (match tk l w p with
    | none => some 0
    | some _ => none)
  | .many true ws, p => tkChoice l ws p
  | .many false ws, p => tkRow l ws p
def tkRow (l : List Nat) : List WT → Nat → Option Nat
  | [], _ => some 0
  | w :: ws, p => (match tk l w p with
    | none => none
    | some t => (tkRow l ws (p + t)).map (t + ·))
def tkChoice (l : List Nat) : List WT → Nat → Option Nat
  | [], _ => none
  | w :: ws, p => (match tk l w p with
    | some t => some t
    | none => tkChoice l ws p)
end
theorem tkAgain_le {f : Nat → Option Nat} {L : Nat} (hf : ∀ p t, p ≤ L → f p = some t → p + t ≤ L) : ∀ n p, p ≤ L → p + tkAgain f n p ≤ L
  | 0, p, h => h
  | n + 1, p, h => by
    unfold tkAgain
    cases e : f p with
    | none => exact h
    | some t =>
      cases t with
      | zero => exact h
      | succ t =>
        have h1 := hf p (t + 1) h e
        have h2 := tkAgain_le hf n (p + (t + 1)) h1
        show p + ((t + 1) + tkAgain f n (p + (t + 1))) ≤ L
        omega
mutual
theorem tk_le (l : List Nat) : ∀ (w : WT) (p t : Nat), p ≤ l.length → tk l w p = some t → p + t ≤ l.length
  | .nothing, p, t, h, e => by
    rw [tk] at e; cases e; exact h
  | .one, p, t, h, e => by
    rw [tk] at e
    split at e
    · cases e; omega
    · cases e
  | .letter s, p, t, h, e => by
    rw [tk] at e
    cases hp : l[p]? with
    | none => rw [hp] at e; cases e
    | some c =>
      have := (List.getElem?_eq_some_iff.mp hp).1
      rw [hp] at e
      simp only at e
      split at e
      · cases e; omega
      · cases e
  | .call s, p, t, h, e => by
    rw [tk] at e; cases e
  | .un .again w, p, t, h, e => by
    rw [tk] at e
    cases e
    exact tkAgain_le (tk_le l w) _ p h
  | .un .maybe w, p, t, h, e => by
    rw [tk] at e
    cases hp : tk l w p with
    | none => rw [hp] at e; cases e; exact h
    | some u => rw [hp] at e; cases e; exact tk_le l w p _ h hp
  | .un .ahead w, p, t, h, e => by
    rw [tk] at e
    cases hp : tk l w p with
    | none => rw [hp] at e; cases e
    | some u => rw [hp] at e; cases e; exact h
  | .un .unless w, p, t, h, e => by
    rw [tk] at e
    cases hp : tk l w p with
    | none => rw [hp] at e; cases e; exact h
    | some u => rw [hp] at e; cases e
  | .many true ws, p, t, h, e => by
    rw [tk] at e
    exact tkChoice_le l ws p t h e
  | .many false ws, p, t, h, e => by
    rw [tk] at e
    exact tkRow_le l ws p t h e
theorem tkRow_le (l : List Nat) : ∀ (ws : List WT) (p t : Nat), p ≤ l.length → tkRow l ws p = some t → p + t ≤ l.length
  | [], p, t, h, e => by
    rw [tkRow] at e; cases e; exact h
  | w :: ws, p, t, h, e => by
    rw [tkRow] at e
    cases hp : tk l w p with
    | none => rw [hp] at e; cases e
    | some u =>
      rw [hp] at e
      have h1 := tk_le l w p u h hp
      cases hr : tkRow l ws (p + u) with
      | none => simp only [hr, Option.map_none] at e; cases e
      | some r =>
        simp only [hr, Option.map_some] at e
        cases e
        have := tkRow_le l ws (p + u) r h1 hr
        omega
theorem tkChoice_le (l : List Nat) : ∀ (ws : List WT) (p t : Nat), p ≤ l.length → tkChoice l ws p = some t → p + t ≤ l.length
  | [], p, t, h, e => by
    rw [tkChoice] at e; cases e
  | w :: ws, p, t, h, e => by
    rw [tkChoice] at e
    cases hp : tk l w p with
    | none => rw [hp] at e; exact tkChoice_le l ws p t h e
    | some u => rw [hp] at e; cases e; exact tk_le l w p _ h hp
end
/-- fuel enough is enough -/
theorem tkAgain_fuel {f : Nat → Option Nat} {L : Nat} (hf : ∀ p t, p ≤ L → f p = some t → p + t ≤ L) : ∀ n m p, p ≤ L → L < n + p → L < m + p → tkAgain f n p = tkAgain f m p
  | 0, m, p, h, h1, _ => by omega
  | n + 1, 0, p, h, _, h2 => by omega
  | n + 1, m + 1, p, h, h1, h2 => by
    unfold tkAgain
    cases e : f p with
    | none => rfl
    | some t =>
      cases t with
      | zero => rfl
      | succ t =>
        have h3 := hf p (t + 1) h e
        show (t + 1) + _ = (t + 1) + _
        rw [tkAgain_fuel hf n m (p + (t + 1)) h3 (by omega) (by omega)]
/-- a turn of again -/
theorem again_step (l : List Nat) (w : WT) {p : Nat} (h : p ≤ l.length) : tkAgain (tk l w) (l.length + 1) p = (match tk l w p with
    | some (t + 1) => (t + 1) + tkAgain (tk l w) (l.length + 1) (p + (t + 1))
    | _ => 0) := by
  conv => lhs; unfold tkAgain
  cases e : tk l w p with
  | none => rfl
  | some t =>
    cases t with
    | zero => rfl
    | succ t =>
      have h3 := tk_le l w p (t + 1) h e
      show (t + 1) + _ = (t + 1) + _
      rw [tkAgain_fuel (tk_le l w) l.length (l.length + 1) (p + (t + 1)) h3 (by omega) (by omega)]
def optD : Option Nat → D
  | none => .non
  | some t => .int (t : Nat)

/-! ### the law's own walk -/
mutual
/-- no calls; each letter a plain one -/
def WT.pln : WT → Prop
  | .letter s => PyData.strOk s = true
  | .call _ => False
  | .un _ w => w.pln
  | .many _ ws => WT.plns ws
  | _ => True
def WT.plns : List WT → Prop
  | [] => True
  | w :: ws => w.pln ∧ WT.plns ws
end
def CpOk (l : List Nat) : Prop := ∀ c ∈ l, c < 1114112
def spTake (S : Nat) : DSp := fun ds M Q _ => ∃ (v : WT) (l : List Nat) (p : Nat), ds = [v.d, .str (tx l), .int (p : Nat)] ∧ v.size ≤ S ∧ v.size < 1000 ∧ v.pln ∧ CpOk l ∧ l.length < 100000 ∧ p ≤ l.length ∧ Q (optD (tk l v p)) M
def spTakeRow (S : Nat) : DSp := fun ds M Q _ => ∃ (ws : List WT) (l : List Nat) (p : Nat), ds = [.lst (ws.map WT.d), .str (tx l), .int (p : Nat)] ∧ WT.sizes ws ≤ S ∧ WT.sizes ws < 1000 ∧ WT.plns ws ∧ CpOk l ∧ l.length < 100000 ∧ p ≤ l.length ∧ Q (optD (tkRow l ws p)) M
end DL
namespace DL
open PySem PySem.Spec PyProof.Rows L2
theorem optD_none : optD none = .non := rfl
theorem optD_some (t : Nat) : optD (some t) = .int (t : Nat) := rfl
theorem deq_bf (b : Bool) : deq (.bl b) (.bl false) = nb b := by cases b <;> rfl
theorem deq_bt (b : Bool) : deq (.bl b) (.bl true) = b := by cases b <;> rfl
end DL
namespace DL
open PySem PySem.Spec PyProof.Rows L2
/-! ### all texts of some signs -/
def nxt (sg t : List Nat) : List (List Nat) := sg.map fun c => t ++ [c]
def lvl (sg : List Nat) : Nat → List (List Nat)
  | 0 => [[]]
  | n + 1 => (lvl sg n).flatMap (nxt sg)
def textsTo (sg : List Nat) : Nat → List (List Nat)
  | 0 => [[]]
  | n + 1 => textsTo sg n ++ lvl sg (n + 1)
@[reducible] def txD (l : List Nat) : D := .str (tx l)
theorem lvl_length (sg : List Nat) : ∀ n, (lvl sg n).length = sg.length ^ n
  | 0 => rfl
  | n + 1 => by
    have : ∀ xs : List (List Nat), (xs.flatMap (nxt sg)).length = xs.length * sg.length := fun xs => by
      induction xs with
      | nil => simp
      | cons x xs ih => rw [List.flatMap_cons, List.length_append, ih, List.length_cons, nxt, List.length_map, Nat.succ_mul, Nat.add_comm]
    rw [lvl, this, lvl_length sg n, Nat.pow_succ]
theorem lvl_mem {sg t : List Nat} : ∀ {n}, t ∈ lvl sg n → t.length = n ∧ ∀ c ∈ t, c ∈ sg
  | 0, h => by
    rw [lvl, List.mem_singleton] at h
    subst h
    exact ⟨rfl, fun c hc => by cases hc⟩
  | n + 1, h => by
    rw [lvl, List.mem_flatMap] at h
    obtain ⟨u, hu, h⟩ := h
    obtain ⟨c, hc, rfl⟩ := List.mem_map.mp h
    obtain ⟨h1, h2⟩ := lvl_mem hu
    refine ⟨by rw [List.length_append, List.length_singleton, h1], fun d hd => ?_⟩
    rcases List.mem_append.mp hd with hd | hd
    · exact h2 d hd
    · rw [List.mem_singleton.mp hd]; exact hc
theorem textsTo_mem {sg t : List Nat} : ∀ {n}, t ∈ textsTo sg n → t.length ≤ n ∧ ∀ c ∈ t, c ∈ sg
  | 0, h => by
    rw [textsTo, List.mem_singleton] at h
    subst h
    exact ⟨Nat.le_refl _, fun c hc => by cases hc⟩
  | n + 1, h => by
    rw [textsTo, List.mem_append] at h
    rcases h with h | h
    · obtain ⟨h1, h2⟩ := textsTo_mem h
      exact ⟨by omega, h2⟩
    · obtain ⟨h1, h2⟩ := lvl_mem h
      exact ⟨by omega, h2⟩
theorem pow_le8 {a n : Nat} (ha : a ≤ 5) (hn : n ≤ 8) : a ^ n ≤ 390625 := by
  have h1 : a ^ n ≤ 5 ^ n := Nat.pow_le_pow_left ha n
  have h2 : 5 ^ n ≤ 5 ^ 8 := Nat.pow_le_pow_right (by decide) hn
  have h3 : (5 : Nat) ^ 8 = 390625 := by decide
  omega
theorem textsTo_length {sg : List Nat} (hs : sg.length ≤ 5) : ∀ {n}, n ≤ 8 → (textsTo sg n).length ≤ (n + 1) * 390625
  | 0, _ => by rw [textsTo, List.length_singleton]; decide
  | n + 1, h => by
    have h1 := textsTo_length hs (n := n) (by omega)
    have h2 := pow_le8 hs h
    rw [textsTo, List.length_append, lvl_length]
    omega
def spTexts : DSp := fun ds M Q _ => ∃ (sg : List Nat) (m : Nat), ds = [.str (tx sg), .int (m : Nat)] ∧ sg.length ≤ 5 ∧ m ≤ 8 ∧ Q (.lst ((textsTo sg m).map txD)) M
end DL
set_option Elab.async false
set_option linter.all false
set_option maxRecDepth 100000
set_option maxHeartbeats 1000000
/-! DL15: nodes of ways, tables. -/
namespace DL
open PySem PySem.Spec PyProof.Rows L2

structure Nd where
  word : Str
  sign : Str
  below : List Nat
@[reducible] def natsD (l : List Nat) : D := .lst (l.map fun n => .int (n : Nat))
@[reducible] def Nd.d (n : Nd) : D := .tup [.str n.word, .str n.sign, natsD n.below]
def Nd.up (k : Nat) (n : Nd) : Nd := ⟨n.word, n.sign, n.below.map (· + k)⟩
mutual
def WT.nodes : WT → List Nd
  | .nothing => [⟨"nothing", "", []⟩]
  | .one => [⟨"one", "", []⟩]
  | .letter s => [⟨"letter", s, []⟩]
  | .call s => [⟨"call", s, []⟩]
  | .un k v => v.nodes ++ [⟨k.s, "", [v.nodes.length - 1]⟩]
  | .many c ws => (WT.nodesL ws [] []).1 ++ [⟨manyS c, "", (WT.nodesL ws [] []).2⟩]
def WT.nodesL : List WT → List Nd → List Nat → List Nd × List Nat
  | [], ns, tops => (ns, tops)
  | w :: ws, ns, tops => WT.nodesL ws (ns ++ w.nodes.map (Nd.up ns.length)) (tops ++ [(ns ++ w.nodes.map (Nd.up ns.length)).length - 1])
end
theorem Nd.up0 (n : Nd) : n.up 0 = n := by
  cases n with
  | mk w s b =>
    unfold Nd.up
    congr 1
    show b.map (· + 0) = b
    simp
theorem WT.nodes_eq (v : WT) : v.nodes = (WT.nodesL v.inner [] []).1 ++ [⟨v.word, v.sign, (WT.nodesL v.inner [] []).2⟩] := by
  cases v with
  | un k w =>
    have e : w.nodes.map (Nd.up 0) = w.nodes := by
      have : Nd.up 0 = id := funext fun n => n.up0
      rw [this, List.map_id]
    show w.nodes ++ [_] = (WT.nodesL [w] [] []).1 ++ [⟨_, _, (WT.nodesL [w] [] []).2⟩]
    rw [WT.nodesL, WT.nodesL, List.length_nil, List.nil_append, List.nil_append, e]
  | nothing => rfl
  | one => rfl
  | letter s => rfl
  | call s => rfl
  | many c ws => rfl
mutual
/-- the parts, in the order of the nodes -/
def WT.post : WT → List WT
  | .un k v => v.post ++ [.un k v]
  | .many c ws => WT.posts ws ++ [.many c ws]
  | .nothing => [.nothing]
  | .one => [.one]
  | .letter s => [.letter s]
  | .call s => [.call s]
def WT.posts : List WT → List WT
  | [] => []
  | w :: ws => w.post ++ WT.posts ws
end
theorem WT.post_eq (v : WT) : v.post = WT.posts v.inner ++ [v] := by
  cases v <;> simp only [WT.post, WT.inner, WT.posts, List.append_nil, List.nil_append]
mutual
theorem WT.post_length : ∀ v : WT, v.post.length = v.size
  | .un k v => by simp only [WT.post, WT.size, List.length_append, List.length_singleton, WT.post_length v]
  | .many c ws => by simp only [WT.post, WT.size, List.length_append, List.length_singleton, WT.posts_length ws]
  | .nothing => rfl
  | .one => rfl
  | .letter _ => rfl
  | .call _ => rfl
theorem WT.posts_length : ∀ ws : List WT, (WT.posts ws).length = WT.sizes ws
  | [] => rfl
  | w :: ws => by simp only [WT.posts, WT.sizes, List.length_append, WT.post_length w, WT.posts_length ws]
end
inductive All2 {α β : Type} (R : α → β → Prop) : List α → List β → Prop where
  | nil : All2 R [] []
  | cons {a b as bs} : R a b → All2 R as bs → All2 R (a :: as) (b :: bs)
theorem All2.imp {α β : Type} {R R' : α → β → Prop} (h : ∀ a b, R a b → R' a b) : ∀ {as bs}, All2 R as bs → All2 R' as bs
  | _, _, .nil => .nil
  | _, _, .cons r t => .cons (h _ _ r) (t.imp h)
theorem All2.append {α β : Type} {R : α → β → Prop} : ∀ {as bs cs ds}, All2 R as bs → All2 R cs ds → All2 R (as ++ cs) (bs ++ ds)
  | _, _, _, _, .nil, h => h
  | _, _, _, _, .cons r t, h => .cons r (t.append h)
theorem All2.map_l {α β γ : Type} {R : α → β → Prop} {R' : γ → β → Prop} {f : α → γ} (h : ∀ a b, R a b → R' (f a) b) : ∀ {as bs}, All2 R as bs → All2 R' (as.map f) bs
  | _, _, .nil => .nil
  | _, _, .cons r t => .cons (h _ _ r) (t.map_l h)
theorem All2.length {α β : Type} {R : α → β → Prop} : ∀ {as bs}, All2 R as bs → as.length = bs.length
  | _, _, .nil => rfl
  | _, _, .cons _ t => congrArg Nat.succ t.length
/-- the nodes tell the parts at their places -/
structure GoodN (ns : List Nd) (ps : List WT) : Prop where
  len : ns.length = ps.length
  at_ : ∀ (i : Nat) (n : Nd) (v : WT), ns[i]? = some n → ps[i]? = some v → n.word = v.word ∧ n.sign = v.sign ∧ All2 (fun j u => j < i ∧ ps[j]? = some u) n.below v.inner
theorem GoodN.up {ns : List Nd} {ps qs : List WT} (g : GoodN ns ps) {ms : List Nd} (h : GoodN ms qs) : GoodN (ms ++ ns.map (Nd.up ms.length)) (qs ++ ps) := by
  refine ⟨by rw [List.length_append, List.length_append, List.length_map, g.len, h.len], fun i n v e1 e2 => ?_⟩
  by_cases hi : i < ms.length
  · rw [List.getElem?_append_left hi] at e1
    rw [List.getElem?_append_left (by rw [← h.len]; exact hi)] at e2
    obtain ⟨h1, h2, h3⟩ := h.at_ i n v e1 e2
    refine ⟨h1, h2, h3.imp fun j u ⟨hj, hu⟩ => ⟨hj, ?_⟩⟩
    rw [List.getElem?_append_left (List.getElem?_eq_some_iff.mp hu).1]
    exact hu
  · rw [List.getElem?_append_right (by omega), List.getElem?_map] at e1
    rw [List.getElem?_append_right (by rw [← h.len]; omega), ← h.len] at e2
    cases e : ns[i - ms.length]? with
    | none => rw [e] at e1; cases e1
    | some m =>
      rw [e] at e1
      cases e1
      obtain ⟨h1, h2, h3⟩ := g.at_ _ m v e e2
      refine ⟨h1, h2, h3.map_l fun j u ⟨hj, hu⟩ => ⟨by omega, ?_⟩⟩
      rw [List.getElem?_append_right (by rw [← h.len]; omega), ← h.len, Nat.add_sub_cancel]
      exact hu
theorem GoodN.snoc {ns : List Nd} {ps : List WT} (g : GoodN ns ps) {v : WT} {tops : List Nat} (h : All2 (fun j u => ps[j]? = some u) tops v.inner) : GoodN (ns ++ [⟨v.word, v.sign, tops⟩]) (ps ++ [v]) := by
  have pos : ∀ j u, ps[j]? = some u → j < ns.length ∧ (ps ++ [v])[j]? = some u := fun j u e => by
    have := (List.getElem?_eq_some_iff.mp e).1
    exact ⟨by rw [g.len]; exact this, by rw [List.getElem?_append_left this]; exact e⟩
  refine ⟨by rw [List.length_append, List.length_append, g.len]; rfl, fun i n w e1 e2 => ?_⟩
  by_cases hi : i < ns.length
  · rw [List.getElem?_append_left hi] at e1
    rw [List.getElem?_append_left (by rw [← g.len]; exact hi)] at e2
    obtain ⟨h1, h2, h3⟩ := g.at_ i n w e1 e2
    exact ⟨h1, h2, h3.imp fun j u ⟨hj, hu⟩ => ⟨hj, (pos j u hu).2⟩⟩
  · have h1 : i = ns.length := by
      have := (List.getElem?_eq_some_iff.mp e1).1
      rw [List.length_append, List.length_singleton] at this
      omega
    subst h1
    rw [List.getElem?_append_right (Nat.le_refl _), Nat.sub_self] at e1
    rw [List.getElem?_append_right (by rw [g.len]; exact Nat.le_refl _), g.len, Nat.sub_self] at e2
    cases e1
    cases e2
    exact ⟨rfl, rfl, h.imp fun j u e => pos j u e⟩
mutual
theorem WT.nodes_good : ∀ v : WT, GoodN v.nodes v.post
  | .nothing => (GoodN.snoc (ns := []) (ps := []) (v := .nothing) (tops := []) ⟨rfl, fun i n v e => by simp at e⟩ .nil)
  | .one => (GoodN.snoc (ns := []) (ps := []) (v := .one) (tops := []) ⟨rfl, fun i n v e => by simp at e⟩ .nil)
  | .letter s => (GoodN.snoc (ns := []) (ps := []) (v := .letter s) (tops := []) ⟨rfl, fun i n v e => by simp at e⟩ .nil)
  | .call s => (GoodN.snoc (ns := []) (ps := []) (v := .call s) (tops := []) ⟨rfl, fun i n v e => by simp at e⟩ .nil)
  | .un k v => by
    have g := WT.nodes_good v
    have h := GoodN.snoc g (v := .un k v) (tops := [v.nodes.length - 1]) (.cons (by
      rw [g.len, WT.post_eq, List.length_append, List.length_singleton, Nat.add_sub_cancel, List.getElem?_append_right (Nat.le_refl _), Nat.sub_self]
      rfl) .nil)
    exact h
  | .many c ws => by
    have ⟨g, h⟩ := WT.nodesL_good ws [] [] [] [] ⟨rfl, fun i n v e => by simp at e⟩ .nil
    exact GoodN.snoc (v := .many c ws) g h
theorem WT.nodesL_good : ∀ (ws : List WT) (ns : List Nd) (tops : List Nat) (ps us : List WT), GoodN ns ps → All2 (fun j u => ps[j]? = some u) tops us →
    GoodN (WT.nodesL ws ns tops).1 (ps ++ WT.posts ws) ∧ All2 (fun j u => (ps ++ WT.posts ws)[j]? = some u) (WT.nodesL ws ns tops).2 (us ++ ws)
  | [], ns, tops, ps, us, g, h => by
    rw [WT.posts, List.append_nil, List.append_nil]
    exact ⟨g, h⟩
  | w :: ws, ns, tops, ps, us, g, h => by
    have g1 := (WT.nodes_good w).up g
    have hl : (ps ++ w.post).length - 1 < (ps ++ w.post).length := by
      have := WT.post_length w
      have := w.size_pos
      rw [List.length_append]
      omega
    have h1 : All2 (fun j u => (ps ++ w.post)[j]? = some u) (tops ++ [(ns ++ w.nodes.map (Nd.up ns.length)).length - 1]) (us ++ [w]) := by
      refine (h.imp fun j u e => ?_).append (.cons ?_ .nil)
      · rw [List.getElem?_append_left (List.getElem?_eq_some_iff.mp e).1]
        exact e
      · rw [g1.len, WT.post_eq, ← List.append_assoc, List.length_append, List.length_singleton, Nat.add_sub_cancel, List.getElem?_append_right (Nat.le_refl _), Nat.sub_self]
        rfl
    have ⟨g2, h2⟩ := WT.nodesL_good ws _ _ _ _ g1 h1
    rw [WT.posts, ← List.append_assoc, show us ++ w :: ws = (us ++ [w]) ++ ws from by rw [List.append_assoc]; rfl]
    exact ⟨g2, h2⟩
end
theorem WT.nodes_length (v : WT) : v.nodes.length = v.size := by rw [v.nodes_good.len, v.post_length]
def spNodes (W : WA) (S : Nat) : DSp := fun ds M Q _ => ∃ (v : WT), ds = [v.o W] ∧ v.size ≤ S ∧ v.size < 100000 ∧ Q (.lst (v.nodes.map Nd.d)) M
end DL
namespace DL
open PySem PySem.Spec PyProof.Rows L2
theorem WT.nodesL_tops : ∀ (ws : List WT) (ns : List Nd) (tops : List Nat), (WT.nodesL ws ns tops).2.length = tops.length + ws.length
  | [], _, _ => rfl
  | w :: ws, ns, tops => by rw [WT.nodesL, WT.nodesL_tops ws, List.length_append, List.length_singleton, List.length_cons]; omega
mutual
theorem WT.nodes_below (B : Nat) : ∀ v : WT, v.size ≤ B → ∀ n ∈ v.nodes, n.below.length ≤ B
  | .nothing, _, n, hn => by rw [List.mem_singleton.mp hn]; exact Nat.zero_le _
  | .one, _, n, hn => by rw [List.mem_singleton.mp hn]; exact Nat.zero_le _
  | .letter s, _, n, hn => by rw [List.mem_singleton.mp hn]; exact Nat.zero_le _
  | .call s, _, n, hn => by rw [List.mem_singleton.mp hn]; exact Nat.zero_le _
  | .un k v, h, n, hn => by
    have h' : v.size + 1 ≤ B := h
    rcases List.mem_append.mp hn with hn | hn
    · exact WT.nodes_below B v (by omega) n hn
    · rw [List.mem_singleton.mp hn]
      show 1 ≤ B
      omega
  | .many c ws, h, n, hn => by
    have h' : WT.sizes ws + 1 ≤ B := h
    rcases List.mem_append.mp hn with hn | hn
    · exact WT.nodesL_below B ws (by omega) [] [] (fun n hn => by cases hn) n hn
    · rw [List.mem_singleton.mp hn]
      have := WT.nodesL_tops ws [] []
      have h2 := WT.sizes_length ws
      show (WT.nodesL ws [] []).2.length ≤ B
      rw [this, List.length_nil]
      omega
theorem WT.nodesL_below (B : Nat) : ∀ (ws : List WT), WT.sizes ws ≤ B → ∀ (ns : List Nd) (tops : List Nat), (∀ n ∈ ns, n.below.length ≤ B) → ∀ n ∈ (WT.nodesL ws ns tops).1, n.below.length ≤ B
  | [], _, ns, tops, h, n, hn => h n hn
  | w :: ws, hs, ns, tops, h, n, hn => by
    have hs' : w.size + WT.sizes ws ≤ B := hs
    rw [WT.nodesL] at hn
    refine WT.nodesL_below B ws (by omega) _ _ (fun m hm => ?_) n hn
    rcases List.mem_append.mp hm with hm | hm
    · exact h m hm
    · obtain ⟨m', hm', rfl⟩ := List.mem_map.mp hm
      have := WT.nodes_below B w (by omega) m' hm'
      show (m'.below.map (· + ns.length)).length ≤ B
      rw [List.length_map]
      exact this
end
end DL
set_option Elab.async false
set_option linter.all false
set_option maxRecDepth 100000
set_option maxHeartbeats 1000000
/-! DL16: the table of takes. -/
namespace DL
open PySem PySem.Spec PyProof.Rows L2

theorem All2.pairs {α β : Type} {R : α → β → Prop} : ∀ {as bs}, All2 R as bs → ∃ l : List (α × β), as = l.map (·.1) ∧ bs = l.map (·.2) ∧ ∀ q ∈ l, R q.1 q.2
  | _, _, .nil => ⟨[], rfl, rfl, fun _ h => by cases h⟩
  | _, _, .cons (a := a) (b := b) r t => by
    obtain ⟨l, h1, h2, h3⟩ := t.pairs
    refine ⟨(a, b) :: l, by rw [h1]; rfl, by rw [h2]; rfl, fun q hq => ?_⟩
    rcases List.mem_cons.mp hq with rfl | hq
    · exact r
    · exact h3 q hq
structure TabAt (l : List Nat) (ps : List WT) (as : List Addr) (M : Mem) (fil : Nat → Nat → Prop) : Prop where
  len : as.length = ps.length
  row : ∀ (i : Nat) (a : Addr) (v : WT), as[i]? = some a → ps[i]? = some v → ∃ ds, M a = some (.lst ds) ∧ ds.length = l.length + 1 ∧ ∀ q, fil i q → q ≤ l.length → ds[q]? = some (optD (tk l v q))
@[reducible] def tabD (as : List Addr) : D := .lst (as.map D.ref)
theorem TabAt.imp {l : List Nat} {ps : List WT} {as : List Addr} {M : Mem} {fil fil' : Nat → Nat → Prop} (t : TabAt l ps as M fil) (h : ∀ i q, i < as.length → q ≤ l.length → fil' i q → fil i q) : TabAt l ps as M fil' :=
  ⟨t.len, fun i a v e1 e2 => by
    obtain ⟨ds, h1, h2, h3⟩ := t.row i a v e1 e2
    exact ⟨ds, h1, h2, fun q hf hq => h3 q (h i q (List.getElem?_eq_some_iff.mp e1).1 hq hf) hq⟩⟩
theorem TabAt.get {l : List Nat} {ps : List WT} {as : List Addr} {M : Mem} {fil : Nat → Nat → Prop} (t : TabAt l ps as M fil) {j q : Nat} {u : WT} (h : ps[j]? = some u) (hf : fil j q) (hq : q ≤ l.length) :
    ∃ a ds, atI (as.map D.ref) (j : Int) = some (.ref a) ∧ M a = some (.lst ds) ∧ atI ds (q : Int) = some (optD (tk l u q)) := by
  have hj : j < as.length := by rw [t.len]; exact (List.getElem?_eq_some_iff.mp h).1
  obtain ⟨ds, h1, _, h3⟩ := t.row j as[j] u (by simp [hj]) h
  exact ⟨as[j], ds, by rw [atI_k, List.getElem?_map]; simp [hj], h1, by rw [atI_k]; exact h3 q hf hq⟩
/-- a cell is written -/
theorem TabAt.put {l : List Nat} {ps : List WT} {as : List Addr} {M : Mem} {fil : Nat → Nat → Prop} (t : TabAt l ps as M fil) (nd : as.Nodup) {i p : Nat} {v : WT} (h : ps[i]? = some v) (hp : p ≤ l.length) :
    ∃ a ds, as[i]? = some a ∧ M a = some (.lst ds) ∧ ixN ds.length (p : Int) = some p ∧ TabAt l ps as (mset M a (.lst (ds.set p (optD (tk l v p))))) (fun j q => fil j q ∨ (j = i ∧ q = p)) := by
  have hi : i < as.length := by rw [t.len]; exact (List.getElem?_eq_some_iff.mp h).1
  have ei : as[i]? = some as[i] := by simp [hi]
  obtain ⟨ds, h1, h2, h3⟩ := t.row i as[i] v ei h
  refine ⟨as[i], ds, ei, h1, ?_, t.len, fun j b u e1 e2 => ?_⟩
  · unfold ixN
    rw [if_pos (by omega), if_pos (by omega)]
    rfl
  · by_cases hj : j = i
    · subst hj
      rw [ei] at e1
      cases e1
      rw [h] at e2
      cases e2
      refine ⟨_, mset_same, by rw [List.length_set]; exact h2, fun q hf hq => ?_⟩
      by_cases hqp : q = p
      · subst hqp
        rw [List.getElem?_set_self (by omega)]
      · rw [List.getElem?_set_ne (Ne.symm hqp)]
        refine h3 q ?_ hq
        rcases hf with hf | ⟨_, hf⟩
        · exact hf
        · exact absurd hf hqp
    · have hne : b ≠ as[i] := fun z => by
        have hjl := (List.getElem?_eq_some_iff.mp e1).1
        have e3 : as[j] = as[i] := by
          rw [← z]
          exact (List.getElem?_eq_some_iff.mp e1).2
        exact hj ((List.getElem_inj nd).mp e3)
      obtain ⟨es, g1, g2, g3⟩ := t.row j b u e1 e2
      refine ⟨es, by rw [mset_ne hne]; exact g1, g2, fun q hf hq => g3 q ?_ hq⟩
      rcases hf with hf | ⟨hf, _⟩
      · exact hf
      · exact absurd hf hj
theorem tkChoice_head (l : List Nat) (p : Nat) : ∀ ws : List WT, tkChoice l ws p = (ws.filterMap fun w => tk l w p).head?
  | [] => rfl
  | w :: ws => by
    rw [tkChoice, List.filterMap_cons]
    cases tk l w p with
    | none => exact tkChoice_head l p ws
    | some t => rfl
/-- a node tells a part, its parts stand at the places below -/
structure NdOf (ps : List WT) (n : Nd) (v : WT) (fil : Nat → Prop) (bw : List (Nat × WT)) : Prop where
  word : n.word = v.word
  sign : n.sign = v.sign
  below : n.below = bw.map (·.1)
  inner : v.inner = bw.map (·.2)
  at_ : ∀ q ∈ bw, fil q.1 ∧ ps[q.1]? = some q.2
def spRowTake : DSp := fun ds M Q _ => ∃ (l : List Nat) (ps : List WT) (as : List Addr) (fil : Nat → Nat → Prop) (bw : List (Nat × WT)) (p : Nat), ds = [tabD as, natsD (bw.map (·.1)), .int (p : Nat)] ∧ TabAt l ps as M fil ∧ p ≤ l.length ∧
  (∀ q ∈ bw, ps[q.1]? = some q.2 ∧ ∀ r, p ≤ r → fil q.1 r) ∧ Q (optD (tkRow l (bw.map (·.2)) p)) M
def lookT : Un → Option Nat → Option Nat
  | .maybe, t => some (t.getD 0)
  | .ahead, t => t.map fun _ => 0
  | .unless, t => (match t with
    | none => some 0
    | some _ => none)
  | .again, _ => none
def spLook : DSp := fun ds M Q _ => ∃ (k : Un) (t : Option Nat), ds = [.str k.s, optD t] ∧ k ≠ .again ∧ Q (optD (lookT k t)) M
theorem tk_look (l : List Nat) (w : WT) (p : Nat) {k : Un} (h : k ≠ .again) : tk l (.un k w) p = lookT k (tk l w p) := by
  cases k
  · exact absurd rfl h
  · rw [tk]; rfl
  · rw [tk]; rfl
  · rw [tk]; rfl
def spTakeOf : DSp := fun ds M Q _ => ∃ (l : List Nat) (ps : List WT) (as : List Addr) (fil : Nat → Nat → Prop) (n : Nd) (v : WT) (bw : List (Nat × WT)) (p : Nat), ds = [tabD as, n.d, .str (tx l), .int (p : Nat)] ∧ TabAt l ps as M fil ∧ p ≤ l.length ∧ l.length < 100000 ∧ CpOk l ∧
  PyData.strOk v.sign = true ∧ NdOf ps n v (fun j => ∀ r, p ≤ r → fil j r) bw ∧ bw.length < 100000 ∧ (∀ s, v ≠ .call s) ∧ (∀ w, v ≠ .un .again w) ∧ Q (optD (tk l v p)) M
def spAgain : DSp := fun ds M Q _ => ∃ (l : List Nat) (ps : List WT) (as : List Addr) (fil : Nat → Nat → Prop) (i j : Nat) (w : WT) (p : Nat), ds = [tabD as, .int (i : Nat), .int (j : Nat), .int (p : Nat)] ∧ TabAt l ps as M fil ∧ p ≤ l.length ∧
  ps[i]? = some (.un .again w) ∧ ps[j]? = some w ∧ fil j p ∧ (∀ r, p < r → fil i r) ∧ Q (optD (tk l (.un .again w) p)) M
end DL
namespace DL
open PySem PySem.Spec PyProof.Rows L2
/-! ### x += e -/
@[reducible] def sAug (i : Nat) (te : DT) (g : Int → Int → Int) : DTS := fun E env M => match look env i with
  | .val (.int a) => te env M fun d env1 M1 => (match d with
    | .int b => E.nx (put env1 i (.val (.int (g a b)))) M1
    | _ => False)
  | _ => False
theorem s_aug {X : Cx} {e : Expr} {te : DT} {op : Operator} {g : Int → Int → Int} {i : Nat} {x : Str} {pos pos' : Pos} (ho : PIp X op (ipI g)) (hN : X.N.Nodup) (he : DE X e te) (hi : X.N[i]? = some x := by rfl) (hx : Loc X.env.scope x := by first | exact Or.inl rfl | exact Or.inr rfl)
    (hf : X.fn x = true ∨ X.env.scope.names.lookup x = some .local := by first | exact .inl rfl | exact .inr rfl | assumption) : DS X (.AugAssign (.Name x pos') op e pos) (sAug i te g) := by
  refine ps_imp (ps_aug hN hi hx he ho hf) fun D σ H ⟨F, S, env, M, Ed, R, t, p⟩ => ?_
  unfold sAug at t
  cases hl : look env i with
  | no => simp only [hl] at t
  | own _ => simp only [hl] at t
  | val d =>
    cases d with
    | int a =>
      simp only [hl] at t
      obtain ⟨v, e1, r⟩ := R.val i _ hl
      cases r
      refine ⟨_, e1, F, S, env, M, _, R, t, fun w H' S' env' M' d s' R' r' q => ?_⟩
      cases d with
      | int b =>
        cases r'
        exact ⟨a, b, rfl, rfl, p.nx _ H' S' _ M' s' (R'.store (d := .int (g a b)) rfl) q⟩
      | _ => exact q.elim
    | _ => simp only [hl] at t
end DL
namespace DL
open PySem PySem.Spec PyProof.Rows L2
theorem okEq_nats (l : List Nat) : okEq (.lst (l.map fun n => D.int (n : Nat))) := by
  have h := okEq_ints (l.map fun n : Nat => (n : Int))
  rw [List.map_map] at h
  exact h
theorem choice_list (l : List Nat) (p : Nat) : ∀ bw : List (Nat × WT), (bw.filter fun x => (tk l x.2 p).isSome).map (fun x => optD (tk l x.2 p)) = ((bw.map (·.2)).filterMap fun w => tk l w p).map fun t => D.int (t : Nat)
  | [] => rfl
  | (j, u) :: r => by
    rw [List.filter_cons, List.map_cons, List.filterMap_cons]
    cases ht : tk l u p with
    | none =>
      simp only [ht, Option.isSome_none, Bool.false_eq_true, if_false]
      exact choice_list l p r
    | some t =>
      simp only [ht, Option.isSome_some, if_true, List.map_cons]
      rw [choice_list l p r]
      rfl
end DL
namespace DL
open PySem PySem.Spec PyProof.Rows L2
theorem atI_zero {α : Type} (d : α) (ds : List α) : atI (d :: ds) 0 = some d := atI_k (d :: ds) 0
end DL
set_option Elab.async false
set_option linter.all false
set_option maxRecDepth 100000
set_option maxHeartbeats 1000000
/-! DL17: the table made. -/
namespace DL
open PySem PySem.Spec PyProof.Rows L2

theorem dnD_succ (hi : Int) (n : Nat) : dnD hi (n + 1) = .int hi :: dnD (hi - 1) n := by
  unfold dnD
  rw [List.range_succ_eq_map, List.map_cons, List.map_map]
  congr 1
  · show D.int (hi - ((0 : Nat) : Int)) = D.int hi
    rw [Int.natCast_zero, Int.sub_zero]
  · refine List.map_congr_left fun k _ => ?_
    show D.int (hi - ((k + 1 : Nat) : Int)) = D.int (hi - 1 - (k : Int))
    congr 1
    omega
/-- for p in range(n - 1, -1, -1): Inv (p + 1) ahead of p -/
theorem forW_dn {g : DTG} {tb : DTS} {E : DEnds} (Inv : Nat → Ev → Mem → Prop) (h0 : ∀ env M, Inv 0 env M → E.nx env M) : ∀ (n : Nat)
    (hs : ∀ (p : Nat) (R : Ev → Mem → Prop), p < n → (∀ env M, Inv p env M → R env M) → ∀ env M, Inv (p + 1) env M → g (.int (p : Nat)) env M fun e1 M1 => tb { E with nx := R, ct := R, bk := E.nx } e1 M1) (env : Ev) (M : Mem), Inv n env M → forW g tb E (dnD ((n : Int) - 1) n) env M
  | 0, hs, env, M, h => h0 env M h
  | n + 1, hs, env, M, h => by
    rw [dnD_succ, show ((n + 1 : Nat) : Int) - 1 = (n : Int) from by omega]
    exact hs n _ (Nat.lt_succ_self n) (fun env M h => forW_dn Inv h0 n (fun p R hp => hs p R (by omega)) env M h) env M h
mutual
theorem WT.post_pln : ∀ v : WT, v.pln → ∀ u ∈ v.post, u.pln
  | .un k v, h, u, hu => by
    rcases List.mem_append.mp hu with hu | hu
    · exact WT.post_pln v h u hu
    · rw [List.mem_singleton.mp hu]; exact h
  | .many c ws, h, u, hu => by
    rcases List.mem_append.mp hu with hu | hu
    · exact WT.posts_pln ws h u hu
    · rw [List.mem_singleton.mp hu]; exact h
  | .nothing, h, u, hu => by rw [List.mem_singleton.mp hu]; exact h
  | .one, h, u, hu => by rw [List.mem_singleton.mp hu]; exact h
  | .letter s, h, u, hu => by rw [List.mem_singleton.mp hu]; exact h
  | .call s, h, u, hu => by rw [List.mem_singleton.mp hu]; exact h
theorem WT.posts_pln : ∀ ws : List WT, WT.plns ws → ∀ u ∈ WT.posts ws, u.pln
  | [], h, u, hu => by cases hu
  | w :: ws, h, u, hu => by
    rcases List.mem_append.mp hu with hu | hu
    · exact WT.post_pln w h.1 u hu
    · exact WT.posts_pln ws h.2 u hu
end
theorem WT.pln_sign (v : WT) (h : v.pln) : PyData.strOk v.sign = true := by
  cases v with
  | letter s => exact h
  | call s => exact h.elim
  | nothing => decide +kernel
  | one => decide +kernel
  | un k w => exact (by decide +kernel : PyData.strOk (("" : String) : Str) = true)
  | many c ws => exact (by decide +kernel : PyData.strOk (("" : String) : Str) = true)
theorem again_beq (v : WT) : (v.word == ("again" : Str)) = (match v with | .un .again _ => true | _ => false) := by
  cases v with
  | nothing => exact (by decide +kernel : ((("nothing" : Str)) == ("again" : Str)) = false)
  | one => exact (by decide +kernel : ((("one" : Str)) == ("again" : Str)) = false)
  | letter s => exact (by decide +kernel : ((("letter" : Str)) == ("again" : Str)) = false)
  | call s => exact (by decide +kernel : ((("call" : Str)) == ("again" : Str)) = false)
  | un k w =>
    cases k
    · exact (by decide +kernel : ((("again" : Str)) == ("again" : Str)) = true)
    · exact (by decide +kernel : ((("maybe" : Str)) == ("again" : Str)) = false)
    · exact (by decide +kernel : ((("ahead" : Str)) == ("again" : Str)) = false)
    · exact (by decide +kernel : ((("unless" : Str)) == ("again" : Str)) = false)
  | many c ws =>
    cases c
    · exact (by decide +kernel : ((("row" : Str)) == ("again" : Str)) = false)
    · exact (by decide +kernel : ((("choice" : Str)) == ("again" : Str)) = false)
theorem map_const {α : Type} (xs : List α) (d : D) : xs.map (fun _ => d) = List.replicate xs.length d := by
  induction xs with
  | nil => rfl
  | cons x xs ih => rw [List.map_cons, ih, List.length_cons, List.replicate_succ]
theorem rngD_length (lo : Int) (n : Nat) : (rngD lo n).length = n := by unfold rngD; rw [List.length_map, List.length_range]
def spTable (W : WA) (S : Nat) : DSp := fun ds M Q _ => ∃ (v : WT) (l : List Nat), ds = [v.o W, .str (tx l)] ∧ v.size ≤ S ∧ v.size < 1000 ∧ v.pln ∧ CpOk l ∧ l.length < 100000 ∧
  ∀ (as : List Addr) (M' : Mem), (∀ a o, M a = some o → M' a = some o) → TabAt l v.post as M' (fun _ _ => True) → Q (.tup [.lst (v.nodes.map Nd.d), tabD as]) M'
/-- takes(way, text, place) -/
def spTakes (W : WA) (S : Nat) : DSp := fun ds M Q _ => ∃ (v : WT) (l : List Nat) (p : Nat), ds = [v.o W, .str (tx l), .int (p : Nat)] ∧ v.size ≤ S ∧ v.size < 1000 ∧ v.pln ∧ CpOk l ∧ l.length < 100000 ∧ p ≤ l.length ∧ Q (optD (tk l v p)) M
end DL
namespace DL
open PySem PySem.Spec PyProof.Rows L2
/-- the scope of a list comprehension; the value of an assignment -/
def lcSc : Expr → Scope
  | .ListComp _ _ sc _ => sc
  | _ => { kind := .function, names := [], isGenerator := false, isCoroutine := false }
def asgV : Stmt → Expr
  | .Assign _ v _ => v
  | .Return (some v) _ => v
  | _ => .Constant .none 0 ⟨0, 0, 0, 0⟩
end DL
namespace DL
open PySem PySem.Spec PyProof.Rows L2
/-- a block within a block that takes nothing from around -/
theorem blkOk_in {N : List Str} {sc scope : Scope} {own : List (Str × Nat)} (h : blkC N { kind := .function, names := [], isGenerator := false, isCoroutine := false } scope own = true) : BlkOk N sc scope own := by
  have b := blkOk_by h
  exact ⟨b.kind, b.uniq, b.ix, fun y hy e => (b.free y hy e).elim (fun z => by cases z) (fun z => by cases z), b.own⟩
end DL
namespace DL
open PySem PySem.Spec PyProof.Rows L2
/-- x = [.. for ..], a list that changes no more -/
@[reducible] def sSetV (te : DTN) (i : Nat) : DTS := fun E env M => te env M fun ds env1 M1 => E.nx (put env1 i (.val (.lst ds))) M1
theorem s_setLcV {X : Cx} {elt tg iter : Expr} {ifs : List Expr} {scope : Scope} {own : List (Str × Nat)} {pos spos : Pos} {wi : DTI} {g : DTG} {tt : DTT} {te : DT} {i : Nat} {y : Str} {py : Pos} (hc : X.calm = true) (hN : X.N.Nodup) (hy : X.N[i]? = some y) (hyl : X.env.scope.names.lookup y = some .local)
    (hsw : swapsWith (.ListComp elt [⟨tg, iter, ifs, 0⟩] scope pos) (some (.Name y py)) spos.line X.env = pure true) (hi : DI X tg iter wi) (ok : BlkOk X.N X.env.scope scope own)
    (hg : ∀ (s : Shared) (H : Hp) (C : Addr) (cl : List (Str × Addr)) (fp : List Addr), DGw (X.blk s H scope (compEnvC scope cl C X.env) fp) (ownIx own) tg g) (ht : ∀ (s : Shared) (H : Hp) (C : Addr) (cl : List (Str × Addr)) (fp : List Addr), PTs (X.blk s H scope (compEnvC scope cl C X.env) fp) ifs (LT X.K tt))
    (he : ∀ (s : Shared) (H : Hp) (C : Addr) (cl : List (Str × Addr)) (fp : List Addr), DE (X.blk s H scope (compEnvC scope cl C X.env) fp) elt te) (hs : ∀ x, foldedSetIterable iter X.env x = pure x := by intro _; rfl) :
    DS X (.Assign [.Name y py] (.ListComp elt [⟨tg, iter, ifs, 0⟩] scope pos) spos) (sSetV (dLc wi g tt te (ownIx own)) i) := by
  rw [ownIx_eq own] at hg ⊢
  exact ps_imp (ps_setLc (own := own) (g := LGw X.K (own.map (fun q : Str × Nat => q.2)) g) (tt := LT X.K tt) (te := LE X.K te) hc hN hy hyl hsw hi ok hg ht he hs) fun D σ H ⟨F, S, env, M, Ed, R, t, p⟩ =>
    show tLc (LI X.K wi) (LGw X.K (own.map (fun q : Str × Nat => q.2)) g) (LT X.K tt) (LE X.K te) (own.map (fun q : Str × Nat => q.2)) σ H (fun x H1 => gName i x σ H1 D.nx) from lift_lc ⟨F, S, env, M, _, R, t, fun a H' S' env' M' ds s' R' n q => by
      obtain ⟨S2, s2, R2, r⟩ := R'.seal n
      exact p.nx _ H' S2 _ M' (s'.trans s2) (R2.store r) q⟩
theorem forW_dnE {g : DTG} {tb : DTS} {E : DEnds} {hi : Int} {n m : Nat} (e1 : hi = (n : Int) - 1) (e2 : m = n) (Inv : Nat → Ev → Mem → Prop) (h0 : ∀ env M, Inv 0 env M → E.nx env M)
    (hs : ∀ (p : Nat) (R : Ev → Mem → Prop), p < n → (∀ env M, Inv p env M → R env M) → ∀ env M, Inv (p + 1) env M → g (.int (p : Nat)) env M fun e1 M1 => tb { E with nx := R, ct := R, bk := E.nx } e1 M1) (env : Ev) (M : Mem) (h : Inv n env M) : forW g tb E (dnD hi m) env M := by
  rw [e1, e2]
  exact forW_dn Inv h0 n hs env M h
end DL
namespace DL
open PySem PySem.Spec PyProof.Rows L2
def spTakes0 (W : WA) (S : Nat) : DSp := fun ds M Q _ => ∃ (v : WT) (l : List Nat) (p : Nat), ds = [v.o W, .str (tx l), .int (p : Nat)] ∧ v.size ≤ S ∧ v.size < 1000 ∧ v.pln ∧ CpOk l ∧ l.length < 100000 ∧ p ≤ l.length ∧ ∀ M' : Mem, (∀ a o, M a = some o → M' a = some o) → Q (optD (tk l v p)) M'
mutual
theorem WT.parts_pln (p : List Nat) : ∀ v : WT, v.pln → ∀ q ∈ v.parts p, q.2.pln
  | .un k v, h, q, hq => by
    rcases List.mem_cons.mp hq with rfl | hq
    · exact h
    · exact WT.parts_pln _ v h q hq
  | .many c ws, h, q, hq => by
    rcases List.mem_cons.mp hq with rfl | hq
    · exact h
    · exact WT.partsL_pln _ 0 ws h q hq
  | .nothing, h, q, hq => by rw [List.mem_singleton.mp hq]; exact h
  | .one, h, q, hq => by rw [List.mem_singleton.mp hq]; exact h
  | .letter s, h, q, hq => by rw [List.mem_singleton.mp hq]; exact h
  | .call s, h, q, hq => by rw [List.mem_singleton.mp hq]; exact h
theorem WT.partsL_pln (p : List Nat) (i : Nat) : ∀ ws : List WT, WT.plns ws → ∀ q ∈ WT.partsL p i ws, q.2.pln
  | [], h, q, hq => by cases hq
  | w :: ws, h, q, hq => by
    rcases List.mem_append.mp hq with hq | hq
    · exact WT.parts_pln _ w h.1 q hq
    · exact WT.partsL_pln p (i + 1) ws h.2 q hq
end
theorem WT.pln_calls (v : WT) (h : v.pln) : v.calls = [] := by
  unfold WT.calls
  rw [List.map_eq_nil_iff, List.filter_eq_nil_iff]
  intro q hq
  have := WT.parts_pln [] v h q hq
  rw [word_beq]
  cases hz : q.2 with
  | call s => rw [hz] at this; exact this.elim
  | _ => simp
theorem atI_last {α : Type} {xs : List α} (h : xs ≠ []) : atI xs (-1) = xs[xs.length - 1]? := by
  have hl : 0 < xs.length := List.length_pos_iff.mpr h
  unfold atI ixN
  rw [if_neg (by decide), if_pos (by omega)]
  show xs[((-1 : Int) + (xs.length : Int)).toNat]? = _
  congr 1
  omega
end DL
namespace DL
open PySem PySem.Spec PyProof.Rows L2
theorem atI_one {α : Type} (a b : α) (r : List α) : atI (a :: b :: r) 1 = some b := atI_k (a :: b :: r) 1
theorem atI_two {α : Type} (a b c : α) (r : List α) : atI (a :: b :: c :: r) 2 = some c := atI_k (a :: b :: c :: r) 2
end DL
namespace DL
open PySem PySem.Spec PyProof.Rows L2
mutual
theorem WT.ok_pln {P : Str → Prop} (hP : ∀ s, P s → PyData.strOk s = true) : ∀ v : WT, v.ok P → v.pln
  | .letter s, h => hP s h
  | .call s, h => h.elim
  | .un k v, h => WT.ok_pln hP v h
  | .many c ws, h => WT.oks_plns hP ws h.2
  | .nothing, _ => trivial
  | .one, _ => trivial
theorem WT.oks_plns {P : Str → Prop} (hP : ∀ s, P s → PyData.strOk s = true) : ∀ ws : List WT, WT.oks P ws → WT.plns ws
  | [], _ => trivial
  | w :: ws, h => ⟨WT.ok_pln hP w h.1, WT.oks_plns hP ws h.2⟩
end
theorem okEq_optD (t : Option Nat) : okEq (optD t) := by
  cases t with
  | none => exact okEq_flat rfl
  | some n => exact okEq_flat rfl
theorem deq_optD (t : Option Nat) : deq (optD t) (optD t) = true := by
  cases t with
  | none => rfl
  | some n => show decide ((n : Int) = (n : Int)) = true; exact decide_eq_true rfl
theorem tx_q : (("q" : String) : Str) = tx [113] := by decide +kernel
theorem cp_letters {l : List Nat} (h : ∀ c ∈ l, c ∈ lettersN) : CpOk l := fun c hc => by
  have := (letters_iff c).mp (h c hc)
  omega
/-- the law: whatever the script, True -/
def spTrue : DSp := fun ds _ Q _ => ∃ ns : List Int, ds = [.lstK (ns.map D.int)] ∧ ns.length ≤ 63 ∧ ∀ M', Q (.bl true) M'
end DL
set_option Elab.async false
set_option linter.all false
set_option maxRecDepth 100000
set_option maxHeartbeats 1000000
/-! DL18: a Hook that tells of defs with super() too. -/
namespace DL
open PySem PySem.Spec PyProof.Rows L2 He

/-- from where the fragment grows -/
def asY (g : Addr → Option Obj) : Nat → List Addr
  | 0 => [mainGlobals, cStatics]
  | n + 1 => growD g (asY g n)
abbrev FnY : Type := Option (Str × Str × Arguments × FuncBody × Scope × Addr × List Str × Addr)
def fnY (K : PySem.W.Frag) (p : Str × Option Str) : FnY := match K.lookup (fAd K p) with
  | some ⟨_, _, .func fd, _⟩ => some (fd.name, fd.qualname, fd.params, fd.body, fd.scope, fd.globals, fd.closure.map (·.1), fd.builtins)
  | _ => none
def valY (d : DefD) : FnY := some (d.name, d.qual, d.params, .stmts d.body, d.scope, mainGlobals, ["__class__"], builtinsNs)
/-- what stands of a def with super() at its class: f2 the base's method -/
def supB (file : Str) (K : PySem.W.Frag) (d : DefD) : Bool := match K.lookup (fAd K d.at_) with
  | some ⟨_, _, .func fd, _⟩ => (match fd.closure, fd.code, fd.defaults with
    | [(_, cc)], .ref cda, .none => PySem.W.codeIn K (.ref cda) d.qual && ((match K.lookup cda with
        | some ⟨_, _, .fields vs, _⟩ => (match (vs[2]? : Option Value) with
          | some (Value.str fl _) => file == fl
          | _ => false)
        | _ => false) && (match K.lookup cc with
        | some ⟨_, _, .cell (some (.ref D)), _⟩ => decide (D = ga K d.at_.1)
        | _ => false))
    | _, _, _ => false)
  | _ => false
/-- .. and of the base's method -/
def baseB (K : PySem.W.Frag) (C f2 : Addr) : Bool := (PySem.W.clsIn K C).isSome && (decide (PySem.W.mroIn K C (.ref C) = some true) && (eqO (PySem.W.ks_superIn K C C "__init__") (some (some (.ref f2))) && (decide (PySem.W.typeIn K (.ref f2) = some (.type "function")) && (PySem.W.fnIn K f2 && eqO (PySem.W.nsIn K cStatics "thirdparty.any") (some none)))))
abbrev AlY : Type := AlD × (Bool × List FnY)
def obsY (fa : List Fa) (fn sn : List DefD) (ex : PySem.W.Frag → Bool) (K : PySem.W.Frag) : AlY := (obsD fa fn K, (ex K, sn.map fun d => fnY K d.at_))
def valYs (fn sn : List DefD) : AlY := (valD fn, (true, sn.map valY))
def SaysY (fa : List Fa) (fn sn : List DefD) (ex : PySem.W.Frag → Bool) (K : PySem.W.Frag) : Prop := obsY fa fn sn ex K = valYs fn sn
def obsYG (n : Nat) (fa : List Fa) (fn sn : List DefD) (ex : PySem.W.Frag → Bool) (g : Addr → Option Obj) : AlY := obsY fa fn sn ex (frG g (asY g n))
def hookY (n : Nat) (fa : List Fa) (fn sn : List DefD) (ex : PySem.W.Frag → Bool) : PySem.W.Hook where
  α := AlY
  obs := fun s => obsYG n fa fn sn ex s.heap.get?
  val := fun _ => valYs fn sn
  says := fun _ h => ∃ K : PySem.W.Frag, K.In h ∧ SaysY fa fn sn ex K
  of := fun _ _ e => ⟨_, frG_in, e⟩
  keeps := fun _ _ _ ⟨K, hK, c⟩ k => ⟨K, PySem.W.Frag.In.keeps hK k, c⟩
theorem obsYG_eq {n : Nat} {fa : List Fa} {fn sn : List DefD} {ex : PySem.W.Frag → Bool} {g : Addr → Option Obj} {s : Shared} (h : ∀ a, g a = s.heap.get? a) : obsYG n fa fn sn ex g = (hookY n fa fn sn ex).obs s := by
  have e : g = s.heap.get? := funext h
  rw [e] <;> rfl
section
variable {fa : List Fa} {fn sn : List DefD} {ex : PySem.W.Frag → Bool} {K : PySem.W.Frag}
theorem SaysY.d (c : SaysY fa fn sn ex K) : SaysD fa fn K := congrArg (fun z : AlY => z.1) c
theorem SaysY.more (c : SaysY fa fn sn ex K) : ex K = true := congrArg (fun z : AlY => z.2.1) c
theorem SaysY.sup (c : SaysY fa fn sn ex K) (i : Nat) {d : DefD} (h : sn[i]? = some d := by rfl) : fnY K d.at_ = valY d := by
  have e : sn.map (fun d => fnY K d.at_) = sn.map valY := congrArg (fun z : AlY => z.2.2) c
  have e2 : (sn.map fun d => fnY K d.at_)[i]? = (sn.map valY)[i]? := by rw [e]
  rw [List.getElem?_map, List.getElem?_map, h] at e2
  exact Option.some.inj e2
end
/-- a def with super(), as the layer wants it -/
theorem supAt_of {P : Program} {K : PySem.W.Frag} {d : DefD} {f2 : Addr} {ps : List Str} {st : Stmt} (e : fnY K d.at_ = valY d) (c : supB P.main.file K d = true) (b : baseB K (ga K d.at_.1) f2 = true) (top : (P.main.scope.names.lookup ("super" : Str)).isSome = false)
    (h1 : d.params = defArgs st) (h2 : d.body = defBody st) (h3 : d.scope = defScope st)
    (hb : ∀ (kV doc pm : Value) (an : Option Addr) (cdv ct : Value) (cl : List (Str × Addr)) (us : List Value), us.length = ps.length → bindArgs (PySem.W.fnX d.name d.qual d.params d.body d.scope cl .none kV doc pm an cdv ct) ⟨us, []⟩ = pure (ps.zip us)) :
    SupAt P K (ga K d.at_.1) d.name d.qual ps st (fAd K d.at_) f2 := by
  unfold fnY at e
  unfold supB at c
  cases q : K.lookup (fAd K d.at_) with
  | none => rw [q] at c; cases c
  | some o =>
    obtain ⟨oc, od, dt, osl⟩ := o
    rw [q] at c e
    cases dt with
    | func fd =>
      obtain ⟨n1, n2, n3, n4, n5, n6, n7, n8, n9, n10, n11, n12, n13, n14, n15⟩ := fd
      have e2 : (some (n1, n2, n3, n4, n5, n6, n7.map (·.1), n15) : FnY) = (some (d.name, d.qual, d.params, FuncBody.stmts d.body, d.scope, mainGlobals, [("__class__" : Str)], builtinsNs) : FnY) := e
      simp only [Option.some.injEq, Prod.mk.injEq] at e2
      obtain ⟨g1, g2, g3, g4, g5, g6, g7, g8⟩ := e2
      obtain ⟨cc, rfl⟩ : ∃ cc, n7 = [(("__class__" : Str), cc)] := by
        match n7, g7 with
        | [(x, cc)], g7 =>
          simp only [List.map_cons, List.map_nil, List.cons.injEq, and_true] at g7
          subst g7
          exact ⟨cc, rfl⟩
      subst g4 g6 g8
      cases n13 with
      | ref cda =>
       cases n8 with
       | none =>
        have c2 : (PySem.W.codeIn K (.ref cda) d.qual && ((match K.lookup cda with
          | some ⟨_, _, .fields vs, _⟩ => (match (vs[2]? : Option Value) with
            | some (Value.str fl _) => (P.main.file : Str) == fl
            | _ => false)
          | _ => false) && (match K.lookup cc with
          | some ⟨_, _, .cell (some (.ref D)), _⟩ => decide (D = ga K d.at_.1)
          | _ => false))) = true := c
        obtain ⟨c3, c4⟩ := ba c2
        obtain ⟨c5, c6⟩ := ba c4
        obtain ⟨b1, b2⟩ := ba b
        obtain ⟨b3, b4⟩ := ba b2
        obtain ⟨b5, b6⟩ := ba b4
        obtain ⟨b7, b8⟩ := ba b6
        obtain ⟨b9, b10⟩ := ba b8
        refine ⟨cc, cda, _, ⟨⟨oc, od, .none, n9, n10, n11, n12, n14, osl, ?_, q⟩, c3⟩, ⟨?_, ?_, ?_, of_decide_eq_true b3, eqO_ok b5, of_decide_eq_true b7, b9, eqO_ok b10, top⟩, ?_⟩
        · rw [← h1, ← h2, ← h3, ← g1, ← g2, ← g3, ← g5]
        · cases z : K.lookup cda with
          | none => rw [z] at c5; cases c5
          | some o2 =>
            obtain ⟨a1, a2, a3, a4⟩ := o2
            rw [z] at c5
            cases a3 with
            | fields vs =>
              have c7 : (match (vs[2]? : Option Value) with
                | some (Value.str fl _) => (P.main.file : Str) == fl
                | _ => false) = true := c5
              cases y : (vs[2]? : Option Value) with
              | none => rw [y] at c7; cases c7
              | some u =>
                rw [y] at c7
                cases u with
                | str fl tf => exact ⟨a1, a2, vs, a4, fl, tf, rfl, y, c7⟩
                | _ => cases c7
            | _ => cases c5
        · cases z : K.lookup cc with
          | none => rw [z] at c6; cases c6
          | some o2 =>
            obtain ⟨a1, a2, a3, a4⟩ := o2
            rw [z] at c6
            cases a3 with
            | cell v =>
              cases v with
              | none => cases c6
              | some u =>
                cases u with
                | ref D =>
                  have := of_decide_eq_true (show decide (D = ga K d.at_.1) = true from c6)
                  subst this
                  exact ⟨a1, a2, a4, rfl⟩
                | _ => cases c6
            | _ => cases c6
        · exact Option.isSome_iff_exists.mp b1
        · refine .all fun us hl => ?_
          have := hb n9 n10 n11 n12 (.ref cda) n14 [(("__class__" : Str), cc)] us hl
          rw [← g1, ← g2, ← g3, ← g5] at this
          exact this
       | _ => cases c
      | _ => cases c
    | _ => cases c
end DL
namespace DL
open PySem PySem.Spec PyProof.Rows L2
theorem reps_script {K : PySem.W.Frag} {S : Hp} : ∀ ns : List Int, Reps K S (ns.map D.int) (ns.map V.int)
  | [] => trivial
  | _ :: ns => ⟨rfl, reps_script ns⟩
/-- the law is called with the script -/
theorem law_start {K : PySem.W.Frag} {H : Hp} {a : Addr} {ns : List Int} {E : XK} {Q : VK} (hl : ns.length ≤ 63) (hS : SqL K H a (ns.map V.int)) (hQ : ∀ H', Q (.bl true) H') : LSp K spTrue [.ref a] H Q E :=
  ⟨fun _ => none, H, [.lstK (ns.map D.int)], fun _ => none, fun d _ => d = .bl true, KX0, ⟨Same.refl _, fun a o e => (by cases e), fun a o e => (by cases e)⟩, ⟨⟨a, _, rfl, hS, reps_script ns⟩, trivial⟩, ⟨ns, rfl, hl, fun _ => rfl⟩,
    fun v H' S' M' d s c r q => by
      subst q
      cases r
      exact hQ _, fun _ _ _ _ _ _ _ _ _ _ z => z.elim⟩
end DL

set_option Elab.async false
set_option linter.all false
set_option maxRecDepth 100000
set_option maxHeartbeats 4000000
namespace K06
open PySem PySem.Spec PyProof.Rows L2 DL

def top (i : Nat) : Stmt := PySem.Challenge.pw_waystaken_k06_takes_of_short_texts.main.body.getD i (.Pass ⟨0, 0, 0, 0⟩)

local macro_rules | `(tactic| walk_at "dl") => `(tactic| with_reducible conv => whnf)
local macro_rules | `(tactic| walk_at "pen") => `(tactic| (walk_at "dl"; repeat (first | rw [mset_same] | rw [pen_cells] | rw [pen_at] | rw [pen_left] | rw [penN_at, penD_at] | rw [penN_left, penD_left]); walk_at "dl"))
local macro_rules | `(tactic| walk_at "c") => `(tactic| (refine And.intro (by first | decide | assumption | omega | rfl | (show 1 ≤ sizeLine; decide) | (show 2 ≤ sizeLine; decide) | (show 3 ≤ sizeLine; decide) | (show 4 ≤ sizeLine; decide)) ?_; walk_at "dl"))
local macro_rules | `(tactic| walk_at "q") => `(tactic| (refine And.intro (by first | assumption | exact okEq_flat rfl | exact okEq_flat (by decide +kernel)) (And.intro (by first | assumption | exact okEq_flat rfl | exact okEq_flat (by decide +kernel)) ?_); walk_at "dl"; try (first | rw [deq_int] | rw [deq_NI] | rw [deq_IN] | rw [deq_NN] | (rw [deq_str, lit_beq]; conv in (_ == _) => simp only [String.reduceBEq]) | rw [deq_str] | (conv in deq _ _ => simp only [String.reduceBEq, deq_bf, deq_bt])); walk_at "dl"))
local macro_rules | `(tactic| walk_at "in") => `(tactic| (refine And.intro rfl (And.intro rfl ?_); walk_at "dl"; (conv in inF _ _ => simp only [inF_cons, inF_nil, eqF_lit, String.reduceBEq, Bool.or_false, Bool.or_true, Bool.false_or, Bool.true_or]); walk_at "dl"))
local macro_rules | `(tactic| walk_at "a") => `(tactic| (walk_at "dl"; repeat (first | walk_at "in" | walk_at "q" | walk_at "c")))

section
variable {P : Program} {w : World} {K : PySem.W.Frag} {mg : Str → Option Value} {base : Heap}

abbrev s__law_draw : Stmt := top 41
abbrev N_s__law_draw : List Str := ["_law_pen_here", "_law_many", "_law_digit", "_law_at", "_law_cell", "_law_mixed"]
theorem sc_s__law_draw : FnScope N_s__law_draw ["_law_pen_here", "_law_many"] (defScope s__law_draw) := ⟨rfl, rfl, rfl, by decide +kernel, rfl, by decide +kernel, by decide +kernel⟩
local macro_rules | `(tactic| walk_at "tail") => `(tactic| (walk_at "c"; refine ⟨mulW (by omega) (by decide), ?_⟩; walk_at "dl"; refine ⟨mulW (by decide) (by omega), ?_⟩; walk_at "dl"; refine ⟨mulW (by omega) (by omega), ?_⟩; walk_at "dl"; refine ⟨mulW (by decide) (by omega), ?_⟩; walk_at "dl"; walk_at "c"; refine ⟨mulW (by omega) (by omega), ?_⟩; walk_at "dl"; walk_at "c"; refine ⟨mulW (by omega) (by omega), ?_⟩; walk_at "dl"; walk_at "c"; refine ⟨wide_div (b := 64) (by decide) (by decide) (by decide) (by decide), ?_⟩; walk_at "dl"; refine ⟨by assumption, ?_⟩; walk_at "dl"))
theorem ok_draw (T : TxtP mg) (Df : DefAt K mg "_law_draw" ["_law_pen_here", "_law_many"] s__law_draw) : Fn P w K mg base 1 "_law_draw" ["_law_pen_here", "_law_many"] spDraw := by
  refine okF Df sc_s__law_draw (fun ds M Q E h => ?_) fun f cdv A outer s H E hr => ⟨_, (ss_cons (s_if (d_tcmp od_ge (d_dget (hu_of hr) (d_var 0) d_str) (d_var 1) (nomark _))
    (ss_cons (s_set (i := 2) sc_s__law_draw.nd (d_op od_mod (d_callTy cd_int rfl T.z_int (by decide +kernel) (a_cons (d_dget (hu_of hr) (d_var 0) d_str) a_nil)) (d_var 1)))
    (ss_cons (s_dput (hu_of hr) (d_var 0) d_str (d_op od_fdiv (d_dget (hu_of hr) (d_var 0) d_str) (d_var 1)))
    (ss_one (s_ret (d_var 2)))))
    ss_nil)
    (ss_cons (s_set (i := 3) sc_s__law_draw.nd (d_dget (hu_of hr) (d_var 0) d_str))
    (ss_cons (s_dput (hu_of hr) (d_var 0) d_str (d_op od_add (d_var 3) d_int))
    (ss_cons (s_set (i := 4) sc_s__law_draw.nd (d_op od_add (d_op od_mul d_int (d_var 3)) d_int))
    (ss_cons (s_if (d_tcmp (od_ne hr) (d_dget (hu_of hr) (d_var 0) d_str) (d_lst a_nil) (nomark _))
    (ss_one (s_set (i := 4) sc_s__law_draw.nd (d_ix (d_dget (hu_of hr) (d_var 0) d_str) (d_op od_mod (d_callTy cd_int rfl T.z_int (by decide +kernel) (a_cons (d_var 3) a_nil)) (d_callB cd_len rfl T.z_len PySem.boot_len (a_cons (d_dget (hu_of hr) (d_var 0) d_str) a_nil))))))
    ss_nil)
    (ss_cons (s_if (d_wt (w_and (d_tcmp od_lt (d_var 3) (d_callB cd_len rfl T.z_len PySem.boot_len (a_cons (d_dget (hu_of hr) (d_var 0) d_str) a_nil)) (nomark _)) (w_and1 (d_tcmp od_ge (d_var 4) (d_op od_pow d_int d_int) (nomark _)))))
    (ss_cons (s_dput (hu_of hr) (d_var 0) d_str (d_op od_fdiv (d_op od_sub (d_var 4) (d_op od_pow d_int d_int)) (d_var 1)))
    (ss_one (s_ret (d_op od_mod (d_callTy cd_int rfl T.z_int (by decide +kernel) (a_cons (d_op od_sub (d_var 4) (d_op od_pow d_int d_int)) a_nil)) (d_var 1)))))
    ss_nil)
    (ss_cons (s_set (i := 5) sc_s__law_draw.nd (d_op od_add (d_op od_add (d_op od_add (d_op od_mul (d_op od_mod (d_callTy cd_int rfl T.z_int (by decide +kernel) (a_cons (d_var 4) a_nil)) d_int) d_int) (d_op od_mul (d_op od_mul d_int (d_var 3)) (d_var 3))) (d_op od_mul d_int (d_var 3))) d_int))
    (ss_cons (s_set (i := 5) sc_s__law_draw.nd (d_op od_mod (d_callTy cd_int rfl T.z_int (by decide +kernel) (a_cons (d_var 5) a_nil)) d_int))
    (ss_cons (s_set (i := 5) sc_s__law_draw.nd (d_op od_mod (d_callTy cd_int rfl T.z_int (by decide +kernel) (a_cons (d_op od_mul (d_var 5) (d_op od_add (d_var 5) d_int)) a_nil)) d_int))
    (ss_one (s_ret (d_op od_mod (d_callTy cd_int rfl T.z_int (by decide +kernel) (a_cons (d_op od_fdiv (d_op od_mod (d_callTy cd_int rfl T.z_int (by decide +kernel) (a_cons (d_op od_mul (d_var 5) (d_var 5)) a_nil)) d_int) d_int) a_nil)) (d_var 1))))))))))))), fun ds M Q Ed h => ?_⟩
  · obtain ⟨p, m, n, o, rfl, _⟩ := h
    rfl
  · obtain ⟨p, m, n, o, rfl, h1, h2, h3, h4, ⟨c, a, l, rfl, h5, h6, h7⟩, k⟩ := h
    have e : startD N_s__law_draw [.ref p, .int m] = [.val (.ref p), .val (.int m), Sl.no, Sl.no, Sl.no, Sl.no] := rfl
    rw [e]
    walk_at "dl"
    have hb : m.natAbs < 2 ^ 200 := by omega
    have fin : ∀ (x l' : Int), 0 ≤ a → ∀ a', 0 ≤ a' → a' ≤ n + 1 → Q (.int (x % m)) (mset M p (penMO c a' l')) := fun x l' _ a' h8 h9 => k _ _ (Int.emod_nonneg _ (by omega)) (Int.emod_lt_of_pos _ h1) ⟨c, a', _, rfl, h5, h8, h9⟩
    rw [h4]
    walk_at "pen"
    walk_at "pen"
    by_cases c1 : m ≤ l
    · rw [decide_eq_true c1]
      walk_at "dl"
      rw [h4]
      walk_at "pen"
      walk_at "c"
      rw [h4]
      walk_at "pen"
      refine ⟨wide_div h1 hb (by decide) (by decide), ?_⟩
      walk_at "dl"
      rw [h4]
      walk_at "dl"
      walk_at "c"
      walk_at "pen"
      exact fin _ _ h6 a h6 (by omega)
    · rw [decide_eq_false c1]
      walk_at "dl"
      rw [h4]
      walk_at "pen"
      rw [h4]
      walk_at "dl"
      walk_at "c"
      walk_at "pen"
      refine ⟨mulW (by decide) (by omega), ?_⟩
      walk_at "pen"
      walk_at "pen"
      walk_at "c"
      refine ⟨okEq_ints c, ?_⟩
      refine ⟨okEq_nil, ?_⟩
      walk_at "dl"
      rw [deq_nil]
      have e18 : (10 : Int) ^ Int.toNat 18 = 1000000000000000000 := by decide
      -- behind the cell: any number
      by_cases hc : c = []
      · have e0 : (c.map D.int).isEmpty = true := by rw [hc]; rfl
        rw [e0]
        walk_at "dl"
        walk_at "pen"
        walk_at "pen"
        have e1 : decide (a < ((c.map D.int).length : Int)) = false := decide_eq_false (by rw [hc]; show ¬ a < 0; omega)
        rw [e1]
        walk_at "dl"
        walk_at "tail"
        exact fin _ _ h6 _ (by omega) (by omega)
      · have e0 : (c.map D.int).isEmpty = false := by
          cases c with
          | nil => exact absurd rfl hc
          | cons _ _ => rfl
        rw [e0]
        have hn : 0 < ((c.map D.int).length : Int) := by
          cases c with
          | nil => exact absurd rfl hc
          | cons _ _ => rw [List.map_cons, List.length_cons]; omega
        walk_at "dl"
        walk_at "pen"
        walk_at "pen"
        refine ⟨hn, ?_⟩
        obtain ⟨x, hx⟩ := atI_ints (c := c) (i := a % ((c.map D.int).length : Int)) (Int.emod_nonneg _ (by omega)) (by
          have := Int.emod_lt_of_pos a hn
          rw [List.length_map] at this ⊢
          exact this)
        walk_at "dl"
        rw [hx]
        walk_at "dl"
        walk_at "pen"
        walk_at "pen"
        by_cases c2 : a < ((c.map D.int).length : Int)
        · rw [decide_eq_true c2]
          walk_at "dl"
          refine ⟨⟨by decide, by decide, by decide⟩, ?_⟩
          walk_at "dl"
          by_cases c3 : (10 : Int) ^ Int.toNat 18 ≤ x
          · rw [decide_eq_true c3]
            walk_at "dl"
            refine ⟨⟨by decide, by decide, by decide⟩, ?_⟩
            walk_at "dl"
            refine ⟨wide_div h1 hb (by decide) (by decide), ?_⟩
            walk_at "pen"
            walk_at "c"
            walk_at "pen"
            refine ⟨⟨by decide, by decide, by decide⟩, ?_⟩
            walk_at "dl"
            walk_at "c"
            rw [mset_mset]
            exact fin _ _ h6 _ (by omega) (by omega)
          · rw [decide_eq_false c3]
            walk_at "dl"
            walk_at "tail"
            exact fin _ _ h6 _ (by omega) (by omega)
        · rw [decide_eq_false c2]
          walk_at "dl"
          walk_at "tail"
          exact fin _ _ h6 _ (by omega) (by omega)


abbrev s__law_pen : Stmt := top 40
abbrev N_s__law_pen : List Str := ["_law_script"]
theorem sc_s__law_pen : FnScope N_s__law_pen ["_law_script"] (defScope s__law_pen) := ⟨rfl, rfl, rfl, by decide +kernel, rfl, by decide +kernel, by decide +kernel⟩
theorem ok_pen (T : TxtP mg) (Df : DefAt K mg "_law_pen" ["_law_script"] s__law_pen) : Fn P w K mg base 1 "_law_pen" ["_law_script"] spPen := by
  refine okF Df sc_s__law_pen (fun ds M Q E h => ?_) fun f cdv A outer s H E hr => ⟨_, (ss_one (s_ret (d_pen (d_callTy cd_list rfl T.z_list (by decide +kernel) (a_cons (d_slice (d_var 0) o_none (o_some d_int)) a_nil)) d_int d_int))), fun ds M Q Ed h => ?_⟩
  · obtain ⟨ns, rfl, _⟩ := h
    rfl
  · obtain ⟨ns, rfl, h1, k⟩ := h
    have e : startD N_s__law_pen [.lstK (ns.map D.int)] = [.val (.lstK (ns.map D.int))] := rfl
    rw [e]
    walk_at "dl"
    intro p hp
    walk_at "dl"
    refine k p _ hp ⟨(ns.take 63), 0, 0, ?_, by rw [List.length_take]; omega, by decide, by decide⟩
    have e1 : HT.sIx (ns.map D.int).length 0 Option.none = 0 := rfl
    have e2 : HT.sIx (ns.map D.int).length (ns.map D.int).length (some 63) = min 63 (ns.map D.int).length := HT.sIx_nat _ _ 63
    rw [e1, e2, List.drop_zero, Nat.sub_zero, List.length_map]
    show MO.dK penK _ = MO.dK penK _
    rw [List.map_take]
    rcases Nat.le_total 63 ns.length with g | g
    · rw [Nat.min_eq_left g]
    · rw [Nat.min_eq_right g, List.take_of_length_le (by rw [List.length_map]; omega), List.take_of_length_le (by rw [List.length_map]; omega)]


abbrev s__law_pick : Stmt := top 42
abbrev N_s__law_pick : List Str := ["_law_pen_here", "_law_items"]
theorem sc_s__law_pick : FnScope N_s__law_pick ["_law_pen_here", "_law_items"] (defScope s__law_pick) := ⟨rfl, rfl, rfl, by decide +kernel, rfl, by decide +kernel, by decide +kernel⟩
theorem ok_pick (T : TxtP mg) (h__law_draw : Fn P w K mg base 1 "_law_draw" ["_law_pen_here", "_law_many"] spDraw) (Df : DefAt K mg "_law_pick" ["_law_pen_here", "_law_items"] s__law_pick) : Fn P w K mg base 2 "_law_pick" ["_law_pen_here", "_law_items"] spPick := by
  refine okF Df sc_s__law_pick (fun ds M Q E h => ?_) fun f cdv A outer s H E hr => ⟨_, (ss_one (s_ret (d_ix (d_var 1) (d_callF h__law_draw (hr.mono (by first | decide | omega)) (a_cons (d_var 0) (a_cons (d_callB cd_len rfl T.z_len PySem.boot_len (a_cons (d_var 1) a_nil)) a_nil)))))), fun ds M Q Ed h => ?_⟩
  · obtain ⟨p, it, es, n, o, rfl, _⟩ := h
    rfl
  · obtain ⟨p, it, es, n, o, rfl, h1, h2, h3, h4, h5, h6, k⟩ := h
    have e : startD N_s__law_pick [.ref p, it] = [.val (.ref p), .val it] := rfl
    rw [e]
    have fin : ∀ (i : Int) (o' : MO), 0 ≤ i → i < es.length → PenO o' (n + 1) → ∃ r, atI es i = some r ∧ Q r (mset M p o') := fun i o' g1 g2 g3 => by
      obtain ⟨e1, r, er⟩ := atI_of g1 g2
      exact ⟨r, e1.trans er, k r o' (List.mem_of_getElem? er) g3⟩
    cases it with
    | str z =>
      have e1 : es = strD z := (Option.some.inj h1).symm
      have e2 : (es.length : Int) = z.length := by rw [e1]; unfold strD; rw [List.length_map, Array.length_toList]; rfl
      walk_at "dl"
      have hz : z.length ≤ sizeLine := by rw [sizeLine_eq]; omega
      refine ⟨hz, ?_⟩
      walk_at "dl"
      refine ⟨p, z.length, n, o, rfl, by omega, by omega, h4, h5, h6, fun i o' g1 g2 g3 => ?_⟩
      walk_at "dl"
      refine ⟨hz, ?_⟩
      obtain ⟨r, e3, q⟩ := fin i o' g1 (by omega) g3
      rw [e1] at e3
      unfold strD at e3
      cases e4 : atI z.cps.toList i with
      | none =>
        unfold atI at e3 e4
        rw [List.length_map] at e3
        cases e5 : ixN z.cps.toList.length i with
        | none => rw [e5] at e3; cases e3
        | some j =>
          rw [e5] at e3 e4
          have e6 : (z.cps.toList.map fun c => D.str ⟨#[c]⟩)[j]? = some r := e3
          rw [List.getElem?_map, show z.cps.toList[j]? = none from e4] at e6
          cases e6
      | some c =>
        walk_at "dl"
        have e7 : r = .str ⟨#[c]⟩ := by
          unfold atI at e3 e4
          rw [List.length_map] at e3
          cases e5 : ixN z.cps.toList.length i with
          | none => rw [e5] at e3; cases e3
          | some j =>
            rw [e5] at e3 e4
            have e6 : (z.cps.toList.map fun c => D.str ⟨#[c]⟩)[j]? = some r := e3
            rw [List.getElem?_map, show z.cps.toList[j]? = some c from e4] at e6
            exact (Option.some.inj e6).symm
        rw [← e7]
        exact q
    | tup ds =>
      have e1 : es = ds := (Option.some.inj h1).symm
      subst e1
      walk_at "dl"
      refine ⟨p, es.length, n, o, rfl, by omega, by omega, h4, h5, h6, fun i o' g1 g2 g3 => ?_⟩
      walk_at "dl"
      obtain ⟨r, e3, q⟩ := fin i o' g1 g2 g3
      rw [e3]
      walk_at "dl"
      exact q
    | lst ds =>
      have e1 : es = ds := (Option.some.inj h1).symm
      subst e1
      walk_at "dl"
      refine ⟨p, es.length, n, o, rfl, by omega, by omega, h4, h5, h6, fun i o' g1 g2 g3 => ?_⟩
      walk_at "dl"
      obtain ⟨r, e3, q⟩ := fin i o' g1 g2 g3
      rw [e3]
      walk_at "dl"
      exact q
    | lstK ds =>
      have e1 : es = ds := (Option.some.inj h1).symm
      subst e1
      walk_at "dl"
      refine ⟨p, es.length, n, o, rfl, by omega, by omega, h4, h5, h6, fun i o' g1 g2 g3 => ?_⟩
      walk_at "dl"
      obtain ⟨r, e3, q⟩ := fin i o' g1 g2 g3
      rw [e3]
      walk_at "dl"
      exact q
    | _ => cases h1


abbrev s__law_signs : Stmt := top 43
abbrev N_s__law_signs : List Str := ["_law_pen_here", "_law_many", "_law_left", "_law_found", "_law_turn", "_law_at"]
theorem sc_s__law_signs : FnScope N_s__law_signs ["_law_pen_here", "_law_many"] (defScope s__law_signs) := ⟨rfl, rfl, rfl, by decide +kernel, rfl, by decide +kernel, by decide +kernel⟩
theorem ok_signs (T : TxtP mg) (h__law_draw : Fn P w K mg base 1 "_law_draw" ["_law_pen_here", "_law_many"] spDraw) (Df : DefAt K mg "_law_signs" ["_law_pen_here", "_law_many"] s__law_signs) : Fn P w K mg base 2 "_law_signs" ["_law_pen_here", "_law_many"] spSigns := by
  refine okF Df sc_s__law_signs (fun ds M Q E h => ?_) fun f cdv A outer s H E hr => ⟨_, (ss_cons (s_asg (d_tup (a_cons d_str (a_cons d_str a_nil))) (g_tup (n := 2) rfl (gs_cons (g_name (i := 2) sc_s__law_signs.nd) (gs_cons (g_name (i := 3) sc_s__law_signs.nd) gs_nil))))
    (ss_cons (s_for PassesOwn.never rfl (i_rng1 rfl T.z_range (a_cons (d_var 1) a_nil)) (g_name (i := 4) sc_s__law_signs.nd)
    (ss_cons (s_set (i := 5) sc_s__law_signs.nd (d_callF h__law_draw (hr.mono (by first | decide | omega)) (a_cons (d_var 0) (a_cons (d_callB cd_len rfl T.z_len PySem.boot_len (a_cons (d_var 2) a_nil)) a_nil))))
    (ss_one (s_par (i := 3) (j := 2) (ka := (.v _)) (kb := (.v _)) rfl sc_s__law_signs.nd (d_op od_add (d_var 3) (d_ix (d_var 2) (d_var 5))) (d_op od_add (d_slice (d_var 2) o_none (o_some (d_var 5))) (d_slice (d_var 2) (o_some (d_op od_add (d_var 5) d_int)) o_none))))))
    (ss_one (s_ret (d_var 3))))), fun ds M Q Ed h => ?_⟩
  · obtain ⟨p, m, n, o, rfl, _⟩ := h
    rfl
  · obtain ⟨p, m, n, o, rfl, h1, h2, h3, h4, k⟩ := h
    have e : startD N_s__law_signs [.ref p, .int (m : Nat)] = [.val (.ref p), .val (.int (m : Nat)), Sl.no, Sl.no, Sl.no, Sl.no] := rfl
    rw [e]
    walk_at "dl"
    refine ⟨by decide, ?_⟩
    walk_at "dl"
    refine ⟨rfl, ?_⟩
    walk_at "dl"
    refine ⟨⟨by omega, by omega⟩, ?_⟩
    refine forW_rng (fun i env M' => ∃ a b o' v1 v2, env = [.val (.ref p), .val (.int (m : Nat)), .val (.str (tx b)), .val (.str (tx a)), v1, v2] ∧ M' = mset M p o' ∧ PenO o' (n + i) ∧ (a ++ b).Perm lettersN ∧ (a.length : Int) = i) _ 0 ?_ ?_ _ _ ?_
    · rintro env M' ⟨a, b, o', v1, v2, rfl, rfl, g1, g2, g3⟩
      walk_at "dl"
      have e1 : (0 : Int) + ((((m : Nat) : Int).toNat : Nat) : Int) = (m : Int) := by omega
      rw [e1] at g1 g3
      exact k a o' (by omega) (signs_ok g2) g1
    · rintro i R g4 g5 hR env M' ⟨a, b, o', v1, v2, rfl, rfl, g1, g2, g3⟩
      have hl : a.length + b.length = 26 := by
        rw [← List.length_append, g2.length_eq]
        rfl
      walk_at "dl"
      refine ⟨by rw [tx_len, sizeLine_eq]; omega, ?_⟩
      walk_at "dl"
      refine ⟨p, b.length, n + i, o', rfl, by omega, by omega, by omega, by rw [mset_same], g1, fun x o2 c1 c2 c3 => ?_⟩
      have hz : (tx b).length ≤ sizeLine := by rw [tx_len, sizeLine_eq]; omega
      obtain ⟨j, rfl⟩ := Int.eq_ofNat_of_zero_le c1
      have hj : j < b.length := by omega
      obtain ⟨c, hc⟩ : ∃ c, b[j]? = some c := ⟨b[j], by simp [hj]⟩
      walk_at "dl"
      refine ⟨hz, ?_⟩
      rw [tx_cps, atI_k, hc]
      walk_at "dl"
      refine ⟨by rw [tx_len, sizeLine_eq]; show a.length + 1 ≤ _; omega, ?_⟩
      walk_at "dl"
      refine ⟨hz, ?_⟩
      walk_at "dl"
      refine ⟨hz, ?_⟩
      walk_at "dl"
      have e5 : ((j : Int) + 1) = ((j + 1 : Nat) : Int) := by omega
      rw [e5, cut_lo, cut_hi]
      refine ⟨by rw [tx_len, tx_len, sizeLine_eq, List.length_take, List.length_drop]; omega, ?_⟩
      walk_at "dl"
      rw [mset_mset]
      have e6 : tx a ++ ({ cps := #[c] } : Str) = tx (a ++ [c]) := tx_add a [c]
      rw [e6, tx_add]
      refine hR _ _ ⟨a ++ [c], b.take j ++ b.drop (j + 1), o2, _, _, rfl, rfl, ?_, signs_step g2 hc, ?_⟩
      · have e7 : n + (i + 1) = n + i + 1 := by omega
        rw [e7]
        exact c3
      · rw [List.length_append, List.length_singleton]
        omega
    · exact ⟨[], lettersN, o, .no, .no, by rw [tx_letters, tx_empty], (mset_self h3).symm, by rw [Int.add_zero]; exact h4, List.Perm.refl _, rfl⟩


abbrev s__law_leaf : Stmt := top 44
abbrev N_s__law_leaf : List Str := ["_law_pen_here", "_law_signs_here", "_law_sort"]
theorem sc_s__law_leaf : FnScope N_s__law_leaf ["_law_pen_here", "_law_signs_here"] (defScope s__law_leaf) := ⟨rfl, rfl, rfl, by decide +kernel, rfl, by decide +kernel, by decide +kernel⟩
theorem ok_leaf (T : TxtP mg) (h__law_draw : Fn P w K mg base 1 "_law_draw" ["_law_pen_here", "_law_many"] spDraw) (h__law_pick : Fn P w K mg base 2 "_law_pick" ["_law_pen_here", "_law_items"] spPick) (Df : DefAt K mg "_law_leaf" ["_law_pen_here", "_law_signs_here"] s__law_leaf) : Fn P w K mg base 3 "_law_leaf" ["_law_pen_here", "_law_signs_here"] spLeaf := by
  refine okF Df sc_s__law_leaf (fun ds M Q E h => ?_) fun f cdv A outer s H E hr => ⟨_, (ss_cons (s_set (i := 2) sc_s__law_leaf.nd (d_callF h__law_draw (hr.mono (by first | decide | omega)) (a_cons (d_var 0) (a_cons d_int a_nil))))
    (ss_cons (s_if (d_tcmp (od_eq hr) (d_var 2) d_int (nomark _))
    (ss_one (s_ret (d_tup (a_cons d_str a_nil))))
    ss_nil)
    (ss_one (s_ret (d_ifExp (d_tcmp od_lt (d_var 2) d_int (nomark _)) (d_tup (a_cons d_str a_nil)) (d_tup (a_cons d_str (a_cons (d_callF h__law_pick (hr.mono (by first | decide | omega)) (a_cons (d_var 0) (a_cons (d_var 1) a_nil))) a_nil)))))))), fun ds M Q Ed h => ?_⟩
  · obtain ⟨p, l, n, o, rfl, _⟩ := h
    rfl
  · obtain ⟨p, l, n, o, rfl, h1, h2, h3, h4, h5, k⟩ := h
    have e : startD N_s__law_leaf [.ref p, .str (tx l)] = [.val (.ref p), .val (.str (tx l)), Sl.no] := rfl
    rw [e]
    walk_at "dl"
    refine ⟨p, 8, n, o, rfl, by omega, by omega, by omega, h4, h5, fun x o' c1 c2 c3 => ?_⟩
    walk_at "q"
    have c4 : PenO o' (n + 2) := c3.mono (by omega)
    by_cases g1 : x = 0
    · rw [decide_eq_true g1]
      walk_at "dl"
      walk_at "c"
      exact k .nothing o' rfl trivial c4
    · rw [decide_eq_false g1]
      walk_at "dl"
      by_cases g2 : x < 3
      · rw [decide_eq_true g2]
        walk_at "dl"
        walk_at "c"
        exact k .one o' rfl trivial c4
      · rw [decide_eq_false g2]
        walk_at "dl"
        refine ⟨p, .str (tx l), strD (tx l), n + 1, o', rfl, rfl, ?_, ?_, by omega, by rw [mset_same], c3, fun r o2 d1 d2 => ?_⟩
        · rw [strD_tx, List.length_map]; exact h1
        · rw [strD_tx, List.length_map]; omega
        walk_at "dl"
        walk_at "c"
        rw [strD_tx] at d1
        obtain ⟨c, hc, rfl⟩ := List.mem_map.mp d1
        rw [mset_mset]
        exact k (.letter (tx [c])) o2 rfl ⟨c, hc, rfl⟩ (d2.mono (by omega))


abbrev s__law_way_of : Stmt := top 46
abbrev N_s__law_way_of : List Str := ["_law_pen_here", "_law_signs_here", "_law_size", "_law_word", "_law_left", "_law_found", "_law_rest", "_law_share"]
theorem sc_s__law_way_of : FnScope N_s__law_way_of ["_law_pen_here", "_law_signs_here", "_law_size"] (defScope s__law_way_of) := ⟨rfl, rfl, rfl, by decide +kernel, rfl, by decide +kernel, by decide +kernel⟩
theorem ok_way_of (T : TxtP mg) (h__law_draw : Fn P w K mg base 1 "_law_draw" ["_law_pen_here", "_law_many"] spDraw) (h__law_pick : Fn P w K mg base 2 "_law_pick" ["_law_pen_here", "_law_items"] spPick) (h__law_leaf : Fn P w K mg base 3 "_law_leaf" ["_law_pen_here", "_law_signs_here"] spLeaf) (Df : DefAt K mg "_law_way_of" ["_law_pen_here", "_law_signs_here", "_law_size"] s__law_way_of) (S : Nat) : Fn P w K mg base (3 + S) "_law_way_of" ["_law_pen_here", "_law_signs_here", "_law_size"] (spWayOf S) := by
  induction S with
  | zero => exact Fn.vac Df fun ds M Q E ⟨p, l, m, n, o, _, h1, h2, _⟩ => absurd h1 (by omega)
  | succ S h__law_way_of =>
  rw [show 3 + (S + 1) = (3 + S) + 1 from rfl]
  refine okF Df sc_s__law_way_of (fun ds M Q E h => ?_) fun f cdv A outer s H E hr => ⟨_, (ss_cons (s_if (d_tcmp (od_eq hr) (d_var 2) d_int (nomark _))
    (ss_one (s_ret (d_callF h__law_leaf (hr.mono (by first | decide | omega)) (a_cons (d_var 0) (a_cons (d_var 1) a_nil)))))
    ss_nil)
    (ss_cons (s_if (d_wt (w_or (d_tcmp (od_eq hr) (d_var 2) d_int (nomark _)) (w_or1 (d_tcmp (od_eq hr) (d_callF h__law_draw (hr.mono (by first | decide | omega)) (a_cons (d_var 0) (a_cons d_int a_nil))) d_int (nomark _)))))
    (ss_cons (s_set (i := 3) sc_s__law_way_of.nd (d_callF h__law_pick (hr.mono (by first | decide | omega)) (a_cons (d_var 0) (a_cons (d_lst (a_cons d_str (a_cons d_str (a_cons d_str (a_cons d_str (a_cons d_str a_nil)))))) a_nil))))
    (ss_one (s_ret (d_tup (a_cons (d_var 3) (a_cons (d_callF h__law_way_of (hr.mono (by first | decide | omega)) (a_cons (d_var 0) (a_cons (d_var 1) (a_cons (d_op od_sub (d_var 2) d_int) a_nil)))) a_nil))))))
    ss_nil)
    (ss_cons (s_par3 (i := 3) (j := 4) (l := 5) (kc := (.n _)) rfl sc_s__law_way_of.nd (d_callF h__law_pick (hr.mono (by first | decide | omega)) (a_cons (d_var 0) (a_cons (d_lst (a_cons d_str (a_cons d_str (a_cons d_str a_nil)))) a_nil))) (d_op od_sub (d_var 2) d_int) (n_lst a_nil))
    (ss_cons (s_while PassesOwn.never (d_tcmp od_gt (d_var 4) d_int (nomark _))
    (ss_cons (s_set (i := 6) sc_s__law_way_of.nd (d_and (d_neO hr 5 (d_lst a_nil)) (d_one (d_cmp (od_eq hr) (d_callF h__law_draw (hr.mono (by first | decide | omega)) (a_cons (d_var 0) (a_cons d_int a_nil))) d_int (nomark _)))))
    (ss_cons (s_set (i := 7) sc_s__law_way_of.nd (d_ifExp (d_truth (d_var 6)) (d_var 4) (d_op od_add d_int (d_callF h__law_draw (hr.mono (by first | decide | omega)) (a_cons (d_var 0) (a_cons (d_var 4) a_nil))))))
    (ss_cons (s_set (i := 7) sc_s__law_way_of.nd (d_ifExp (d_wt (w_and (d_teqO hr 5 (d_lst a_nil)) (w_and1 (d_tcmp (od_eq hr) (d_var 7) (d_var 4) (nomark _))))) (d_op od_sub (d_var 4) d_int) (d_var 7)))
    (ss_cons (s_append 5 (d_callF h__law_way_of (hr.mono (by first | decide | omega)) (a_cons (d_var 0) (a_cons (d_var 1) (a_cons (d_var 7) a_nil)))))
    (ss_one (s_set (i := 4) sc_s__law_way_of.nd (d_op od_sub (d_var 4) (d_var 7)))))))))
    (ss_one (s_ret (d_tup (a_cons (d_var 3) (a_cons (d_var 5) a_nil))))))))), fun ds M Q Ed h => ?_⟩
  · obtain ⟨p, l, m, n, o, rfl, _⟩ := h
    rfl
  · obtain ⟨p, l, m, n, o, rfl, h1, h2, hm, hl, hl1, hl2, h3, h4, h5, k⟩ := h
    have e : startD N_s__law_way_of [.ref p, .str (tx l), .int (m : Nat)] = [.val (.ref p), .val (.str (tx l)), .val (.int (m : Nat)), Sl.no, Sl.no, Sl.no, Sl.no, Sl.no] := rfl
    rw [e]
    walk_at "dl"
    walk_at "q"
    by_cases g1 : (m : Int) = 1
    · rw [decide_eq_true g1]
      walk_at "dl"
      refine ⟨p, l, n, o, rfl, hl1, hl2, by omega, h4, h5, fun w o' c1 c2 c3 => ?_⟩
      walk_at "dl"
      exact k w o' (by omega) c2 (c3.mono (by omega))
    · rw [decide_eq_false g1]
      walk_at "dl"
      walk_at "q"
      by_cases g2 : (m : Int) = 2
      · rw [decide_eq_true g2]
        walk_at "dl"
        walk_at "c"
        refine ⟨p, _, _, n, o, rfl, rfl, by decide, by decide, by omega, h4, h5, fun r o2 d1 d2 => ?_⟩
        obtain ⟨kk, rfl⟩ : ∃ kk : Un, r = .str kk.s := by
          simp only [List.mem_cons, List.not_mem_nil, or_false] at d1
          rcases d1 with rfl | rfl | rfl | rfl | rfl
          · exact ⟨.again, rfl⟩
          · exact ⟨.again, rfl⟩
          · exact ⟨.maybe, rfl⟩
          · exact ⟨.ahead, rfl⟩
          · exact ⟨.unless, rfl⟩
        walk_at "dl"
        refine ⟨p, l, m - 1, n + 1, o2, ?_, by omega, by omega, by omega, hl, hl1, hl2, by omega, by rw [mset_same], d2, fun w o3 f1 f2 f3 => ?_⟩
        · show [D.ref p, D.str (tx l), D.int ((m : Int) - 1)] = _
          rw [show (m : Int) - 1 = ((m - 1 : Nat) : Int) from by omega]
        walk_at "dl"
        walk_at "c"
        repeat rw [mset_mset]
        exact k (.un kk w) o3 (by show w.size + 1 = m; omega) f2 (f3.mono (by omega))
      · rw [decide_eq_false g2]
        walk_at "dl"
        refine ⟨p, 3, n, o, rfl, by omega, by omega, by omega, h4, h5, fun x o' c1 c2 c3 => ?_⟩
        walk_at "q"
        by_cases g3 : x = 0
        · rw [decide_eq_true g3]
          walk_at "dl"
          walk_at "c"
          refine ⟨p, _, _, (n + 1), o', rfl, rfl, by decide, by decide, by omega, mset_same, c3, fun r o2 d1 d2 => ?_⟩
          obtain ⟨kk, rfl⟩ : ∃ kk : Un, r = .str kk.s := by
            simp only [List.mem_cons, List.not_mem_nil, or_false] at d1
            rcases d1 with rfl | rfl | rfl | rfl | rfl
            · exact ⟨.again, rfl⟩
            · exact ⟨.again, rfl⟩
            · exact ⟨.maybe, rfl⟩
            · exact ⟨.ahead, rfl⟩
            · exact ⟨.unless, rfl⟩
          walk_at "dl"
          refine ⟨p, l, m - 1, (n + 1) + 1, o2, ?_, by omega, by omega, by omega, hl, hl1, hl2, by omega, by rw [mset_same], d2, fun w o3 f1 f2 f3 => ?_⟩
          · show [D.ref p, D.str (tx l), D.int ((m : Int) - 1)] = _
            rw [show (m : Int) - 1 = ((m - 1 : Nat) : Int) from by omega]
          walk_at "dl"
          walk_at "c"
          repeat rw [mset_mset]
          exact k (.un kk w) o3 (by show w.size + 1 = m; omega) f2 (f3.mono (by omega))
        · rw [decide_eq_false g3]
          walk_at "dl"
          walk_at "c"
          refine ⟨p, _, _, n + 1, o', rfl, rfl, by decide, by decide, by omega, mset_same, c3, fun r o2 d1 d2 => ?_⟩
          obtain ⟨kk, rfl⟩ : ∃ kk : Bool, r = .str (manyS kk) := by
            simp only [List.mem_cons, List.not_mem_nil, or_false] at d1
            rcases d1 with rfl | rfl | rfl
            · exact ⟨false, rfl⟩
            · exact ⟨false, rfl⟩
            · exact ⟨true, rfl⟩
          rw [mset_mset]
          walk_at "dl"
          walk_at "c"
          have hP : ∀ s, Sgn l s → PyData.strOk s = true := fun s hs => isData_of hl hs
          refine while_ind (m := m - 1) (fun lf env M' => ∃ ws o' v6 v7, env = [.val (.ref p), .val (.str (tx l)), .val (.int (m : Nat)), .val (.str (manyS kk)), .val (.int (lf : Nat)), .own (WT.dOf ws), v6, v7] ∧ M' = mset M p o' ∧ PenO o' (n + 4 * m - 2 - 4 * lf) ∧ WT.sizes ws + lf = m - 1 ∧ WT.oks (Sgn l) ws ∧ (ws.length = 1 → 0 < lf)) ?_ ?_
          · rintro lf R hR env M' ⟨ws, o3, v6, v7, rfl, rfl, f1, f2, f3, f4⟩
            walk_at "dl"
            by_cases j1 : (0 : Int) < (lf : Int)
            · rw [decide_eq_true j1]
              walk_at "dl"
              walk_at "c"
              have f5 := WT.okEqs hP ws f3 (by omega)
              have hlw : ws.length ≤ 30 := by have := WT.sizes_length ws; omega
              refine ⟨f5, okEq_nil, ?_⟩
              walk_at "dl"
              rw [deq_nil]
              cases ws with
              | nil =>
                have hs0 : WT.sizes [] = 0 := rfl
                walk_at "dl"
                refine ⟨p, lf, _, o3, rfl, j1, by omega, ?_, mset_same, f1, fun x o4 e1 e2 e3 => ?_⟩
                · omega
                obtain ⟨y, rfl⟩ := Int.eq_ofNat_of_zero_le e1
                walk_at "dl"
                walk_at "c"
                refine ⟨f5, okEq_nil, ?_⟩
                walk_at "dl"
                rw [deq_nil]
                walk_at "dl"
                walk_at "q"
                by_cases e4 : 1 + (y : Int) = (lf : Int)
                · rw [decide_eq_true e4]
                  walk_at "dl"
                  refine ⟨p, l, (lf - 1), (n + 4 * m - 2 - 4 * lf + 1), o4, (show [D.ref p, D.str (tx l), D.int ((lf : Int) - 1)] = _ from by rw [show (lf : Int) - 1 = (((lf - 1) : Nat) : Int) from by omega]), by omega, by omega, by omega, hl, hl1, hl2, by omega, mset_same, by first | assumption | exact PenO.mono (by assumption) (by omega), fun w o9 q1 q2 q3 => ?_⟩
                  walk_at "dl"
                  refine ⟨by rw [sizeLine_eq, WT.dOf_map, List.length_map]; omega, ?_⟩
                  walk_at "dl"
                  repeat rw [mset_mset]
                  refine hR (lf - (lf - 1)) _ _ (by omega) ⟨([] : List WT) ++ [w], o9, Sl.val (.bl false), .val (.int ((lf : Int) - 1)), ?_, rfl, q3.mono (by omega), by rw [WT.sizes_snoc]; omega, WT.oks_append f3 ⟨q2, trivial⟩, fun z => ?_⟩
                  · show [Sl.val (D.ref p), Sl.val (D.str (tx l)), Sl.val (D.int (m : Nat)), Sl.val (D.str (manyS kk)), Sl.val (D.int ((lf : Int) - ((lf : Int) - 1))), Sl.own (WT.dOf (([] : List WT)) ++ [w.d]), Sl.val (.bl false), Sl.val (D.int ((lf : Int) - 1))] = _
                    rw [WT.dOf_append, show (lf : Int) - ((lf : Int) - 1) = ((lf - (lf - 1) : Nat) : Int) from by omega]
                    rfl
                  · omega
                · rw [decide_eq_false e4]
                  walk_at "dl"
                  refine ⟨p, l, (1 + y), (n + 4 * m - 2 - 4 * lf + 1), o4, (show [D.ref p, D.str (tx l), D.int (1 + (y : Int))] = _ from by rw [show 1 + (y : Int) = (((1 + y) : Nat) : Int) from by omega]), by omega, by omega, by omega, hl, hl1, hl2, by omega, mset_same, by first | assumption | exact PenO.mono (by assumption) (by omega), fun w o9 q1 q2 q3 => ?_⟩
                  walk_at "dl"
                  refine ⟨by rw [sizeLine_eq, WT.dOf_map, List.length_map]; omega, ?_⟩
                  walk_at "dl"
                  repeat rw [mset_mset]
                  refine hR (lf - (1 + y)) _ _ (by omega) ⟨([] : List WT) ++ [w], o9, Sl.val (.bl false), .val (.int (1 + (y : Int))), ?_, rfl, q3.mono (by omega), by rw [WT.sizes_snoc]; omega, WT.oks_append f3 ⟨q2, trivial⟩, fun z => ?_⟩
                  · show [Sl.val (D.ref p), Sl.val (D.str (tx l)), Sl.val (D.int (m : Nat)), Sl.val (D.str (manyS kk)), Sl.val (D.int ((lf : Int) - (1 + (y : Int)))), Sl.own (WT.dOf (([] : List WT)) ++ [w.d]), Sl.val (.bl false), Sl.val (D.int (1 + (y : Int)))] = _
                    rw [WT.dOf_append, show (lf : Int) - (1 + (y : Int)) = ((lf - (1 + y) : Nat) : Int) from by omega]
                    rfl
                  · omega
              | cons w0 wr =>
                walk_at "dl"
                refine ⟨p, 2, _, o3, rfl, by decide, by decide, ?_, mset_same, f1, fun x o4 e1 e2 e3 => ?_⟩
                · omega
                walk_at "q"
                by_cases e4 : x = 0
                · rw [decide_eq_true e4]
                  walk_at "dl"
                  walk_at "c"
                  refine ⟨f5, okEq_nil, ?_⟩
                  walk_at "dl"
                  rw [deq_nil]
                  walk_at "dl"
                  refine ⟨p, l, lf, (n + 4 * m - 2 - 4 * lf + 1), o4, (show [D.ref p, D.str (tx l), D.int ((lf : Int))] = _ from by rw [show (lf : Int) = ((lf : Nat) : Int) from by omega]), by omega, by omega, by omega, hl, hl1, hl2, by omega, mset_same, by first | assumption | exact PenO.mono (by assumption) (by omega), fun w o9 q1 q2 q3 => ?_⟩
                  walk_at "dl"
                  refine ⟨by rw [sizeLine_eq, WT.dOf_map, List.length_map]; omega, ?_⟩
                  walk_at "dl"
                  repeat rw [mset_mset]
                  refine hR (lf - lf) _ _ (by omega) ⟨w0 :: wr ++ [w], o9, Sl.val (.bl true), .val (.int ((lf : Int))), ?_, rfl, q3.mono (by omega), by rw [WT.sizes_snoc]; omega, WT.oks_append f3 ⟨q2, trivial⟩, fun z => ?_⟩
                  · show [Sl.val (D.ref p), Sl.val (D.str (tx l)), Sl.val (D.int (m : Nat)), Sl.val (D.str (manyS kk)), Sl.val (D.int ((lf : Int) - ((lf : Int)))), Sl.own (WT.dOf (w0 :: wr) ++ [w.d]), Sl.val (.bl true), Sl.val (D.int ((lf : Int)))] = _
                    rw [WT.dOf_append, show (lf : Int) - ((lf : Int)) = ((lf - lf : Nat) : Int) from by omega]
                    rfl
                  · simp at z
                · rw [decide_eq_false e4]
                  walk_at "dl"
                  refine ⟨p, lf, _, o4, rfl, j1, by omega, ?_, mset_same, e3, fun x o5 e7 e8 e9 => ?_⟩
                  · omega
                  obtain ⟨y, rfl⟩ := Int.eq_ofNat_of_zero_le e7
                  walk_at "dl"
                  walk_at "c"
                  refine ⟨f5, okEq_nil, ?_⟩
                  walk_at "dl"
                  rw [deq_nil]
                  walk_at "dl"
                  refine ⟨p, l, (1 + y), (n + 4 * m - 2 - 4 * lf + 2), o5, (show [D.ref p, D.str (tx l), D.int (1 + (y : Int))] = _ from by rw [show 1 + (y : Int) = (((1 + y) : Nat) : Int) from by omega]), by omega, by omega, by omega, hl, hl1, hl2, by omega, mset_same, by first | assumption | exact PenO.mono (by assumption) (by omega), fun w o9 q1 q2 q3 => ?_⟩
                  walk_at "dl"
                  refine ⟨by rw [sizeLine_eq, WT.dOf_map, List.length_map]; omega, ?_⟩
                  walk_at "dl"
                  repeat rw [mset_mset]
                  refine hR (lf - (1 + y)) _ _ (by omega) ⟨w0 :: wr ++ [w], o9, Sl.val (.bl false), .val (.int (1 + (y : Int))), ?_, rfl, q3.mono (by omega), by rw [WT.sizes_snoc]; omega, WT.oks_append f3 ⟨q2, trivial⟩, fun z => ?_⟩
                  · show [Sl.val (D.ref p), Sl.val (D.str (tx l)), Sl.val (D.int (m : Nat)), Sl.val (D.str (manyS kk)), Sl.val (D.int ((lf : Int) - (1 + (y : Int)))), Sl.own (WT.dOf (w0 :: wr) ++ [w.d]), Sl.val (.bl false), Sl.val (D.int (1 + (y : Int)))] = _
                    rw [WT.dOf_append, show (lf : Int) - (1 + (y : Int)) = ((lf - (1 + y) : Nat) : Int) from by omega]
                    rfl
                  · simp at z

            · rw [decide_eq_false j1]
              walk_at "dl"
              walk_at "c"
              have hlen : 2 ≤ ws.length := by
                cases ws with
                | nil => unfold WT.sizes at f2; omega
                | cons w ws => cases ws with
                  | nil => have := f4 rfl; omega
                  | cons _ _ => rw [List.length_cons, List.length_cons]; omega
              exact k (.many kk ws) o3 (by show WT.sizes ws + 1 = m; omega) ⟨hlen, f3⟩ (f1.mono (by omega))
          · refine ⟨[], o2, .no, .no, ?_, rfl, d2.mono (by omega), by unfold WT.sizes; omega, trivial, fun z => by cases z⟩
            show _ = [Sl.val (.ref p), .val (.str (tx l)), .val (.int (m : Nat)), .val (.str (manyS kk)), .val (.int ((m - 1 : Nat) : Int)), .own [], .no, .no]
            rw [← show (m : Int) - 1 = ((m - 1 : Nat) : Int) from by omega]


abbrev s__law_way : Stmt := top 45
abbrev N_s__law_way : List Str := ["_law_pen_here", "_law_signs_here", "_law_most", "_law_size"]
theorem sc_s__law_way : FnScope N_s__law_way ["_law_pen_here", "_law_signs_here", "_law_most"] (defScope s__law_way) := ⟨rfl, rfl, rfl, by decide +kernel, rfl, by decide +kernel, by decide +kernel⟩
theorem ok_way (T : TxtP mg) (h__law_draw : Fn P w K mg base 1 "_law_draw" ["_law_pen_here", "_law_many"] spDraw) {S : Nat} (h__law_way_of : Fn P w K mg base (3 + S) "_law_way_of" ["_law_pen_here", "_law_signs_here", "_law_size"] (spWayOf S)) (Df : DefAt K mg "_law_way" ["_law_pen_here", "_law_signs_here", "_law_most"] s__law_way) : Fn P w K mg base (3 + S + 1) "_law_way" ["_law_pen_here", "_law_signs_here", "_law_most"] (spWay S) := by
  refine okF Df sc_s__law_way (fun ds M Q E h => ?_) fun f cdv A outer s H E hr => ⟨_, (ss_cons (s_set (i := 3) sc_s__law_way.nd (d_op od_add d_int (d_callF h__law_draw (hr.mono (by first | decide | omega)) (a_cons (d_var 0) (a_cons (d_var 2) a_nil)))))
    (ss_one (s_ret (d_callF h__law_way_of (hr.mono (by first | decide | omega)) (a_cons (d_var 0) (a_cons (d_var 1) (a_cons (d_var 3) a_nil))))))), fun ds M Q Ed h => ?_⟩
  · obtain ⟨p, l, m, n, o, rfl, _⟩ := h
    rfl
  · obtain ⟨p, l, m, n, o, rfl, h1, h2, hm, hl, hl1, hl2, h3, h4, h5, k⟩ := h
    have e : startD N_s__law_way [.ref p, .str (tx l), .int (m : Nat)] = [.val (.ref p), .val (.str (tx l)), .val (.int (m : Nat)), Sl.no] := rfl
    rw [e]
    walk_at "dl"
    refine ⟨p, m, n, o, rfl, by omega, by omega, by omega, h4, h5, fun x o' c1 c2 c3 => ?_⟩
    obtain ⟨y, rfl⟩ := Int.eq_ofNat_of_zero_le c1
    walk_at "dl"
    refine ⟨p, l, 1 + y, n + 1, o', (show [D.ref p, D.str (tx l), D.int (1 + (y : Int))] = _ from by rw [show 1 + (y : Int) = ((1 + y : Nat) : Int) from by omega]), by omega, by omega, by omega, hl, hl1, hl2, by omega, mset_same, c3, fun w o2 d1 d2 d3 => ?_⟩
    walk_at "dl"
    rw [mset_mset]
    exact k w o2 (by omega) d2 (d3.mono (by omega))


abbrev s__law_inner : Stmt := top 47
abbrev N_s__law_inner : List Str := ["_law_way_here"]
theorem sc_s__law_inner : FnScope N_s__law_inner ["_law_way_here"] (defScope s__law_inner) := ⟨rfl, rfl, rfl, by decide +kernel, rfl, by decide +kernel, by decide +kernel⟩
theorem ok_inner (T : TxtP mg) (Df : DefAt K mg "_law_inner" ["_law_way_here"] s__law_inner) : Fn P w K mg base 1 "_law_inner" ["_law_way_here"] spInner := by
  refine okF Df sc_s__law_inner (fun ds M Q E h => ?_) fun f cdv A outer s H E hr => ⟨_, (ss_cons (s_if (d_tcmp od_in (d_ix (d_var 0) d_int) (d_lst (a_cons d_str (a_cons d_str a_nil))) (by rfl))
    (ss_one (s_ret (d_ix (d_var 0) d_int)))
    ss_nil)
    (ss_one (s_ret (d_ifExp (d_tcmp od_in (d_ix (d_var 0) d_int) (d_lst (a_cons d_str (a_cons d_str (a_cons d_str (a_cons d_str a_nil))))) (by rfl)) (d_lst (a_cons (d_ix (d_var 0) d_int) a_nil)) (d_lst a_nil))))), fun ds M Q Ed h => ?_⟩
  · obtain ⟨v, rfl, _⟩ := h
    rfl
  · obtain ⟨v, rfl, k⟩ := h
    have e : startD N_s__law_inner [v.d] = [.val v.d] := rfl
    rw [e]
    cases v with
    | nothing => unfold WT.d; walk_at "a"; exact k
    | one => unfold WT.d; walk_at "a"; exact k
    | letter s => unfold WT.d; walk_at "a"; exact k
    | call s => unfold WT.d; walk_at "a"; exact k
    | un kk v => unfold WT.d; cases kk <;> (walk_at "a"; exact k)
    | many c ws => unfold WT.d; cases c <;> (walk_at "a"; rw [WT.dOf_map]; exact k)


abbrev s_Way___init__ : Stmt := inClass (top 15) 0
abbrev N_s_Way___init__ : List Str := ["self", "word", "sign", "inner"]
theorem sc_s_Way___init__ : FnScope N_s_Way___init__ ["self", "word", "sign", "inner"] (defScope s_Way___init__) := ⟨rfl, rfl, rfl, by decide +kernel, rfl, by decide +kernel, by decide +kernel⟩
theorem ok_Way_init (T : TxtP mg) {C f : Addr} (hF : ∀ n ∈ fldN, FldOk K C n) (Df : MethAt K "__init__" "Way.__init__" ["self", "word", "sign", "inner"] s_Way___init__ f) : ∃ fd, FnOk P w K mg base CX0 1 f fd ["self", "word", "sign", "inner"] (LSp K (spWayInit C)) ∧ Binds K fd ["self", "word", "sign", "inner"] [] := by
  obtain ⟨fd, G, hb⟩ := Df.ex
  refine ⟨fd, okD G sc_s_Way___init__ (fun ds M Q E h => ?_) fun cdv A outer s H E hr => ⟨_, (ss_cons (s_fld (d_var 0) (d_var 1))
    (ss_cons (s_fld (d_var 0) (d_var 2))
    (ss_one (s_fld (d_var 0) (d_callTy cd_tuple rfl T.z_tuple (by decide +kernel) (a_cons (d_var 3) a_nil)))))), fun ds M Q Ed h => ?_⟩, hb⟩
  · obtain ⟨x, a, b, it, es, rfl, _⟩ := h
    rfl
  · obtain ⟨x, a, b, it, es, rfl, h1, h2, k⟩ := h
    have e : startD N_s_Way___init__ [.ref x, a, b, it] = [.val (.ref x), .val a, .val b, .val it] := rfl
    rw [e]
    walk_at "dl"
    rw [h1]
    walk_at "dl"
    refine ⟨hF _ (by decide +kernel), by decide, ?_⟩
    walk_at "dl"
    rw [mset_same]
    walk_at "dl"
    refine ⟨hF _ (by decide +kernel), by show 1 < 1000; decide, ?_⟩
    walk_at "dl"
    rw [h2]
    walk_at "dl"
    rw [mset_mset, mset_same]
    walk_at "dl"
    rw [mset_mset]
    have e1 : fputN "sign" (fputN "word" []) = ([("word" : Str), "sign"] : List Str) := by decide +kernel
    have e2 : fputD "sign" b (fputN "word" []) (fputD "word" a [] []) = [a, b] := by
      exact fputD_new (ns := [("word" : Str)]) (xs := [a]) (by decide +kernel) rfl
    have e3 : fputN "inner" ([("word" : Str), "sign"] : List Str) = wayN := by decide +kernel
    have e4 : fputD "inner" (.tup es) ([("word" : Str), "sign"] : List Str) [a, b] = [a, b, .tup es] := fputD_new (by decide +kernel) rfl
    rw [e1, e2]
    refine ⟨hF _ (by decide +kernel), by show 2 < 1000; decide, ?_⟩
    walk_at "dl"
    rw [e3, e4]
    exact k


abbrev s_Letter___init__ : Stmt := inClass (top 16) 0
abbrev N_s_Letter___init__ : List Str := ["self", "letter", "__class__"]
theorem sc_s_Letter___init__ : NdefX.NScope N_s_Letter___init__ ["self", "letter"] ["__class__"] (defScope s_Letter___init__) := NdefX.nscope_by (by decide +kernel)
theorem ok_Letter_init (T : TxtP mg) {C f f2 : Addr} {fd2 : FuncData} (hF : ∀ n ∈ fldN, FldOk K C n) (Df : SupAt P K C "__init__" "Letter.__init__" ["self", "letter"] s_Letter___init__ f f2) (F2 : FnOk P w K mg base CX0 1 f2 fd2 ["self", "word", "sign", "inner"] (LSp K (spWayInit C))) (B2 : Binds K fd2 ["self", "word", "sign", "inner"] []) : ∃ fd, FnOk P w K mg base CX0 2 f fd ["self", "letter"] (LSp K (spInit C (gLeaf "letter" "letter"))) ∧ Binds K fd ["self", "letter"] [] := by
  obtain ⟨cc, cda, fd, G, Sk, hb⟩ := Df.ex
  refine ⟨fd, okSup (k := 1) (sp2 := spWayInit C) G rfl sc_s_Letter___init__ rfl rfl rfl rfl rfl T.z_super rfl Sk (FnR_of F2 B2) (fun ds M Q E h => ?_) (fun A outer s H E hr => ⟨_, _, (a_cons d_str (a_cons (d_var 1) (a_cons (d_tup a_nil) a_nil))), (ss_one (s_fld (d_var 0) (d_var 1))), fun ds M Q Ed h => ?_⟩), hb⟩
  · obtain ⟨x, args, ns, es, rfl, h1, h2, k⟩ := h
    obtain ⟨d, rfl⟩ : ∃ d, args = [d] := by
      match args, h2 with
      | [d], _ => exact ⟨d, rfl⟩
    rfl
  · obtain ⟨x, args, ns, es, rfl, h1, h2, k⟩ := h
    obtain ⟨d, rfl⟩ : ∃ d, args = [d] := by
      match args, h2 with
      | [d], _ => exact ⟨d, rfl⟩
    cases h2
    have e : startD N_s_Letter___init__ [.ref x, d] = [.val (.ref x), .val d, .no] := rfl
    rw [e]
    walk_at "dl"
    rw [h1]
    walk_at "dl"
    refine ⟨rfl, ?_⟩
    walk_at "dl"
    walk_at "c"
    refine ⟨x, _, _, _, _, rfl, h1, rfl, ?_⟩
    walk_at "dl"
    rw [mset_same]
    walk_at "dl"
    refine ⟨hF _ (by decide +kernel), by decide, ?_⟩
    walk_at "dl"
    rw [mset_mset, fputN_new (by decide +kernel), fputD_w (by decide +kernel)]
    exact k


abbrev s_One___init__ : Stmt := inClass (top 17) 0
abbrev N_s_One___init__ : List Str := ["self", "__class__"]
theorem sc_s_One___init__ : NdefX.NScope N_s_One___init__ ["self"] ["__class__"] (defScope s_One___init__) := NdefX.nscope_by (by decide +kernel)
theorem ok_One_init (T : TxtP mg) {C f f2 : Addr} {fd2 : FuncData} (hF : ∀ n ∈ fldN, FldOk K C n) (Df : SupAt P K C "__init__" "One.__init__" ["self"] s_One___init__ f f2) (F2 : FnOk P w K mg base CX0 1 f2 fd2 ["self", "word", "sign", "inner"] (LSp K (spWayInit C))) (B2 : Binds K fd2 ["self", "word", "sign", "inner"] []) : ∃ fd, FnOk P w K mg base CX0 2 f fd ["self"] (LSp K (spInit C (gBare "one"))) ∧ Binds K fd ["self"] [] := by
  obtain ⟨cc, cda, fd, G, Sk, hb⟩ := Df.ex
  refine ⟨fd, okSup (k := 1) (sp2 := spWayInit C) G rfl sc_s_One___init__ rfl rfl rfl rfl rfl T.z_super rfl Sk (FnR_of F2 B2) (fun ds M Q E h => ?_) (fun A outer s H E hr => ⟨_, _, (a_cons d_str (a_cons d_str (a_cons (d_tup a_nil) a_nil))), ss_nil, fun ds M Q Ed h => ?_⟩), hb⟩
  · obtain ⟨x, args, ns, es, rfl, h1, h2, k⟩ := h
    obtain rfl : args = [] := by
      match args, h2 with
      | [], _ => rfl
    rfl
  · obtain ⟨x, args, ns, es, rfl, h1, h2, k⟩ := h
    obtain rfl : args = [] := by
      match args, h2 with
      | [], _ => rfl
    cases h2
    have e : startD N_s_One___init__ [.ref x] = [.val (.ref x), .no] := rfl
    rw [e]
    walk_at "dl"
    rw [h1]
    walk_at "dl"
    refine ⟨rfl, ?_⟩
    walk_at "dl"
    walk_at "c"
    refine ⟨x, _, _, _, _, rfl, h1, rfl, ?_⟩
    walk_at "dl"
    exact k


abbrev s_Nothing___init__ : Stmt := inClass (top 18) 0
abbrev N_s_Nothing___init__ : List Str := ["self", "__class__"]
theorem sc_s_Nothing___init__ : NdefX.NScope N_s_Nothing___init__ ["self"] ["__class__"] (defScope s_Nothing___init__) := NdefX.nscope_by (by decide +kernel)
theorem ok_Nothing_init (T : TxtP mg) {C f f2 : Addr} {fd2 : FuncData} (hF : ∀ n ∈ fldN, FldOk K C n) (Df : SupAt P K C "__init__" "Nothing.__init__" ["self"] s_Nothing___init__ f f2) (F2 : FnOk P w K mg base CX0 1 f2 fd2 ["self", "word", "sign", "inner"] (LSp K (spWayInit C))) (B2 : Binds K fd2 ["self", "word", "sign", "inner"] []) : ∃ fd, FnOk P w K mg base CX0 2 f fd ["self"] (LSp K (spInit C (gBare "nothing"))) ∧ Binds K fd ["self"] [] := by
  obtain ⟨cc, cda, fd, G, Sk, hb⟩ := Df.ex
  refine ⟨fd, okSup (k := 1) (sp2 := spWayInit C) G rfl sc_s_Nothing___init__ rfl rfl rfl rfl rfl T.z_super rfl Sk (FnR_of F2 B2) (fun ds M Q E h => ?_) (fun A outer s H E hr => ⟨_, _, (a_cons d_str (a_cons d_str (a_cons (d_tup a_nil) a_nil))), ss_nil, fun ds M Q Ed h => ?_⟩), hb⟩
  · obtain ⟨x, args, ns, es, rfl, h1, h2, k⟩ := h
    obtain rfl : args = [] := by
      match args, h2 with
      | [], _ => rfl
    rfl
  · obtain ⟨x, args, ns, es, rfl, h1, h2, k⟩ := h
    obtain rfl : args = [] := by
      match args, h2 with
      | [], _ => rfl
    cases h2
    have e : startD N_s_Nothing___init__ [.ref x] = [.val (.ref x), .no] := rfl
    rw [e]
    walk_at "dl"
    rw [h1]
    walk_at "dl"
    refine ⟨rfl, ?_⟩
    walk_at "dl"
    walk_at "c"
    refine ⟨x, _, _, _, _, rfl, h1, rfl, ?_⟩
    walk_at "dl"
    exact k


abbrev s_Row___init__ : Stmt := inClass (top 19) 0
abbrev N_s_Row___init__ : List Str := ["self", "ways", "__class__"]
theorem sc_s_Row___init__ : NdefX.NScope N_s_Row___init__ ["self", "ways"] ["__class__"] (defScope s_Row___init__) := NdefX.nscope_by (by decide +kernel)
theorem ok_Row_init (T : TxtP mg) {C f f2 : Addr} {fd2 : FuncData} (hF : ∀ n ∈ fldN, FldOk K C n) (Df : SupAt P K C "__init__" "Row.__init__" ["self", "ways"] s_Row___init__ f f2) (F2 : FnOk P w K mg base CX0 1 f2 fd2 ["self", "word", "sign", "inner"] (LSp K (spWayInit C))) (B2 : Binds K fd2 ["self", "word", "sign", "inner"] []) : ∃ fd, FnOk P w K mg base CX0 2 f fd ["self", "ways"] (LSp K (spInit C (gMany "row"))) ∧ Binds K fd ["self", "ways"] [] := by
  obtain ⟨cc, cda, fd, G, Sk, hb⟩ := Df.ex
  refine ⟨fd, okSup (k := 1) (sp2 := spWayInit C) G rfl sc_s_Row___init__ rfl rfl rfl rfl rfl T.z_super rfl Sk (FnR_of F2 B2) (fun ds M Q E h => ?_) (fun A outer s H E hr => ⟨_, _, (a_cons d_str (a_cons d_str (a_cons (d_var 1) a_nil))), (ss_one (s_fld (d_var 0) (d_fld (d_var 0)))), fun ds M Q Ed h => ?_⟩), hb⟩
  · obtain ⟨x, args, ns, es, rfl, h1, h2, k⟩ := h
    obtain ⟨d, rfl⟩ : ∃ d, args = [d] := by
      match args, h2 with
      | [d], _ => exact ⟨d, rfl⟩
    rfl
  · obtain ⟨x, args, ns, es, rfl, h1, h2, k⟩ := h
    obtain ⟨d, rfl⟩ : ∃ d, args = [d] := by
      match args, h2 with
      | [d], _ => exact ⟨d, rfl⟩
    have e : startD N_s_Row___init__ [.ref x, d] = [.val (.ref x), .val d, .no] := rfl
    rw [e]
    cases hs : seqD d with
    | none =>
      have h3 : (match seqD d with | some es => some (wayN ++ [("ways" : Str)], [_, _, .tup es, .tup es]) | none => none) = some (ns, es) := h2
      rw [hs] at h3
      cases h3
    | some ys =>
    have h3 : (match seqD d with | some es => some (wayN ++ [("ways" : Str)], [_, _, .tup es, .tup es]) | none => none) = some (ns, es) := h2
    rw [hs] at h3
    cases h3
    walk_at "dl"
    rw [h1]
    walk_at "dl"
    refine ⟨rfl, ?_⟩
    walk_at "dl"
    refine ⟨x, _, _, _, _, rfl, h1, hs, ?_⟩
    walk_at "dl"
    rw [insD_ref mset_same]
    walk_at "dl"
    refine ⟨hF _ (by decide +kernel), ?_⟩
    rw [fget_i0]
    walk_at "dl"
    rw [mset_same]
    walk_at "dl"
    refine ⟨hF _ (by decide +kernel), by decide, ?_⟩
    walk_at "dl"
    rw [mset_mset, fputN_new (by decide +kernel), fputD_w (by decide +kernel)]
    exact k


abbrev s_Choice___init__ : Stmt := inClass (top 20) 0
abbrev N_s_Choice___init__ : List Str := ["self", "ways", "__class__"]
theorem sc_s_Choice___init__ : NdefX.NScope N_s_Choice___init__ ["self", "ways"] ["__class__"] (defScope s_Choice___init__) := NdefX.nscope_by (by decide +kernel)
theorem ok_Choice_init (T : TxtP mg) {C f f2 : Addr} {fd2 : FuncData} (hF : ∀ n ∈ fldN, FldOk K C n) (Df : SupAt P K C "__init__" "Choice.__init__" ["self", "ways"] s_Choice___init__ f f2) (F2 : FnOk P w K mg base CX0 1 f2 fd2 ["self", "word", "sign", "inner"] (LSp K (spWayInit C))) (B2 : Binds K fd2 ["self", "word", "sign", "inner"] []) : ∃ fd, FnOk P w K mg base CX0 2 f fd ["self", "ways"] (LSp K (spInit C (gMany "choice"))) ∧ Binds K fd ["self", "ways"] [] := by
  obtain ⟨cc, cda, fd, G, Sk, hb⟩ := Df.ex
  refine ⟨fd, okSup (k := 1) (sp2 := spWayInit C) G rfl sc_s_Choice___init__ rfl rfl rfl rfl rfl T.z_super rfl Sk (FnR_of F2 B2) (fun ds M Q E h => ?_) (fun A outer s H E hr => ⟨_, _, (a_cons d_str (a_cons d_str (a_cons (d_var 1) a_nil))), (ss_one (s_fld (d_var 0) (d_fld (d_var 0)))), fun ds M Q Ed h => ?_⟩), hb⟩
  · obtain ⟨x, args, ns, es, rfl, h1, h2, k⟩ := h
    obtain ⟨d, rfl⟩ : ∃ d, args = [d] := by
      match args, h2 with
      | [d], _ => exact ⟨d, rfl⟩
    rfl
  · obtain ⟨x, args, ns, es, rfl, h1, h2, k⟩ := h
    obtain ⟨d, rfl⟩ : ∃ d, args = [d] := by
      match args, h2 with
      | [d], _ => exact ⟨d, rfl⟩
    have e : startD N_s_Choice___init__ [.ref x, d] = [.val (.ref x), .val d, .no] := rfl
    rw [e]
    cases hs : seqD d with
    | none =>
      have h3 : (match seqD d with | some es => some (wayN ++ [("ways" : Str)], [_, _, .tup es, .tup es]) | none => none) = some (ns, es) := h2
      rw [hs] at h3
      cases h3
    | some ys =>
    have h3 : (match seqD d with | some es => some (wayN ++ [("ways" : Str)], [_, _, .tup es, .tup es]) | none => none) = some (ns, es) := h2
    rw [hs] at h3
    cases h3
    walk_at "dl"
    rw [h1]
    walk_at "dl"
    refine ⟨rfl, ?_⟩
    walk_at "dl"
    refine ⟨x, _, _, _, _, rfl, h1, hs, ?_⟩
    walk_at "dl"
    rw [insD_ref mset_same]
    walk_at "dl"
    refine ⟨hF _ (by decide +kernel), ?_⟩
    rw [fget_i0]
    walk_at "dl"
    rw [mset_same]
    walk_at "dl"
    refine ⟨hF _ (by decide +kernel), by decide, ?_⟩
    walk_at "dl"
    rw [mset_mset, fputN_new (by decide +kernel), fputD_w (by decide +kernel)]
    exact k


abbrev s_Again___init__ : Stmt := inClass (top 21) 0
abbrev N_s_Again___init__ : List Str := ["self", "part", "__class__"]
theorem sc_s_Again___init__ : NdefX.NScope N_s_Again___init__ ["self", "part"] ["__class__"] (defScope s_Again___init__) := NdefX.nscope_by (by decide +kernel)
theorem ok_Again_init (T : TxtP mg) {C f f2 : Addr} {fd2 : FuncData} (hF : ∀ n ∈ fldN, FldOk K C n) (Df : SupAt P K C "__init__" "Again.__init__" ["self", "part"] s_Again___init__ f f2) (F2 : FnOk P w K mg base CX0 1 f2 fd2 ["self", "word", "sign", "inner"] (LSp K (spWayInit C))) (B2 : Binds K fd2 ["self", "word", "sign", "inner"] []) : ∃ fd, FnOk P w K mg base CX0 2 f fd ["self", "part"] (LSp K (spInit C (gUn "again"))) ∧ Binds K fd ["self", "part"] [] := by
  obtain ⟨cc, cda, fd, G, Sk, hb⟩ := Df.ex
  refine ⟨fd, okSup (k := 1) (sp2 := spWayInit C) G rfl sc_s_Again___init__ rfl rfl rfl rfl rfl T.z_super rfl Sk (FnR_of F2 B2) (fun ds M Q E h => ?_) (fun A outer s H E hr => ⟨_, _, (a_cons d_str (a_cons d_str (a_cons (d_tup (a_cons (d_var 1) a_nil)) a_nil))), (ss_one (s_fld (d_var 0) (d_var 1))), fun ds M Q Ed h => ?_⟩), hb⟩
  · obtain ⟨x, args, ns, es, rfl, h1, h2, k⟩ := h
    obtain ⟨d, rfl⟩ : ∃ d, args = [d] := by
      match args, h2 with
      | [d], _ => exact ⟨d, rfl⟩
    rfl
  · obtain ⟨x, args, ns, es, rfl, h1, h2, k⟩ := h
    obtain ⟨d, rfl⟩ : ∃ d, args = [d] := by
      match args, h2 with
      | [d], _ => exact ⟨d, rfl⟩
    cases h2
    have e : startD N_s_Again___init__ [.ref x, d] = [.val (.ref x), .val d, .no] := rfl
    rw [e]
    walk_at "dl"
    rw [h1]
    walk_at "dl"
    refine ⟨rfl, ?_⟩
    walk_at "dl"
    walk_at "c"
    refine ⟨x, _, _, _, _, rfl, h1, rfl, ?_⟩
    walk_at "dl"
    rw [mset_same]
    walk_at "dl"
    refine ⟨hF _ (by decide +kernel), by decide, ?_⟩
    walk_at "dl"
    rw [mset_mset, fputN_new (by decide +kernel), fputD_w (by decide +kernel)]
    exact k


abbrev s_Maybe___init__ : Stmt := inClass (top 22) 0
abbrev N_s_Maybe___init__ : List Str := ["self", "part", "__class__"]
theorem sc_s_Maybe___init__ : NdefX.NScope N_s_Maybe___init__ ["self", "part"] ["__class__"] (defScope s_Maybe___init__) := NdefX.nscope_by (by decide +kernel)
theorem ok_Maybe_init (T : TxtP mg) {C f f2 : Addr} {fd2 : FuncData} (hF : ∀ n ∈ fldN, FldOk K C n) (Df : SupAt P K C "__init__" "Maybe.__init__" ["self", "part"] s_Maybe___init__ f f2) (F2 : FnOk P w K mg base CX0 1 f2 fd2 ["self", "word", "sign", "inner"] (LSp K (spWayInit C))) (B2 : Binds K fd2 ["self", "word", "sign", "inner"] []) : ∃ fd, FnOk P w K mg base CX0 2 f fd ["self", "part"] (LSp K (spInit C (gUn "maybe"))) ∧ Binds K fd ["self", "part"] [] := by
  obtain ⟨cc, cda, fd, G, Sk, hb⟩ := Df.ex
  refine ⟨fd, okSup (k := 1) (sp2 := spWayInit C) G rfl sc_s_Maybe___init__ rfl rfl rfl rfl rfl T.z_super rfl Sk (FnR_of F2 B2) (fun ds M Q E h => ?_) (fun A outer s H E hr => ⟨_, _, (a_cons d_str (a_cons d_str (a_cons (d_tup (a_cons (d_var 1) a_nil)) a_nil))), (ss_one (s_fld (d_var 0) (d_var 1))), fun ds M Q Ed h => ?_⟩), hb⟩
  · obtain ⟨x, args, ns, es, rfl, h1, h2, k⟩ := h
    obtain ⟨d, rfl⟩ : ∃ d, args = [d] := by
      match args, h2 with
      | [d], _ => exact ⟨d, rfl⟩
    rfl
  · obtain ⟨x, args, ns, es, rfl, h1, h2, k⟩ := h
    obtain ⟨d, rfl⟩ : ∃ d, args = [d] := by
      match args, h2 with
      | [d], _ => exact ⟨d, rfl⟩
    cases h2
    have e : startD N_s_Maybe___init__ [.ref x, d] = [.val (.ref x), .val d, .no] := rfl
    rw [e]
    walk_at "dl"
    rw [h1]
    walk_at "dl"
    refine ⟨rfl, ?_⟩
    walk_at "dl"
    walk_at "c"
    refine ⟨x, _, _, _, _, rfl, h1, rfl, ?_⟩
    walk_at "dl"
    rw [mset_same]
    walk_at "dl"
    refine ⟨hF _ (by decide +kernel), by decide, ?_⟩
    walk_at "dl"
    rw [mset_mset, fputN_new (by decide +kernel), fputD_w (by decide +kernel)]
    exact k


abbrev s_Ahead___init__ : Stmt := inClass (top 23) 0
abbrev N_s_Ahead___init__ : List Str := ["self", "part", "__class__"]
theorem sc_s_Ahead___init__ : NdefX.NScope N_s_Ahead___init__ ["self", "part"] ["__class__"] (defScope s_Ahead___init__) := NdefX.nscope_by (by decide +kernel)
theorem ok_Ahead_init (T : TxtP mg) {C f f2 : Addr} {fd2 : FuncData} (hF : ∀ n ∈ fldN, FldOk K C n) (Df : SupAt P K C "__init__" "Ahead.__init__" ["self", "part"] s_Ahead___init__ f f2) (F2 : FnOk P w K mg base CX0 1 f2 fd2 ["self", "word", "sign", "inner"] (LSp K (spWayInit C))) (B2 : Binds K fd2 ["self", "word", "sign", "inner"] []) : ∃ fd, FnOk P w K mg base CX0 2 f fd ["self", "part"] (LSp K (spInit C (gUn "ahead"))) ∧ Binds K fd ["self", "part"] [] := by
  obtain ⟨cc, cda, fd, G, Sk, hb⟩ := Df.ex
  refine ⟨fd, okSup (k := 1) (sp2 := spWayInit C) G rfl sc_s_Ahead___init__ rfl rfl rfl rfl rfl T.z_super rfl Sk (FnR_of F2 B2) (fun ds M Q E h => ?_) (fun A outer s H E hr => ⟨_, _, (a_cons d_str (a_cons d_str (a_cons (d_tup (a_cons (d_var 1) a_nil)) a_nil))), (ss_one (s_fld (d_var 0) (d_var 1))), fun ds M Q Ed h => ?_⟩), hb⟩
  · obtain ⟨x, args, ns, es, rfl, h1, h2, k⟩ := h
    obtain ⟨d, rfl⟩ : ∃ d, args = [d] := by
      match args, h2 with
      | [d], _ => exact ⟨d, rfl⟩
    rfl
  · obtain ⟨x, args, ns, es, rfl, h1, h2, k⟩ := h
    obtain ⟨d, rfl⟩ : ∃ d, args = [d] := by
      match args, h2 with
      | [d], _ => exact ⟨d, rfl⟩
    cases h2
    have e : startD N_s_Ahead___init__ [.ref x, d] = [.val (.ref x), .val d, .no] := rfl
    rw [e]
    walk_at "dl"
    rw [h1]
    walk_at "dl"
    refine ⟨rfl, ?_⟩
    walk_at "dl"
    walk_at "c"
    refine ⟨x, _, _, _, _, rfl, h1, rfl, ?_⟩
    walk_at "dl"
    rw [mset_same]
    walk_at "dl"
    refine ⟨hF _ (by decide +kernel), by decide, ?_⟩
    walk_at "dl"
    rw [mset_mset, fputN_new (by decide +kernel), fputD_w (by decide +kernel)]
    exact k


abbrev s_Unless___init__ : Stmt := inClass (top 24) 0
abbrev N_s_Unless___init__ : List Str := ["self", "part", "__class__"]
theorem sc_s_Unless___init__ : NdefX.NScope N_s_Unless___init__ ["self", "part"] ["__class__"] (defScope s_Unless___init__) := NdefX.nscope_by (by decide +kernel)
theorem ok_Unless_init (T : TxtP mg) {C f f2 : Addr} {fd2 : FuncData} (hF : ∀ n ∈ fldN, FldOk K C n) (Df : SupAt P K C "__init__" "Unless.__init__" ["self", "part"] s_Unless___init__ f f2) (F2 : FnOk P w K mg base CX0 1 f2 fd2 ["self", "word", "sign", "inner"] (LSp K (spWayInit C))) (B2 : Binds K fd2 ["self", "word", "sign", "inner"] []) : ∃ fd, FnOk P w K mg base CX0 2 f fd ["self", "part"] (LSp K (spInit C (gUn "unless"))) ∧ Binds K fd ["self", "part"] [] := by
  obtain ⟨cc, cda, fd, G, Sk, hb⟩ := Df.ex
  refine ⟨fd, okSup (k := 1) (sp2 := spWayInit C) G rfl sc_s_Unless___init__ rfl rfl rfl rfl rfl T.z_super rfl Sk (FnR_of F2 B2) (fun ds M Q E h => ?_) (fun A outer s H E hr => ⟨_, _, (a_cons d_str (a_cons d_str (a_cons (d_tup (a_cons (d_var 1) a_nil)) a_nil))), (ss_one (s_fld (d_var 0) (d_var 1))), fun ds M Q Ed h => ?_⟩), hb⟩
  · obtain ⟨x, args, ns, es, rfl, h1, h2, k⟩ := h
    obtain ⟨d, rfl⟩ : ∃ d, args = [d] := by
      match args, h2 with
      | [d], _ => exact ⟨d, rfl⟩
    rfl
  · obtain ⟨x, args, ns, es, rfl, h1, h2, k⟩ := h
    obtain ⟨d, rfl⟩ : ∃ d, args = [d] := by
      match args, h2 with
      | [d], _ => exact ⟨d, rfl⟩
    cases h2
    have e : startD N_s_Unless___init__ [.ref x, d] = [.val (.ref x), .val d, .no] := rfl
    rw [e]
    walk_at "dl"
    rw [h1]
    walk_at "dl"
    refine ⟨rfl, ?_⟩
    walk_at "dl"
    walk_at "c"
    refine ⟨x, _, _, _, _, rfl, h1, rfl, ?_⟩
    walk_at "dl"
    rw [mset_same]
    walk_at "dl"
    refine ⟨hF _ (by decide +kernel), by decide, ?_⟩
    walk_at "dl"
    rw [mset_mset, fputN_new (by decide +kernel), fputD_w (by decide +kernel)]
    exact k


abbrev s_Call___init__ : Stmt := inClass (top 25) 0
abbrev N_s_Call___init__ : List Str := ["self", "name", "__class__"]
theorem sc_s_Call___init__ : NdefX.NScope N_s_Call___init__ ["self", "name"] ["__class__"] (defScope s_Call___init__) := NdefX.nscope_by (by decide +kernel)
theorem ok_Call_init (T : TxtP mg) {C f f2 : Addr} {fd2 : FuncData} (hF : ∀ n ∈ fldN, FldOk K C n) (Df : SupAt P K C "__init__" "Call.__init__" ["self", "name"] s_Call___init__ f f2) (F2 : FnOk P w K mg base CX0 1 f2 fd2 ["self", "word", "sign", "inner"] (LSp K (spWayInit C))) (B2 : Binds K fd2 ["self", "word", "sign", "inner"] []) : ∃ fd, FnOk P w K mg base CX0 2 f fd ["self", "name"] (LSp K (spInit C (gLeaf "call" "name"))) ∧ Binds K fd ["self", "name"] [] := by
  obtain ⟨cc, cda, fd, G, Sk, hb⟩ := Df.ex
  refine ⟨fd, okSup (k := 1) (sp2 := spWayInit C) G rfl sc_s_Call___init__ rfl rfl rfl rfl rfl T.z_super rfl Sk (FnR_of F2 B2) (fun ds M Q E h => ?_) (fun A outer s H E hr => ⟨_, _, (a_cons d_str (a_cons (d_var 1) (a_cons (d_tup a_nil) a_nil))), (ss_one (s_fld (d_var 0) (d_var 1))), fun ds M Q Ed h => ?_⟩), hb⟩
  · obtain ⟨x, args, ns, es, rfl, h1, h2, k⟩ := h
    obtain ⟨d, rfl⟩ : ∃ d, args = [d] := by
      match args, h2 with
      | [d], _ => exact ⟨d, rfl⟩
    rfl
  · obtain ⟨x, args, ns, es, rfl, h1, h2, k⟩ := h
    obtain ⟨d, rfl⟩ : ∃ d, args = [d] := by
      match args, h2 with
      | [d], _ => exact ⟨d, rfl⟩
    cases h2
    have e : startD N_s_Call___init__ [.ref x, d] = [.val (.ref x), .val d, .no] := rfl
    rw [e]
    walk_at "dl"
    rw [h1]
    walk_at "dl"
    refine ⟨rfl, ?_⟩
    walk_at "dl"
    walk_at "c"
    refine ⟨x, _, _, _, _, rfl, h1, rfl, ?_⟩
    walk_at "dl"
    rw [mset_same]
    walk_at "dl"
    refine ⟨hF _ (by decide +kernel), by decide, ?_⟩
    walk_at "dl"
    rw [mset_mset, fputN_new (by decide +kernel), fputD_w (by decide +kernel)]
    exact k


abbrev s__law_made : Stmt := top 48
abbrev N_s__law_made : List Str := ["_law_way_here", "_law_ways", "_law_one"]
theorem sc_s__law_made : FnScope N_s__law_made ["_law_way_here"] (defScope s__law_made) := ⟨rfl, rfl, rfl, by decide +kernel, rfl, by decide +kernel, by decide +kernel⟩
theorem ok_made (T : TxtP mg) {W : WA} (hW : WCl P w K mg base W) (h__law_inner : Fn P w K mg base 1 "_law_inner" ["_law_way_here"] spInner) (Df : DefAt K mg "_law_made" ["_law_way_here"] s__law_made) (S : Nat) : Fn P w K mg base (3 + S) "_law_made" ["_law_way_here"] (spMade W S) := by
  have h_Letter := hW.c_letter
  have h_Call := hW.c_call
  have h_One := hW.c_one
  have h_Nothing := hW.c_nothing
  have h_Again := hW.c_again
  have h_Maybe := hW.c_maybe
  have h_Ahead := hW.c_ahead
  have h_Unless := hW.c_unless
  have h_Row := hW.c_row
  have h_Choice := hW.c_choice
  induction S with
  | zero => exact Fn.vac Df fun ds M Q E ⟨v, _, h1, _⟩ => absurd v.size_pos (by omega)
  | succ S h__law_made =>
  rw [show 3 + (S + 1) = (3 + S) + 1 from rfl]
  refine okF Df sc_s__law_made (fun ds M Q E h => ?_) fun f cdv A outer s H E hr => ⟨_, (ss_cons (s_if (d_tcmp od_in (d_ix (d_var 0) d_int) (d_lst (a_cons d_str (a_cons d_str a_nil))) (by rfl))
    (ss_one (s_ret (d_ifExp (d_tcmp (od_eq hr) (d_ix (d_var 0) d_int) d_str (nomark _)) (d_makeC h_Letter (hr.mono (by first | decide | omega)) (a_cons (d_ix (d_var 0) d_int) a_nil)) (d_makeC h_Call (hr.mono (by first | decide | omega)) (a_cons (d_ix (d_var 0) d_int) a_nil)))))
    ss_nil)
    (ss_cons (s_if (d_tcmp od_in (d_ix (d_var 0) d_int) (d_lst (a_cons d_str (a_cons d_str a_nil))) (by rfl))
    (ss_one (s_ret (d_ifExp (d_tcmp (od_eq hr) (d_ix (d_var 0) d_int) d_str (nomark _)) (d_makeC0 h_One (hr.mono (by first | decide | omega))) (d_makeC0 h_Nothing (hr.mono (by first | decide | omega))))))
    ss_nil)
    (ss_cons (s_setLc (i := 1) (own := [("_law_one", 2)]) rfl sc_s__law_made.nd rfl rfl (sw_true rfl rfl rfl (by decide +kernel)) (i_any (d_callF h__law_inner (hr.mono (by first | decide | omega)) (a_cons (d_var 0) a_nil))) (blkOk_by (N := N_s__law_made) (sc := defScope s__law_made) (by decide +kernel)) (fun _ _ _ _ _ => (gw_name (i := 2) (by decide) sc_s__law_made.nd)) (fun _ _ _ _ _ => ts_nil) (fun _ _ _ _ _ => (d_callF h__law_made (hr.mono (by first | decide | omega)) (a_cons (d_var 2) a_nil))))
    (ss_cons (s_if (d_tcmp od_in (d_ix (d_var 0) d_int) (d_lst (a_cons d_str (a_cons d_str a_nil))) (by rfl))
    (ss_one (s_ret (d_ifExp (d_tcmp (od_eq hr) (d_ix (d_var 0) d_int) d_str (nomark _)) (d_makeC h_Row (hr.mono (by first | decide | omega)) (a_cons (d_var 1) a_nil)) (d_makeC h_Choice (hr.mono (by first | decide | omega)) (a_cons (d_var 1) a_nil)))))
    ss_nil)
    (ss_cons (s_if (d_tcmp od_in (d_ix (d_var 0) d_int) (d_lst (a_cons d_str (a_cons d_str a_nil))) (by rfl))
    (ss_one (s_ret (d_ifExp (d_tcmp (od_eq hr) (d_ix (d_var 0) d_int) d_str (nomark _)) (d_makeC h_Again (hr.mono (by first | decide | omega)) (a_cons (d_ix (d_var 1) d_int) a_nil)) (d_makeC h_Maybe (hr.mono (by first | decide | omega)) (a_cons (d_ix (d_var 1) d_int) a_nil)))))
    ss_nil)
    (ss_one (s_ret (d_ifExp (d_tcmp (od_eq hr) (d_ix (d_var 0) d_int) d_str (nomark _)) (d_makeC h_Ahead (hr.mono (by first | decide | omega)) (a_cons (d_ix (d_var 1) d_int) a_nil)) (d_makeC h_Unless (hr.mono (by first | decide | omega)) (a_cons (d_ix (d_var 1) d_int) a_nil)))))))))), fun ds M Q Ed h => ?_⟩
  · obtain ⟨v, rfl, _⟩ := h
    rfl
  · obtain ⟨v, rfl, h1, h2, k⟩ := h
    have e : startD N_s__law_made [v.d] = [.val v.d, Sl.no, Sl.no] := rfl
    rw [e]
    cases v with
    | nothing => unfold WT.d; walk_at "a"; exact k
    | one => unfold WT.d; walk_at "a"; exact k
    | letter s => unfold WT.d; walk_at "a"; exact k
    | call s => unfold WT.d; walk_at "a"; exact k
    | un kk v =>
      have hd : (WT.un kk v).d = .tup [.str kk.s, v.d] := rfl
      have hs : v.size + 1 ≤ S + 1 := h1
      rw [hd]
      cases kk
      · walk_at "a"
        refine ⟨WT.un .again v, rfl, ?_⟩
        walk_at "dl"
        refine ⟨rfl, ?_⟩
        refine lcW_mapL (f := WT.d) (g := WT.o W) (fun v' => v'.size ≤ S ∧ v'.size ≤ 1000) (fun v' R hp hR => ?_) _ [] (fun v1 hv => by obtain rfl := List.mem_singleton.mp hv; exact ⟨by omega, by have : v1.size + 1 ≤ 1000 := h2; omega⟩) (by rw [sizeLine_eq]; show 0 + 1 ≤ _; omega) ?_
        · walk_at "dl"
          refine ⟨v', rfl, hp.1, hp.2, ?_⟩
          walk_at "dl"
          exact hR _ rfl
        have hi : [] ++ (WT.un .again v).inner.map (WT.o W) = [v.o W] := rfl
        rw [hi]
        walk_at "a"
        exact k
      · walk_at "a"
        refine ⟨WT.un .maybe v, rfl, ?_⟩
        walk_at "dl"
        refine ⟨rfl, ?_⟩
        refine lcW_mapL (f := WT.d) (g := WT.o W) (fun v' => v'.size ≤ S ∧ v'.size ≤ 1000) (fun v' R hp hR => ?_) _ [] (fun v1 hv => by obtain rfl := List.mem_singleton.mp hv; exact ⟨by omega, by have : v1.size + 1 ≤ 1000 := h2; omega⟩) (by rw [sizeLine_eq]; show 0 + 1 ≤ _; omega) ?_
        · walk_at "dl"
          refine ⟨v', rfl, hp.1, hp.2, ?_⟩
          walk_at "dl"
          exact hR _ rfl
        have hi : [] ++ (WT.un .maybe v).inner.map (WT.o W) = [v.o W] := rfl
        rw [hi]
        walk_at "a"
        exact k
      · walk_at "a"
        refine ⟨WT.un .ahead v, rfl, ?_⟩
        walk_at "dl"
        refine ⟨rfl, ?_⟩
        refine lcW_mapL (f := WT.d) (g := WT.o W) (fun v' => v'.size ≤ S ∧ v'.size ≤ 1000) (fun v' R hp hR => ?_) _ [] (fun v1 hv => by obtain rfl := List.mem_singleton.mp hv; exact ⟨by omega, by have : v1.size + 1 ≤ 1000 := h2; omega⟩) (by rw [sizeLine_eq]; show 0 + 1 ≤ _; omega) ?_
        · walk_at "dl"
          refine ⟨v', rfl, hp.1, hp.2, ?_⟩
          walk_at "dl"
          exact hR _ rfl
        have hi : [] ++ (WT.un .ahead v).inner.map (WT.o W) = [v.o W] := rfl
        rw [hi]
        walk_at "a"
        exact k
      · walk_at "a"
        refine ⟨WT.un .unless v, rfl, ?_⟩
        walk_at "dl"
        refine ⟨rfl, ?_⟩
        refine lcW_mapL (f := WT.d) (g := WT.o W) (fun v' => v'.size ≤ S ∧ v'.size ≤ 1000) (fun v' R hp hR => ?_) _ [] (fun v1 hv => by obtain rfl := List.mem_singleton.mp hv; exact ⟨by omega, by have : v1.size + 1 ≤ 1000 := h2; omega⟩) (by rw [sizeLine_eq]; show 0 + 1 ≤ _; omega) ?_
        · walk_at "dl"
          refine ⟨v', rfl, hp.1, hp.2, ?_⟩
          walk_at "dl"
          exact hR _ rfl
        have hi : [] ++ (WT.un .unless v).inner.map (WT.o W) = [v.o W] := rfl
        rw [hi]
        walk_at "a"
        exact k
    | many c ws =>
      have hd : (WT.many c ws).d = .tup [.str (manyS c), .lst (WT.dOf ws)] := rfl
      have hs : WT.sizes ws + 1 ≤ S + 1 := h1
      have hs2 : WT.sizes ws + 1 ≤ 1000 := h2
      have hl := WT.sizes_length ws
      rw [hd]
      cases c with
      | false =>
        walk_at "a"
        refine ⟨WT.many false ws, rfl, ?_⟩
        walk_at "dl"
        refine ⟨rfl, ?_⟩
        refine lcW_mapL (f := WT.d) (g := WT.o W) (fun v' => v'.size ≤ S ∧ v'.size ≤ 1000) (fun v' R hp hR => ?_) _ [] (fun v1 (hv : v1 ∈ ws) => by have := WT.sizes_mem hv; exact ⟨by omega, by omega⟩) (by rw [sizeLine_eq]; show 0 + ws.length ≤ _; omega) ?_
        · walk_at "dl"
          refine ⟨v', rfl, hp.1, hp.2, ?_⟩
          walk_at "dl"
          exact hR _ rfl
        rw [List.nil_append, ← WT.oOf_map]
        walk_at "a"
        exact k
      | true =>
        walk_at "a"
        refine ⟨WT.many true ws, rfl, ?_⟩
        walk_at "dl"
        refine ⟨rfl, ?_⟩
        refine lcW_mapL (f := WT.d) (g := WT.o W) (fun v' => v'.size ≤ S ∧ v'.size ≤ 1000) (fun v' R hp hR => ?_) _ [] (fun v1 (hv : v1 ∈ ws) => by have := WT.sizes_mem hv; exact ⟨by omega, by omega⟩) (by rw [sizeLine_eq]; show 0 + ws.length ≤ _; omega) ?_
        · walk_at "dl"
          refine ⟨v', rfl, hp.1, hp.2, ?_⟩
          walk_at "dl"
          exact hR _ rfl
        rw [List.nil_append, ← WT.oOf_map]
        walk_at "a"
        exact k


abbrev s_parts_of : Stmt := top 27
abbrev N_s_parts_of : List Str := ["way", "path", "found", "index", "inner"]
theorem sc_s_parts_of : FnScope N_s_parts_of ["way", "path"] (defScope s_parts_of) := ⟨rfl, rfl, rfl, by decide +kernel, rfl, by decide +kernel, by decide +kernel⟩
theorem ok_parts_of (T : TxtP mg) {W : WA} (hF : WOk K W) (Df : DefAt1 K mg "parts_of" ["way", "path"] [D.tup []] s_parts_of) (S : Nat) : Fn1 P w K mg base (1 + S) "parts_of" ["way", "path"] [D.tup []] (spParts W S) := by
  induction S with
  | zero => exact Fn1.vac Df fun ds M Q E ⟨v, p, _, h1, _⟩ => absurd v.size_pos (by omega)
  | succ S h_parts_of =>
  rw [show 1 + (S + 1) = (1 + S) + 1 from rfl]
  refine okF1 Df sc_s_parts_of (fun ds M Q E h => ?_) fun f cdv A outer s H E hr => ⟨_, (ss_cons (s_setN (i := 2) sc_s_parts_of.nd (n_lst (a_cons (d_tup (a_cons (d_var 1) (a_cons (d_var 0) a_nil))) a_nil)))
    (ss_cons (s_for PassesOwn.never rfl (i_enum rfl T.z_enumerate (a_cons (d_fld (d_var 0)) a_nil)) (g_tup (n := 2) rfl (gs_cons (g_name (i := 3) sc_s_parts_of.nd) (gs_cons (g_name (i := 4) sc_s_parts_of.nd) gs_nil)))
    (ss_one (s_extend 2 (d_callF h_parts_of.fn (hr.mono (by first | decide | omega)) (a_cons (d_var 4) (a_cons (d_tup (a_star (d_var 1) (a_cons (d_var 3) a_nil))) a_nil))))))
    (ss_one (s_ret (d_var 2))))), fun ds M Q Ed h => ?_⟩
  · obtain ⟨v, p, rfl, _⟩ := h
    rfl
  · obtain ⟨v, p, rfl, h1, h2, k⟩ := h
    have e : startD N_s_parts_of [v.o W, pathD p] = [.val (v.o W), .val (pathD p), Sl.no, Sl.no, Sl.no] := rfl
    rw [e]
    walk_at "a"
    obtain ⟨C, ns, ds, ho, hc⟩ := WT.o_obj W v
    have hi : insD (v.o W) M = some (C, wayN ++ ns, .str v.word :: .str v.sign :: .tup (v.inner.map (WT.o W)) :: ds) := by rw [ho]
    rw [hi]
    walk_at "dl"
    refine ⟨hF C hc _ (by decide +kernel), ?_⟩
    rw [fget_i]
    walk_at "dl"
    have hz := WT.sizes_inner v
    refine forW_enum (f := WT.o W) (fun i xs env M' => M' = M ∧ WT.sizes xs ≤ WT.sizes v.inner ∧ i + xs.length = v.inner.length ∧ ∃ (acc : List (List Nat × WT)) (v3 v4 : Sl), env = [.val (v.o W), .val (pathD p), .own (acc.map (ptD W)), v3, v4] ∧ acc.length + WT.sizes xs = v.size ∧ v.parts p = acc ++ WT.partsL p i xs) ?_ ?_ v.inner 0 _ M ?_
    · rintro i env M' ⟨rfl, _, _, acc, v3, v4, rfl, _, ha⟩
      walk_at "dl"
      rw [ha] at k
      unfold WT.partsL at k
      rw [List.append_nil] at k
      exact k
    · rintro i a r R hR env M' ⟨rfl, hl, hn, acc, v3, v4, rfl, hl2, ha⟩
      have hl' : a.size + WT.sizes r ≤ WT.sizes v.inner := hl
      have hl2' : acc.length + (a.size + WT.sizes r) = v.size := hl2
      refine ⟨rfl, ?_⟩
      walk_at "dl"
      refine ⟨by rw [sizeLine_eq, List.length_append, List.length_map]; show p.length + 1 ≤ _; omega, ?_⟩
      walk_at "dl"
      refine ⟨a, p ++ [i], ?_, by omega, by rw [List.length_append, List.length_singleton]; omega, ?_⟩
      · rw [pathD, List.map_append]
        rfl
      walk_at "dl"
      refine ⟨by rw [sizeLine_eq, List.length_map, List.length_map, WT.parts_length]; omega, ?_⟩
      walk_at "dl"
      rw [← List.map_append]
      refine hR _ _ ⟨rfl, by omega, by rw [List.length_cons] at hn; omega, acc ++ a.parts (p ++ [i]), _, _, rfl, by rw [List.length_append, WT.parts_length]; omega, ?_⟩
      rw [ha, List.append_assoc]
      rfl
    · exact ⟨rfl, Nat.le_refl _, Nat.zero_add _, [(p, v)], .no, .no, rfl, by show 1 + _ = _; omega, by rw [WT.parts_eq]; rfl⟩


abbrev s_calls_of : Stmt := top 28
abbrev N_s_calls_of : List Str := ["way", "path", "part"]
theorem sc_s_calls_of : FnScope N_s_calls_of ["way"] (defScope s_calls_of) := ⟨rfl, rfl, rfl, by decide +kernel, rfl, by decide +kernel, by decide +kernel⟩
theorem ok_calls_of (T : TxtP mg) {W : WA} (hF : WOk K W) (S : Nat) (h_parts_of : Fn1 P w K mg base (1 + S) "parts_of" ["way", "path"] [D.tup []] (spParts W S)) (Df : DefAt K mg "calls_of" ["way"] s_calls_of) : Fn P w K mg base (2 + S) "calls_of" ["way"] (spCalls W S) := by
  rw [show 2 + S = (1 + S) + 1 from by omega]
  refine okF Df sc_s_calls_of (fun ds M Q E h => ?_) fun f cdv A outer s H E hr => ⟨_, (ss_one (s_ret (d_new (n_lc (own := [("path", 1), ("part", 2)]) rfl sc_s_calls_of.nd (i_any (d_callF1 h_parts_of (hr.mono (by first | decide | omega)) (a_cons (d_var 0) a_nil))) (blkOk_by (N := N_s_calls_of) (sc := defScope s_calls_of) (by decide +kernel)) (fun _ _ _ _ _ => (gw_tup (n := 2) rfl (gsw_cons (gw_name (i := 1) (by decide) sc_s_calls_of.nd) (gsw_cons (gw_name (i := 2) (by decide) sc_s_calls_of.nd) gsw_nil)))) (fun _ _ _ _ _ => (ts_oneK (d_tcmp (od_eq hr) (d_fldK (K := K) (d_var 2)) d_str (nomark _)))) (fun _ _ _ _ _ => (d_fldK (K := K) (d_var 2))))))), fun ds M Q Ed h => ?_⟩
  · obtain ⟨v, rfl, _⟩ := h
    rfl
  · obtain ⟨v, rfl, h1, h2, k⟩ := h
    have e : startD N_s_calls_of [v.o W] = [.val (v.o W), Sl.no, Sl.no] := rfl
    rw [e]
    walk_at "dl"
    refine ⟨v, [], rfl, h1, by show v.size + 0 < _; omega, ?_⟩
    walk_at "dl"
    refine ⟨rfl, ?_⟩
    have eb : wipeD [Sl.val (v.o W), Sl.no, Sl.no] (ownIx [(("path" : Str), 1), (("part" : Str), 2)]) = [.val (v.o W), .no, .no] := rfl
    rw [eb]
    refine lcW_filter (f := ptD W) (g := fun q => .str q.2.sign) (q := fun q => q.2.word == ("call" : Str)) (fun _ => True) (fun a R1 R0 _ hR1 hR0 => ?_) _ [] (fun _ _ => trivial) (by rw [WT.parts_length, sizeLine_eq]; show 0 + _ ≤ _; omega) ?_
    · obtain ⟨p, v1⟩ := a
      walk_at "dl"
      refine ⟨rfl, ?_⟩
      walk_at "dl"
      obtain ⟨C, ns, ds, ho, hc⟩ := WT.o_obj W v1
      have hi : insD (v1.o W) M = some (C, wayN ++ ns, .str v1.word :: .str v1.sign :: .tup (v1.inner.map (WT.o W)) :: ds) := by rw [ho]
      rw [hi]
      walk_at "dl"
      refine ⟨hF C hc _ (by decide +kernel), ?_⟩
      rw [fget_w]
      walk_at "dl"
      refine ⟨okEq_word v1, okEq_flat (by decide +kernel), ?_⟩
      walk_at "dl"
      rw [deq_str]
      cases hq : (v1.word == ("call" : Str)) with
      | true =>
        walk_at "dl"
        rw [hi]
        walk_at "dl"
        refine ⟨hF C hc _ (by decide +kernel), ?_⟩
        rw [fget_s]
        walk_at "dl"
        exact hR1 hq _ rfl
      | false =>
        walk_at "dl"
        exact hR0 hq _ rfl
    · walk_at "dl"
      unfold WT.calls at k
      rw [List.map_map] at k
      exact k


abbrev s_check_calls : Stmt := top 29
abbrev N_s_check_calls : List Str := ["ways", "way", "names"]
theorem sc_s_check_calls : FnScope N_s_check_calls ["ways"] (defScope s_check_calls) := ⟨rfl, rfl, rfl, by decide +kernel, rfl, by decide +kernel, by decide +kernel⟩
theorem ok_check_calls (T : TxtP mg) {W : WA} (S : Nat) (h_calls_of : Fn P w K mg base (2 + S) "calls_of" ["way"] (spCalls W S)) (Df : DefAt K mg "check_calls" ["ways"] s_check_calls) : Fn P w K mg base (3 + S) "check_calls" ["ways"] (spCheck W S) := by
  rw [show 3 + S = (2 + S) + 1 from by omega]
  refine okF Df sc_s_check_calls (fun ds M Q E h => ?_) fun f cdv A outer s H E hr => ⟨_, (ss_one (s_for PassesOwn.never rfl (i_any (d_var 0)) (g_name (i := 1) sc_s_check_calls.nd)
    (ss_cons (s_set (i := 2) sc_s_check_calls.nd (d_callF h_calls_of (hr.mono (by first | decide | omega)) (a_cons (d_var 1) a_nil)))
    (ss_one (s_if (d_tcmp (od_ne hr) (d_var 2) (d_lst a_nil) (nomark _))
    (ss_one s_never)
    ss_nil))))), fun ds M Q Ed h => ?_⟩
  · obtain ⟨v, rfl, _⟩ := h
    rfl
  · obtain ⟨ws, rfl, h1, k⟩ := h
    have e : startD N_s_check_calls [.lst (ws.map (WT.o W))] = [.val (.lst (ws.map (WT.o W))), Sl.no, Sl.no] := rfl
    rw [e]
    walk_at "dl"
    refine forW_list (f := WT.o W) (fun xs env M' => M' = M ∧ (∀ v ∈ xs, v ∈ ws) ∧ ∃ v1 v2, env = [.val (.lst (ws.map (WT.o W))), v1, v2]) ?_ ?_ ws _ M ⟨rfl, fun _ h => h, _, _, rfl⟩
    · rintro env M' ⟨rfl, _, v1, v2, rfl⟩
      walk_at "dl"
      exact k
    · rintro a r R hR env M' ⟨rfl, hm, v1, v2, rfl⟩
      obtain ⟨g1, g2, g3⟩ := h1 a (hm a List.mem_cons_self)
      walk_at "dl"
      refine ⟨a, rfl, g1, g2, ?_⟩
      rw [g3]
      walk_at "dl"
      walk_at "c"
      refine ⟨okEq_nil, okEq_nil, ?_⟩
      walk_at "dl"
      rw [deq_nil]
      walk_at "dl"
      exact hR _ _ ⟨rfl, fun v hv => hm v (List.mem_cons_of_mem _ hv), _, _, rfl⟩


abbrev s__law_take : Stmt := top 49
abbrev N_s__law_take : List Str := ["_law_way_here", "_law_text", "_law_place", "_law_word", "_law_here", "_law_one", "_law_told", "_law_end", "_law_turn"]
theorem sc_s__law_take : FnScope N_s__law_take ["_law_way_here", "_law_text", "_law_place"] (defScope s__law_take) := ⟨rfl, rfl, rfl, by decide +kernel, rfl, by decide +kernel, by decide +kernel⟩
theorem ok_take_step (T : TxtP mg) {k S : Nat} (Df : DefAt K mg "_law_take" ["_law_way_here", "_law_text", "_law_place"] s__law_take) (h__law_take : Fn P w K mg base k "_law_take" ["_law_way_here", "_law_text", "_law_place"] (spTake S)) (h__law_take_row : Fn P w K mg base k "_law_take_row" ["_law_ways", "_law_text", "_law_place"] (spTakeRow S)) : Fn P w K mg base (k + 1) "_law_take" ["_law_way_here", "_law_text", "_law_place"] (spTake (S + 1)) := by
  refine okF Df sc_s__law_take (fun ds M Q E h => ?_) fun f cdv A outer s H E hr => ⟨_, (ss_cons (s_set (i := 3) sc_s__law_take.nd (d_ix (d_var 0) d_int))
    (ss_cons (s_if (d_tcmp od_in (d_var 3) (d_lst (a_cons d_str (a_cons d_str a_nil))) (by rfl))
    (ss_cons (s_set (i := 4) sc_s__law_take.nd (d_slice (d_var 1) (o_some (d_var 2)) (o_some (d_op od_add (d_var 2) d_int))))
    (ss_one (s_ret (d_ifExp (d_wt (w_and (d_tcmp (od_ne hr) (d_var 4) d_str (nomark _)) (w_and1 (d_wt (w_or (d_tcmp (od_eq hr) (d_var 3) d_str (nomark _)) (w_or1 (d_tcmp (od_eq hr) (d_var 4) (d_ix (d_var 0) d_int) (nomark _)))))))) d_int d_non))))
    ss_nil)
    (ss_cons (s_if (d_tcmp (od_eq hr) (d_var 3) d_str (nomark _))
    (ss_one (s_ret d_int))
    ss_nil)
    (ss_cons (s_if (d_tcmp (od_eq hr) (d_var 3) d_str (nomark _))
    (ss_one (s_ret (d_callF h__law_take_row (hr.mono (by first | decide | omega)) (a_cons (d_ix (d_var 0) d_int) (a_cons (d_var 1) (a_cons (d_var 2) a_nil))))))
    ss_nil)
    (ss_cons (s_if (d_tcmp (od_eq hr) (d_var 3) d_str (nomark _))
    (ss_cons (s_for PassesOwn.never rfl (i_any (d_ix (d_var 0) d_int)) (g_name (i := 5) sc_s__law_take.nd)
    (ss_cons (s_set (i := 6) sc_s__law_take.nd (d_callF h__law_take (hr.mono (by first | decide | omega)) (a_cons (d_var 5) (a_cons (d_var 1) (a_cons (d_var 2) a_nil)))))
    (ss_one (s_if (d_tcmp od_notN (d_var 6) d_non (nomark _))
    (ss_one (s_ret (d_var 6)))
    ss_nil))))
    (ss_one (s_ret d_non)))
    ss_nil)
    (ss_cons (s_set (i := 6) sc_s__law_take.nd (d_callF h__law_take (hr.mono (by first | decide | omega)) (a_cons (d_ix (d_var 0) d_int) (a_cons (d_var 1) (a_cons (d_var 2) a_nil)))))
    (ss_cons (s_if (d_tcmp (od_eq hr) (d_var 3) d_str (nomark _))
    (ss_cons (s_set (i := 7) sc_s__law_take.nd (d_var 2))
    (ss_cons (s_for PassesOwn.never rfl (i_rng1 rfl T.z_range (a_cons (d_op od_add (d_callB cd_len rfl T.z_len PySem.boot_len (a_cons (d_var 1) a_nil)) d_int) a_nil)) (g_name (i := 8) sc_s__law_take.nd)
    (ss_cons (s_if (d_wt (w_or (d_tcmp od_isN (d_var 6) d_non (nomark _)) (w_or1 (d_tcmp (od_eq hr) (d_var 6) d_int (nomark _)))))
    (ss_one (s_ret (d_op od_sub (d_var 7) (d_var 2))))
    ss_nil)
    (ss_cons (s_set (i := 7) sc_s__law_take.nd (d_op od_add (d_var 7) (d_var 6)))
    (ss_one (s_set (i := 6) sc_s__law_take.nd (d_callF h__law_take (hr.mono (by first | decide | omega)) (a_cons (d_ix (d_var 0) d_int) (a_cons (d_var 1) (a_cons (d_var 7) a_nil)))))))))
    (ss_one (s_ret (d_op od_sub (d_var 7) (d_var 2))))))
    ss_nil)
    (ss_cons (s_if (d_tcmp (od_eq hr) (d_var 3) d_str (nomark _))
    (ss_one (s_ret (d_ifExp (d_tcmp od_isN (d_var 6) d_non (nomark _)) d_int (d_var 6))))
    ss_nil)
    (ss_one (s_ret (d_ifExp (d_tcmp (od_eq hr) (d_cmp od_isN (d_var 6) d_non (nomark _)) (d_cmp (od_eq hr) (d_var 3) d_str (nomark _)) (nomark _)) d_int d_non))))))))))), fun ds M Q Ed h => ?_⟩
  · obtain ⟨v, l, p, rfl, _⟩ := h
    rfl
  · obtain ⟨v, l, p, rfl, h1, h2, h3, h4, h5, h6, q⟩ := h
    have e : startD N_s__law_take [v.d, .str (tx l), .int (p : Nat)] = [.val v.d, .val (.str (tx l)), .val (.int (p : Nat)), Sl.no, Sl.no, Sl.no, Sl.no, Sl.no, Sl.no] := rfl
    have hz : (tx l).length ≤ sizeLine := by rw [tx_len, sizeLine_eq]; omega
    have hp1 : ((p : Int) + 1) = ((p + 1 : Nat) : Int) := by omega
    rw [e]
    have here : ∀ c, l[p]? = some c → okEq (.str (tx [c])) := fun c hc => okEq_tx fun x hx => by
      rw [List.mem_singleton.mp hx]
      exact h4 c (List.mem_of_getElem? hc)
    have ok0 : okEq (.str (tx [])) := okEq_tx fun x hx => by cases hx
    cases v with
    | nothing => unfold WT.d; walk_at "a"; exact q
    | one =>
      rw [tk] at q
      unfold WT.d
      walk_at "a"
      rw [cut_one]
      cases hc : l[p]? with
      | none =>
        rw [if_neg (by have := List.getElem?_eq_none_iff.mp hc; omega)] at q
        walk_at "dl"
        rw [tx_empty]
        refine ⟨ok0, ok0, ?_⟩
        walk_at "dl"
        rw [deq_str, beq_self_eq_true]
        walk_at "dl"
        exact q
      | some c =>
        have hlt := (List.getElem?_eq_some_iff.mp hc).1
        rw [if_pos hlt] at q
        walk_at "dl"
        rw [tx_empty]
        refine ⟨here c hc, ok0, ?_⟩
        walk_at "dl"
        rw [deq_str, tx_beq, decide_eq_false (by intro z; cases z)]
        walk_at "a"
        exact q
    | letter s =>
      have hs : okEq (.str s) := okEq_flat h3
      rw [tk] at q
      unfold WT.d
      walk_at "a"
      rw [cut_one]
      cases hc : l[p]? with
      | none =>
        rw [hc] at q
        walk_at "dl"
        rw [tx_empty]
        refine ⟨ok0, ok0, ?_⟩
        walk_at "dl"
        rw [deq_str, beq_self_eq_true]
        walk_at "dl"
        exact q
      | some c =>
        rw [hc] at q
        walk_at "dl"
        rw [tx_empty]
        refine ⟨here c hc, ok0, ?_⟩
        walk_at "dl"
        rw [deq_str, tx_beq, decide_eq_false (by intro z; cases z)]
        walk_at "a"
        refine ⟨here c hc, hs, ?_⟩
        walk_at "dl"
        rw [deq_str]
        by_cases hcs : tx [c] = s
        · rw [beq_iff_eq.mpr hcs]
          have q' : Q (optD (if tx [c] = s then some 1 else none)) M := q
          rw [if_pos hcs] at q'
          walk_at "dl"
          exact q'
        · rw [beq_eq_false_iff_ne.mpr hcs]
          have q' : Q (optD (if tx [c] = s then some 1 else none)) M := q
          rw [if_neg hcs] at q'
          walk_at "dl"
          exact q'
    | call s => exact h3.elim
    | un kk v =>
      have g1 : v.size + 1 ≤ S + 1 := h1
      have g2 : v.size + 1 < 1000 := h2
      have g3 : v.pln := h3
      have hd : (WT.un kk v).d = .tup [.str kk.s, v.d] := rfl
      rw [hd]
      cases kk
      · rw [tk] at q
        walk_at "a"
        refine ⟨v, l, p, rfl, by omega, by omega, g3, h4, h5, h6, ?_⟩
        walk_at "a"
        refine ⟨⟨by rw [tx_len]; omega, by rw [tx_len]; omega⟩, ?_⟩
        rw [tx_len]
        refine forW_rng (fun i env M' => M' = M ∧ ∃ (n : Nat) (v8 : Sl), env = [.val (.tup [.str Un.again.s, v.d]), .val (.str (tx l)), .val (.int (p : Nat)), .val (.str Un.again.s), .no, .no, .val (optD (tk l v n)), .val (.int (n : Nat)), v8] ∧ (p : Int) + i ≤ n ∧ n ≤ l.length ∧ p ≤ n ∧ tkAgain (tk l v) (l.length + 1) p = (n - p) + tkAgain (tk l v) (l.length + 1) n) _ 0 ?_ ?_ _ M ⟨rfl, p, .no, rfl, by omega, h6, Nat.le_refl _, by rw [Nat.sub_self, Nat.zero_add]⟩
        · rintro env M' ⟨rfl, n, v8, rfl, f1, f2, f3, f4⟩
          omega
        · rintro i R i1 i2 hR env M' ⟨rfl, n, v8, rfl, f1, f2, f3, f4⟩
          have fin : tkAgain (tk l v) (l.length + 1) n = 0 → Q (.int ((n : Int) - (p : Int))) M' := fun z => by
            rw [f4, z, Nat.add_zero] at q
            have q' : Q (.int ((n - p : Nat) : Int)) M' := q
            rw [Int.ofNat_sub f3] at q'
            exact q'
          cases ht : tk l v n with
          | none =>
            rw [optD_none]
            walk_at "a"
            exact fin (by rw [again_step l v f2, ht])
          | some t =>
            rw [optD_some]
            walk_at "dl"
            walk_at "q"
            cases t with
            | zero =>
              rw [decide_eq_true (by rfl)]
              walk_at "a"
              exact fin (by rw [again_step l v f2, ht])
            | succ t =>
              rw [decide_eq_false (by omega)]
              walk_at "a"
              have g6 := tk_le l v n (t + 1) f2 ht
              refine ⟨v, l, n + (t + 1), ?_, by omega, by omega, g3, h4, h5, g6, ?_⟩
              · show [v.d, D.str (tx l), D.int ((n : Int) + ((t + 1 : Nat) : Int))] = _
                rw [show (n : Int) + ((t + 1 : Nat) : Int) = ((n + (t + 1) : Nat) : Int) from by omega]
              walk_at "dl"
              refine hR _ _ ⟨rfl, n + (t + 1), .val (.int i), ?_, by omega, g6, by omega, ?_⟩
              · rw [show ((n + (t + 1) : Nat) : Int) = (n : Int) + ((t + 1 : Nat) : Int) from by omega]
              · rw [f4, again_step l v f2, ht]
                show n - p + ((t + 1) + _) = _
                omega
      · rw [tk] at q
        walk_at "a"
        refine ⟨v, l, p, rfl, by omega, by omega, g3, h4, h5, h6, ?_⟩
        walk_at "a"
        cases ht : tk l v p with
        | none => rw [ht] at q; rw [optD_none]; walk_at "a"; exact q
        | some t => rw [ht] at q; rw [optD_some]; walk_at "a"; exact q
      · rw [tk] at q
        walk_at "a"
        refine ⟨v, l, p, rfl, by omega, by omega, g3, h4, h5, h6, ?_⟩
        walk_at "a"
        cases ht : tk l v p with
        | none => rw [ht] at q; rw [optD_none]; walk_at "a"; exact q
        | some t => rw [ht] at q; rw [optD_some]; walk_at "a"; exact q
      · rw [tk] at q
        walk_at "a"
        refine ⟨v, l, p, rfl, by omega, by omega, g3, h4, h5, h6, ?_⟩
        walk_at "a"
        cases ht : tk l v p with
        | none => rw [ht] at q; rw [optD_none]; walk_at "a"; exact q
        | some t => rw [ht] at q; rw [optD_some]; walk_at "a"; exact q
    | many c ws =>
      have g1 : WT.sizes ws + 1 ≤ S + 1 := h1
      have g2 : WT.sizes ws + 1 < 1000 := h2
      have g3 : WT.plns ws := h3
      have hd : (WT.many c ws).d = .tup [.str (manyS c), .lst (ws.map WT.d)] := by rw [WT.d, WT.dOf_map]
      rw [hd]
      cases c
      · rw [tk] at q
        walk_at "a"
        refine ⟨ws, l, p, rfl, by omega, by omega, g3, h4, h5, h6, ?_⟩
        walk_at "dl"
        exact q
      · rw [tk] at q
        walk_at "a"
        refine forW_list (f := WT.d) (fun xs env M' => M' = M ∧ ∃ (v5 v6 : Sl), env = [.val (.tup [.str (manyS true), .lst (ws.map WT.d)]), .val (.str (tx l)), .val (.int (p : Nat)), .val (.str (manyS true)), .no, v5, v6, .no, .no] ∧ WT.sizes xs ≤ WT.sizes ws ∧ WT.plns xs ∧ tkChoice l ws p = tkChoice l xs p) ?_ ?_ ws _ M ⟨rfl, .no, .no, rfl, Nat.le_refl _, g3, rfl⟩
        · rintro env M' ⟨rfl, v5, v6, rfl, f1, f2, f3⟩
          walk_at "dl"
          rw [f3, tkChoice] at q
          exact q
        · rintro a r R hR env M' ⟨rfl, v5, v6, rfl, f1, f2, f3⟩
          have f1' : a.size + WT.sizes r ≤ WT.sizes ws := f1
          walk_at "dl"
          refine ⟨a, l, p, rfl, by omega, by omega, f2.1, h4, h5, h6, ?_⟩
          walk_at "dl"
          rw [f3, tkChoice] at q
          cases ht : tk l a p with
          | none =>
            rw [optD_none]
            walk_at "a"
            exact hR _ _ ⟨rfl, _, _, rfl, by omega, f2.2, by rw [f3, tkChoice, ht]⟩
          | some t =>
            rw [ht] at q
            rw [optD_some]
            walk_at "a"
            exact q


abbrev s__law_take_row : Stmt := top 50
abbrev N_s__law_take_row : List Str := ["_law_ways", "_law_text", "_law_place", "_law_end", "_law_one", "_law_told"]
theorem sc_s__law_take_row : FnScope N_s__law_take_row ["_law_ways", "_law_text", "_law_place"] (defScope s__law_take_row) := ⟨rfl, rfl, rfl, by decide +kernel, rfl, by decide +kernel, by decide +kernel⟩
theorem ok_take_row (T : TxtP mg) {k S : Nat} (h__law_take : Fn P w K mg base k "_law_take" ["_law_way_here", "_law_text", "_law_place"] (spTake S)) (Df : DefAt K mg "_law_take_row" ["_law_ways", "_law_text", "_law_place"] s__law_take_row) : Fn P w K mg base (k + 1) "_law_take_row" ["_law_ways", "_law_text", "_law_place"] (spTakeRow S) := by
  refine okF Df sc_s__law_take_row (fun ds M Q E h => ?_) fun f cdv A outer s H E hr => ⟨_, (ss_cons (s_set (i := 3) sc_s__law_take_row.nd (d_var 2))
    (ss_cons (s_for PassesOwn.never rfl (i_any (d_var 0)) (g_name (i := 4) sc_s__law_take_row.nd)
    (ss_cons (s_set (i := 5) sc_s__law_take_row.nd (d_callF h__law_take (hr.mono (by first | decide | omega)) (a_cons (d_var 4) (a_cons (d_var 1) (a_cons (d_var 3) a_nil)))))
    (ss_cons (s_if (d_tcmp od_isN (d_var 5) d_non (nomark _))
    (ss_one (s_ret d_non))
    ss_nil)
    (ss_one (s_set (i := 3) sc_s__law_take_row.nd (d_op od_add (d_var 3) (d_var 5)))))))
    (ss_one (s_ret (d_op od_sub (d_var 3) (d_var 2)))))), fun ds M Q Ed h => ?_⟩
  · obtain ⟨v, l, p, rfl, _⟩ := h
    rfl
  · obtain ⟨ws, l, p, rfl, h1, h2, h3, h4, h5, h6, q⟩ := h
    have e : startD N_s__law_take_row [.lst (ws.map WT.d), .str (tx l), .int (p : Nat)] = [.val (.lst (ws.map WT.d)), .val (.str (tx l)), .val (.int (p : Nat)), Sl.no, Sl.no, Sl.no] := rfl
    rw [e]
    walk_at "dl"
    refine forW_list (f := WT.d) (fun xs env M' => M' = M ∧ ∃ (n : Nat) (v1 v2 : Sl), env = [.val (.lst (ws.map WT.d)), .val (.str (tx l)), .val (.int (p : Nat)), .val (.int (n : Nat)), v1, v2] ∧ p ≤ n ∧ n ≤ l.length ∧ WT.sizes xs ≤ WT.sizes ws ∧ WT.plns xs ∧ tkRow l ws p = (tkRow l xs n).map ((n - p) + ·)) ?_ ?_ ws _ M ⟨rfl, p, .no, .no, rfl, Nat.le_refl _, h6, Nat.le_refl _, h3, ?_⟩
    · rintro env M' ⟨rfl, n, v1, v2, rfl, g1, g2, g3, g4, g5⟩
      walk_at "dl"
      rw [g5] at q
      have e2 : optD ((tkRow l [] n).map ((n - p) + ·)) = .int ((n : Int) - (p : Int)) := by
        show D.int (((n - p + 0 : Nat)) : Int) = _
        rw [Nat.add_zero, Int.ofNat_sub g1]
      rw [e2] at q
      exact q
    · rintro a r R hR env M' ⟨rfl, n, v1, v2, rfl, g1, g2, g3, g4, g5⟩
      have g3' : a.size + WT.sizes r ≤ WT.sizes ws := g3
      walk_at "dl"
      refine ⟨a, l, n, rfl, by omega, by omega, g4.1, h4, h5, g2, ?_⟩
      walk_at "dl"
      cases ht : tk l a n with
      | none =>
        unfold optD
        walk_at "dl"
        rw [g5] at q
        have e2 : tkRow l (a :: r) n = none := by rw [tkRow, ht]
        rw [e2] at q
        exact q
      | some t =>
        unfold optD
        walk_at "dl"
        have e2 : tkRow l (a :: r) n = (tkRow l r (n + t)).map (t + ·) := by rw [tkRow, ht]
        refine hR _ _ ⟨rfl, n + t, .val a.d, .val (.int (t : Nat)), ?_, by omega, tk_le l a n t g2 ht, by omega, g4.2, ?_⟩
        · rw [show ((n + t : Nat) : Int) = (n : Int) + (t : Int) from by omega]
        · rw [g5, e2, Option.map_map]
          congr 1
          funext u
          show n - p + (t + u) = n + t - p + u
          omega
    · rw [Nat.sub_self]
      cases tkRow l ws p with
      | none => rfl
      | some u => show some u = some (0 + u); rw [Nat.zero_add]
theorem ok_take (T : TxtP mg) (Dt : DefAt K mg "_law_take" ["_law_way_here", "_law_text", "_law_place"] s__law_take) (Df : DefAt K mg "_law_take_row" ["_law_ways", "_law_text", "_law_place"] s__law_take_row) (S : Nat) : Fn P w K mg base (2 * S) "_law_take" ["_law_way_here", "_law_text", "_law_place"] (spTake S) := by
  induction S with
  | zero => exact Fn.vac Dt fun ds M Q E ⟨v, l, p, _, h1, _⟩ => absurd v.size_pos (by omega)
  | succ S ih => exact ok_take_step T (k := 2 * S + 1) Dt (ih.mono (by omega)) (ok_take_row T ih Df)


abbrev s__law_texts : Stmt := top 51
abbrev N_s__law_texts : List Str := ["_law_signs_here", "_law_most", "_law_found", "_law_latest", "_law_turn", "_law_longer", "_law_text", "_law_sign"]
theorem sc_s__law_texts : FnScope N_s__law_texts ["_law_signs_here", "_law_most"] (defScope s__law_texts) := ⟨rfl, rfl, rfl, by decide +kernel, rfl, by decide +kernel, by decide +kernel⟩
theorem ok_texts (T : TxtP mg) (Df : DefAt K mg "_law_texts" ["_law_signs_here", "_law_most"] s__law_texts) : Fn P w K mg base 1 "_law_texts" ["_law_signs_here", "_law_most"] spTexts := by
  refine okF Df sc_s__law_texts (fun ds M Q E h => ?_) fun f cdv A outer s H E hr => ⟨_, (ss_cons (s_par (i := 2) (j := 3) (ka := (.v _)) (kb := (.v _)) rfl sc_s__law_texts.nd (d_lst (a_cons d_str a_nil)) (d_lst (a_cons d_str a_nil)))
    (ss_cons (s_for PassesOwn.never rfl (i_rng1 rfl T.z_range (a_cons (d_var 1) a_nil)) (g_name (i := 4) sc_s__law_texts.nd)
    (ss_cons (s_set (i := 5) sc_s__law_texts.nd (d_lst a_nil))
    (ss_cons (s_for PassesOwn.never rfl (i_any (d_var 3)) (g_name (i := 6) sc_s__law_texts.nd)
    (ss_one (s_set (i := 5) sc_s__law_texts.nd (d_op od_add (d_var 5) (d_new (n_lc (own := [("_law_sign", 7)]) rfl sc_s__law_texts.nd (i_any (d_var 0)) (blkOk_by (N := N_s__law_texts) (sc := defScope s__law_texts) (by decide +kernel)) (fun _ _ _ _ _ => (gw_name (i := 7) (by decide) sc_s__law_texts.nd)) (fun _ _ _ _ _ => ts_nil) (fun _ _ _ _ _ => (d_op od_add (d_var 6) (d_var 7)))))))))
    (ss_one (s_par (i := 2) (j := 3) (ka := (.v _)) (kb := (.v _)) rfl sc_s__law_texts.nd (d_op od_add (d_var 2) (d_var 5)) (d_var 5))))))
    (ss_one (s_ret (d_var 2))))), fun ds M Q Ed h => ?_⟩
  · obtain ⟨sg, m, rfl, _⟩ := h
    rfl
  · obtain ⟨sg, m, rfl, h1, h2, k⟩ := h
    have e : startD N_s__law_texts [.str (tx sg), .int (m : Nat)] = [.val (.str (tx sg)), .val (.int (m : Nat)), Sl.no, Sl.no, Sl.no, Sl.no, Sl.no, Sl.no] := rfl
    rw [e]
    walk_at "a"
    rw [tx_empty]
    refine ⟨⟨by omega, by omega⟩, ?_⟩
    refine forW_rng (fun i env M' => M' = M ∧ ∃ (n : Nat) (v4 v5 v6 : Sl), i = (n : Nat) ∧ env = [.val (.str (tx sg)), .val (.int (m : Nat)), .val (.lst ((textsTo sg n).map txD)), .val (.lst ((lvl sg n).map txD)), v4, v5, v6, .no]) _ 0 ?_ ?_ _ M ⟨rfl, 0, .no, .no, .no, rfl, rfl⟩
    · rintro env M' ⟨rfl, n, v4, v5, v6, hn, rfl⟩
      obtain rfl : n = m := by omega
      walk_at "dl"
      exact k
    · rintro i R i1 i2 hR env M' ⟨rfl, n, v4, v5, v6, rfl, rfl⟩
      have hl := lvl_length sg (n + 1)
      have hp := pow_le8 h1 (show n + 1 ≤ 8 by omega)
      walk_at "a"
      refine forW_list (f := txD) (fun xs env M2 => M2 = M' ∧ ∃ (acc : List (List Nat)) (v6 : Sl), env = [.val (.str (tx sg)), .val (.int (m : Nat)), .val (.lst ((textsTo sg n).map txD)), .val (.lst ((lvl sg n).map txD)), .val (.int (n : Nat)), .val (.lst (acc.map txD)), v6, .no] ∧ (∀ t ∈ xs, t ∈ lvl sg n) ∧ lvl sg (n + 1) = acc ++ xs.flatMap (nxt sg)) ?_ ?_ (lvl sg n) _ M' ⟨rfl, [], v6, rfl, fun _ h => h, rfl⟩
      · rintro env M2 ⟨rfl, acc, v6, rfl, _, ha⟩
        rw [List.flatMap_nil, List.append_nil] at ha
        subst ha
        walk_at "dl"
        have hz := textsTo_length h1 (n := n) (by omega)
        refine ⟨by rw [sizeLine_eq, List.length_map, List.length_map]; omega, ?_⟩
        walk_at "dl"
        rw [← List.map_append]
        exact hR _ _ ⟨rfl, n + 1, _, _, _, by omega, rfl⟩
      · rintro a r R2 hR2 env M2 ⟨rfl, acc, v6, rfl, hm, ha⟩
        rw [List.flatMap_cons] at ha
        have hla : acc.length + sg.length ≤ 390625 := by
          have := congrArg List.length ha
          rw [List.length_append, List.length_append, nxt, List.length_map] at this
          omega
        have hal := (lvl_mem (hm a List.mem_cons_self)).1
        walk_at "dl"
        refine ⟨rfl, ?_⟩
        rw [strD_tx]
        have eb : wipeD (put [Sl.val (D.str (tx sg)), Sl.val (D.int (m : Nat)), Sl.val (D.lst ((textsTo sg n).map txD)), Sl.val (D.lst ((lvl sg n).map txD)), Sl.val (D.int (n : Nat)), Sl.val (D.lst (acc.map txD)), v6, Sl.no] 6 (Sl.val (txD a))) (ownIx [(("_law_sign" : Str), 7)]) = [.val (.str (tx sg)), .val (.int (m : Nat)), .val (.lst ((textsTo sg n).map txD)), .val (.lst ((lvl sg n).map txD)), .val (.int (n : Nat)), .val (.lst (acc.map txD)), .val (txD a), .no] := rfl
        rw [eb]
        refine lcW_mapL (f := fun c => D.str (tx [c])) (g := fun c => txD (a ++ [c])) (fun _ => True) (fun c R3 _ hR3 => ?_) sg [] (fun _ _ => trivial) (by rw [sizeLine_eq]; show 0 + _ ≤ _; omega) ?_
        · walk_at "dl"
          refine ⟨by rw [tx_len, tx_len, sizeLine_eq]; show a.length + 1 ≤ _; omega, ?_⟩
          walk_at "dl"
          rw [tx_add]
          exact hR3 _ rfl
        · walk_at "dl"
          refine ⟨by rw [sizeLine_eq, List.length_map, List.nil_append, List.length_map]; omega, ?_⟩
          walk_at "dl"
          have en : acc.map txD ++ ([] ++ sg.map fun c => txD (a ++ [c])) = (acc ++ nxt sg a).map txD := by
            rw [List.map_append, List.nil_append, nxt, List.map_map]
            rfl
          rw [en]
          exact hR2 _ _ ⟨rfl, acc ++ nxt sg a, _, rfl, fun t ht => hm t (List.mem_cons_of_mem _ ht), by rw [ha, List.append_assoc]⟩


abbrev s_nodes_of : Stmt := top 31
abbrev N_s_nodes_of : List Str := ["way", "nodes", "tops", "inner", "more", "shift", "word", "sign", "below", "index"]
theorem sc_s_nodes_of : FnScope N_s_nodes_of ["way"] (defScope s_nodes_of) := ⟨rfl, rfl, rfl, by decide +kernel, rfl, by decide +kernel, by decide +kernel⟩
theorem ok_nodes_of (T : TxtP mg) {W : WA} (hF : WOk K W) (Df : DefAt K mg "nodes_of" ["way"] s_nodes_of) (S : Nat) : Fn P w K mg base (1 + S) "nodes_of" ["way"] (spNodes W S) := by
  induction S with
  | zero => exact Fn.vac Df fun ds M Q E ⟨v, _, h1, _⟩ => absurd v.size_pos (by omega)
  | succ S h_nodes_of =>
  rw [show 1 + (S + 1) = (1 + S) + 1 from rfl]
  refine okF Df sc_s_nodes_of (fun ds M Q E h => ?_) fun f cdv A outer s H E hr => ⟨_, (ss_cons (s_par (i := 1) (j := 2) (ka := (.n _)) (kb := (.n _)) rfl sc_s_nodes_of.nd (n_lst a_nil) (n_lst a_nil))
    (ss_cons (s_for PassesOwn.never rfl (i_any (d_fld (d_var 0))) (g_name (i := 3) sc_s_nodes_of.nd)
    (ss_cons (s_set (i := 4) sc_s_nodes_of.nd (d_callF h_nodes_of (hr.mono (by first | decide | omega)) (a_cons (d_var 3) a_nil)))
    (ss_cons (s_set (i := 5) sc_s_nodes_of.nd (d_lenO 1 rfl T.z_len))
    (ss_cons (s_for PassesOwn.never rfl (i_any (d_var 4)) (g_tup (n := 3) rfl (gs_cons (g_name (i := 6) sc_s_nodes_of.nd) (gs_cons (g_name (i := 7) sc_s_nodes_of.nd) (gs_cons (g_name (i := 8) sc_s_nodes_of.nd) gs_nil))))
    (ss_one (s_append 1 (d_tup (a_cons (d_var 6) (a_cons (d_var 7) (a_cons (d_new (n_lc (own := [("index", 9)]) rfl sc_s_nodes_of.nd (i_any (d_var 8)) (blkOk_by (N := N_s_nodes_of) (sc := defScope s_nodes_of) (by decide +kernel)) (fun _ _ _ _ _ => (gw_name (i := 9) (by decide) sc_s_nodes_of.nd)) (fun _ _ _ _ _ => ts_nil) (fun _ _ _ _ _ => (d_op od_add (d_var 9) (d_var 5))))) a_nil)))))))
    (ss_one (s_append 2 (d_op od_sub (d_lenO 1 rfl T.z_len) d_int)))))))
    (ss_cons (s_append 1 (d_tup (a_cons (d_fld (d_var 0)) (a_cons (d_fld (d_var 0)) (a_cons (d_var 2) a_nil)))))
    (ss_one (s_ret (d_var 1)))))), fun ds M Q Ed h => ?_⟩
  · obtain ⟨v, rfl, _⟩ := h
    rfl
  · obtain ⟨v, rfl, h1, h2, k⟩ := h
    have e : startD N_s_nodes_of [v.o W] = [.val (v.o W), Sl.no, Sl.no, Sl.no, Sl.no, Sl.no, Sl.no, Sl.no, Sl.no, Sl.no] := rfl
    rw [e]
    obtain ⟨C, ns0, ds, ho, hc⟩ := WT.o_obj W v
    have hi : insD (v.o W) M = some (C, wayN ++ ns0, .str v.word :: .str v.sign :: .tup (v.inner.map (WT.o W)) :: ds) := by rw [ho]
    have hz := WT.sizes_inner v
    walk_at "a"
    rw [hi]
    walk_at "dl"
    refine ⟨hF C hc _ (by decide +kernel), ?_⟩
    rw [fget_i]
    walk_at "dl"
    refine forW_list (f := WT.o W) (fun xs env M' => M' = M ∧ ∃ (ns : List Nd) (tops : List Nat) (v3 v4 v5 v6 v7 v8 : Sl), env = [.val (v.o W), .own (ns.map Nd.d), .own (tops.map fun n => .int (n : Nat)), v3, v4, v5, v6, v7, v8, .no] ∧ ns.length + WT.sizes xs = WT.sizes v.inner ∧ tops.length ≤ ns.length ∧ WT.nodesL xs ns tops = WT.nodesL v.inner [] []) ?_ ?_ v.inner _ M ⟨rfl, [], [], .no, .no, .no, .no, .no, .no, rfl, Nat.zero_add _, Nat.le_refl _, rfl⟩
    · rintro env M' ⟨rfl, ns, tops, v3, v4, v5, v6, v7, v8, rfl, g1, g2, g3⟩
      have g3' : (ns, tops) = WT.nodesL v.inner [] [] := by rw [← g3, WT.nodesL]
      have g1' : ns.length + 0 = WT.sizes v.inner := g1
      walk_at "dl"
      rw [hi]
      walk_at "dl"
      refine ⟨hF C hc _ (by decide +kernel), ?_⟩
      rw [fget_w]
      walk_at "dl"
      rw [hi]
      walk_at "dl"
      refine ⟨hF C hc _ (by decide +kernel), ?_⟩
      rw [fget_s]
      walk_at "a"
      refine ⟨by rw [sizeLine_eq, List.length_map]; omega, ?_⟩
      walk_at "dl"
      rw [WT.nodes_eq, ← g3', List.map_append] at k
      exact k
    · rintro a r R hR env M' ⟨rfl, ns, tops, v3, v4, v5, v6, v7, v8, rfl, g1, g2, g3⟩
      have g1' : ns.length + (a.size + WT.sizes r) = WT.sizes v.inner := g1
      walk_at "dl"
      refine ⟨a, rfl, by omega, by omega, ?_⟩
      walk_at "dl"
      rw [List.length_map]
      refine forW_list (f := Nd.d) (fun xs env M2 => M2 = M' ∧ ∃ (ms : List Nd) (v6 v7 v8 : Sl), env = [.val (v.o W), .own (ms.map Nd.d), .own (tops.map fun n => .int (n : Nat)), .val (a.o W), .val (.lst (a.nodes.map Nd.d)), .val (.int (ns.length : Nat)), v6, v7, v8, .no] ∧ (∀ x ∈ xs, x ∈ a.nodes) ∧ ns ++ a.nodes.map (Nd.up ns.length) = ms ++ xs.map (Nd.up ns.length)) ?_ ?_ a.nodes _ M' ⟨rfl, ns, v6, v7, v8, rfl, fun _ h => h, rfl⟩
      · rintro env M2 ⟨rfl, ms, v6, v7, v8, rfl, f0, f1⟩
        rw [List.map_nil, List.append_nil] at f1
        have hlm : ms.length = ns.length + a.size := by rw [← f1, List.length_append, List.length_map, WT.nodes_length]
        have hap := a.size_pos
        walk_at "dl"
        rw [List.length_map, List.length_map]
        refine ⟨by rw [sizeLine_eq]; omega, ?_⟩
        walk_at "dl"
        refine hR _ _ ⟨rfl, ms, tops ++ [ms.length - 1], .val (a.o W), .val (.lst (a.nodes.map Nd.d)), .val (.int (ns.length : Nat)), v6, v7, v8, ?_, by omega, by rw [List.length_append, List.length_singleton]; omega, ?_⟩
        · rw [List.map_append, List.map_singleton, show ((ms.length - 1 : Nat) : Int) = (ms.length : Int) - 1 from by omega]
        · rw [WT.nodesL, f1] at g3
          exact g3
      · rintro b r2 R2 hR2 env M2 ⟨rfl, ms, v6, v7, v8, rfl, f0, f1⟩
        have hlm := congrArg List.length f1
        rw [List.length_append, List.length_append, List.length_map, List.length_map, List.length_cons, WT.nodes_length] at hlm
        have hbl : b.below.length ≤ 100000 := WT.nodes_below 100000 a (by omega) b (f0 b List.mem_cons_self)
        walk_at "dl"
        refine ⟨rfl, ?_⟩
        walk_at "dl"
        refine ⟨rfl, ?_⟩
        have eb : wipeD (put (put (put [Sl.val (v.o W), Sl.own (ms.map Nd.d), Sl.own (tops.map fun n => .int (n : Nat)), Sl.val (a.o W), Sl.val (.lst (a.nodes.map Nd.d)), Sl.val (.int (ns.length : Nat)), v6, v7, v8, Sl.no] 6 (Sl.val (.str b.word))) 7 (Sl.val (.str b.sign))) 8 (Sl.val (natsD b.below))) (ownIx [(("index" : Str), 9)]) = [Sl.val (v.o W), Sl.own (ms.map Nd.d), Sl.own (tops.map fun n => .int (n : Nat)), Sl.val (a.o W), Sl.val (.lst (a.nodes.map Nd.d)), Sl.val (.int (ns.length : Nat)), Sl.val (.str b.word), Sl.val (.str b.sign), Sl.val (natsD b.below), .no] := rfl
        rw [eb]
        refine lcW_mapL (f := fun n : Nat => D.int (n : Nat)) (g := fun n : Nat => D.int ((n + ns.length : Nat) : Int)) (fun _ => True) (fun c R3 _ hR3 => ?_) b.below [] (fun _ _ => trivial) (by rw [sizeLine_eq]; show 0 + _ ≤ _; omega) ?_
        · walk_at "dl"
          rw [show (c : Int) + (ns.length : Int) = ((c + ns.length : Nat) : Int) from by omega]
          exact hR3 _ rfl
        · walk_at "a"
          refine ⟨by rw [sizeLine_eq, List.length_map]; omega, ?_⟩
          walk_at "dl"
          refine hR2 _ _ ⟨rfl, ms ++ [b.up ns.length], .val (.str b.word), .val (.str b.sign), .val (natsD b.below), ?_, fun x hx => f0 x (List.mem_cons_of_mem _ hx), by rw [f1, List.append_assoc]; rfl⟩
          have en : Nd.d (b.up ns.length) = .tup [.str b.word, .str b.sign, .lst ([] ++ b.below.map fun n => .int ((n + ns.length : Nat) : Int))] := by
            show D.tup [_, _, D.lst ((b.below.map (· + ns.length)).map _)] = _
            rw [List.map_map]
            rfl
          rw [List.map_append, List.map_singleton, en]


abbrev s_row_take : Stmt := top 32
abbrev N_s_row_take : List Str := ["table", "below", "place", "end", "index", "take"]
theorem sc_s_row_take : FnScope N_s_row_take ["table", "below", "place"] (defScope s_row_take) := ⟨rfl, rfl, rfl, by decide +kernel, rfl, by decide +kernel, by decide +kernel⟩
theorem ok_row_take (T : TxtP mg) (Df : DefAt K mg "row_take" ["table", "below", "place"] s_row_take) : Fn P w K mg base 1 "row_take" ["table", "below", "place"] spRowTake := by
  refine okF Df sc_s_row_take (fun ds M Q E h => ?_) fun f cdv A outer s H E hr => ⟨_, (ss_cons (s_set (i := 3) sc_s_row_take.nd (d_var 2))
    (ss_cons (s_for PassesOwn.never rfl (i_any (d_var 1)) (g_name (i := 4) sc_s_row_take.nd)
    (ss_cons (s_set (i := 5) sc_s_row_take.nd (d_ixM (d_ixM (d_var 0) (d_var 4)) (d_var 3)))
    (ss_cons (s_if (d_tcmp od_isN (d_var 5) d_non (nomark _))
    (ss_one (s_ret d_non))
    ss_nil)
    (ss_one (s_aug (i := 3) ip_add sc_s_row_take.nd (d_var 5))))))
    (ss_one (s_ret (d_op od_sub (d_var 3) (d_var 2)))))), fun ds M Q Ed h => ?_⟩
  · obtain ⟨l, ps, as, fil, bw, p, rfl, _⟩ := h
    rfl
  · obtain ⟨l, ps, as, fil, bw, p, rfl, t, h1, h2, q⟩ := h
    have e : startD N_s_row_take [tabD as, natsD (bw.map (·.1)), .int (p : Nat)] = [.val (tabD as), .val (natsD (bw.map (·.1))), .val (.int (p : Nat)), Sl.no, Sl.no, Sl.no] := rfl
    rw [e]
    walk_at "dl"
    have em : (bw.map (·.1)).map (fun n : Nat => D.int (n : Nat)) = bw.map fun x => D.int (x.1 : Nat) := by rw [List.map_map]; rfl
    rw [em]
    refine forW_list (f := fun x : Nat × WT => D.int (x.1 : Nat)) (fun xs env M' => M' = M ∧ ∃ (n : Nat) (v1 v2 : Sl), env = [.val (tabD as), .val (natsD (bw.map (·.1))), .val (.int (p : Nat)), .val (.int (n : Nat)), v1, v2] ∧ p ≤ n ∧ n ≤ l.length ∧ (∀ x ∈ xs, x ∈ bw) ∧ tkRow l (bw.map (·.2)) p = (tkRow l (xs.map (·.2)) n).map ((n - p) + ·)) ?_ ?_ bw _ M ⟨rfl, p, .no, .no, rfl, Nat.le_refl _, h1, fun _ h => h, ?_⟩
    · rintro env M' ⟨rfl, n, v1, v2, rfl, g1, g2, g4, g5⟩
      walk_at "dl"
      rw [g5] at q
      have e2 : optD ((tkRow l (([] : List (Nat × WT)).map (·.2)) n).map ((n - p) + ·)) = .int ((n : Int) - (p : Int)) := by
        show D.int (((n - p + 0 : Nat)) : Int) = _
        rw [Nat.add_zero, Int.ofNat_sub g1]
      rw [e2] at q
      exact q
    · rintro ⟨j, u⟩ r R hR env M' ⟨rfl, n, v1, v2, rfl, g1, g2, g4, g5⟩
      obtain ⟨k1, k2⟩ := h2 (j, u) (g4 _ List.mem_cons_self)
      obtain ⟨a, ds, e1, e2, e3⟩ := t.get k1 (k2 n g1) g2
      walk_at "dl"
      rw [e1]
      walk_at "dl"
      rw [e2]
      walk_at "dl"
      rw [e3]
      walk_at "dl"
      have e4 : tkRow l (((j, u) :: r).map (·.2)) n = (match tk l u n with | none => none | some t => (tkRow l (r.map (·.2)) (n + t)).map (t + ·)) := by rw [List.map_cons, tkRow] <;> rfl
      cases ht : tk l u n with
      | none =>
        rw [optD_none]
        walk_at "dl"
        rw [g5, e4, ht] at q
        exact q
      | some t =>
        rw [optD_some]
        walk_at "dl"
        refine hR _ _ ⟨rfl, n + t, .val (.int (j : Nat)), .val (.int (t : Nat)), ?_, by omega, tk_le l u n t g2 ht, fun x hx => g4 x (List.mem_cons_of_mem _ hx), ?_⟩
        · rw [show ((n + t : Nat) : Int) = (n : Int) + (t : Int) from by omega]
        · rw [g5, e4, ht]
          show ((tkRow l (r.map (·.2)) (n + t)).map (t + ·)).map _ = _
          rw [Option.map_map]
          congr 1
          funext u
          show n - p + (t + u) = n + t - p + u
          omega
    · rw [Nat.sub_self]
      cases tkRow l (bw.map (·.2)) p with
      | none => rfl
      | some u => show some u = some (0 + u); rw [Nat.zero_add]


abbrev s_look_take : Stmt := top 33
abbrev N_s_look_take : List Str := ["word", "take"]
theorem sc_s_look_take : FnScope N_s_look_take ["word", "take"] (defScope s_look_take) := ⟨rfl, rfl, rfl, by decide +kernel, rfl, by decide +kernel, by decide +kernel⟩
theorem ok_look_take (T : TxtP mg) (Df : DefAt K mg "look_take" ["word", "take"] s_look_take) : Fn P w K mg base 1 "look_take" ["word", "take"] spLook := by
  refine okF Df sc_s_look_take (fun ds M Q E h => ?_) fun f cdv A outer s H E hr => ⟨_, (ss_cons (s_if (d_tcmp (od_eq hr) (d_var 0) d_str (nomark _))
    (ss_one (s_ret (d_ifExp (d_tcmp od_isN (d_var 1) d_non (nomark _)) d_int (d_var 1))))
    ss_nil)
    (ss_one (s_ret (d_ifExp (d_tcmp (od_eq hr) (d_cmp od_isN (d_var 1) d_non (nomark _)) (d_cmp (od_eq hr) (d_var 0) d_str (nomark _)) (nomark _)) d_int d_non)))), fun ds M Q Ed h => ?_⟩
  · obtain ⟨k, t, rfl, _⟩ := h
    rfl
  · obtain ⟨k, t, rfl, hk, q⟩ := h
    have e : startD N_s_look_take [.str k.s, optD t] = [.val (.str k.s), .val (optD t), ] := rfl
    rw [e]
    cases k
    · exact absurd rfl hk
    · cases t with
      | none => rw [optD_none]; walk_at "a"; exact q
      | some t => rw [optD_some]; walk_at "a"; exact q
    · cases t with
      | none => rw [optD_none]; walk_at "a"; exact q
      | some t => rw [optD_some]; walk_at "a"; exact q
    · cases t with
      | none => rw [optD_none]; walk_at "a"; exact q
      | some t => rw [optD_some]; walk_at "a"; exact q


abbrev s_again_take : Stmt := top 35
abbrev N_s_again_take : List Str := ["table", "index", "inner", "place", "take"]
theorem sc_s_again_take : FnScope N_s_again_take ["table", "index", "inner", "place"] (defScope s_again_take) := ⟨rfl, rfl, rfl, by decide +kernel, rfl, by decide +kernel, by decide +kernel⟩
theorem ok_again_take (T : TxtP mg) (Df : DefAt K mg "again_take" ["table", "index", "inner", "place"] s_again_take) : Fn P w K mg base 1 "again_take" ["table", "index", "inner", "place"] spAgain := by
  refine okF Df sc_s_again_take (fun ds M Q E h => ?_) fun f cdv A outer s H E hr => ⟨_, (ss_cons (s_set (i := 4) sc_s_again_take.nd (d_ixM (d_ixM (d_var 0) (d_var 2)) (d_var 3)))
    (ss_one (s_ret (d_ifExp (d_wt (w_or (d_tcmp od_isN (d_var 4) d_non (nomark _)) (w_or1 (d_tcmp (od_eq hr) (d_var 4) d_int (nomark _))))) d_int (d_op od_add (d_var 4) (d_ixM (d_ixM (d_var 0) (d_var 1)) (d_op od_add (d_var 3) (d_var 4)))))))), fun ds M Q Ed h => ?_⟩
  · obtain ⟨l, ps, as, fil, i, j, v, p, rfl, _⟩ := h
    rfl
  · obtain ⟨l, ps, as, fil, i, j, v, p, rfl, t, h1, h2, h3, h4, h5, q⟩ := h
    have e : startD N_s_again_take [tabD as, .int (i : Nat), .int (j : Nat), .int (p : Nat)] = [.val (tabD as), .val (.int (i : Nat)), .val (.int (j : Nat)), .val (.int (p : Nat)), Sl.no] := rfl
    rw [e]
    obtain ⟨a, ds, e1, e2, e3⟩ := t.get h3 h4 h1
    rw [tk, again_step l v h1] at q
    walk_at "dl"
    rw [e1]
    walk_at "dl"
    rw [e2]
    walk_at "dl"
    rw [e3]
    walk_at "dl"
    cases ht : tk l v p with
    | none =>
      rw [ht] at q
      rw [optD_none]
      walk_at "a"
      exact q
    | some n =>
      rw [ht] at q
      rw [optD_some]
      walk_at "dl"
      walk_at "q"
      cases n with
      | zero =>
        rw [decide_eq_true (by rfl)]
        walk_at "a"
        exact q
      | succ n =>
        rw [decide_eq_false (by omega)]
        have g6 := tk_le l v p (n + 1) h1 ht
        obtain ⟨a2, ds2, f1, f2, f3⟩ := t.get h2 (h5 (p + (n + 1)) (by omega)) g6
        walk_at "dl"
        rw [f1]
        walk_at "dl"
        rw [f2]
        walk_at "dl"
        rw [show (p : Int) + ((n + 1 : Nat) : Int) = ((p + (n + 1) : Nat) : Int) from by omega, f3, tk, optD_some]
        walk_at "dl"
        have q' : Q (.int (((n + 1) + tkAgain (tk l v) (l.length + 1) (p + (n + 1)) : Nat) : Int)) M := q
        rw [Int.natCast_add] at q'
        exact q'


abbrev s_take_of : Stmt := top 34
abbrev N_s_take_of : List Str := ["table", "node", "text", "place", "word", "sign", "below", "here", "takes_here", "index"]
theorem sc_s_take_of : FnScope N_s_take_of ["table", "node", "text", "place"] (defScope s_take_of) := ⟨rfl, rfl, rfl, by decide +kernel, rfl, by decide +kernel, by decide +kernel⟩
theorem ok_take_of (T : TxtP mg) (h_row_take : Fn P w K mg base 1 "row_take" ["table", "below", "place"] spRowTake) (h_look_take : Fn P w K mg base 1 "look_take" ["word", "take"] spLook) (Df : DefAt K mg "take_of" ["table", "node", "text", "place"] s_take_of) : Fn P w K mg base 2 "take_of" ["table", "node", "text", "place"] spTakeOf := by
  refine okF Df sc_s_take_of (fun ds M Q E h => ?_) fun f cdv A outer s H E hr => ⟨_, (ss_cons (s_asg (d_var 1) (g_tup (n := 3) rfl (gs_cons (g_name (i := 4) sc_s_take_of.nd) (gs_cons (g_name (i := 5) sc_s_take_of.nd) (gs_cons (g_name (i := 6) sc_s_take_of.nd) gs_nil)))))
    (ss_cons (s_if (d_tcmp od_in (d_var 4) (d_tup (a_cons d_str (a_cons d_str a_nil))) (by rfl))
    (ss_cons (s_set (i := 7) sc_s_take_of.nd (d_slice (d_var 2) (o_some (d_var 3)) (o_some (d_op od_add (d_var 3) d_int))))
    (ss_one (s_ret (d_ifExp (d_wt (w_and (d_tcmp (od_ne hr) (d_var 7) d_str (nomark _)) (w_and1 (d_wt (w_or (d_tcmp (od_eq hr) (d_var 4) d_str (nomark _)) (w_or1 (d_tcmp (od_eq hr) (d_var 7) (d_var 5) (nomark _)))))))) d_int d_non))))
    ss_nil)
    (ss_cons (s_if (d_tcmp (od_eq hr) (d_var 4) d_str (nomark _))
    (ss_one (s_ret d_int))
    ss_nil)
    (ss_cons (s_if (d_tcmp (od_eq hr) (d_var 4) d_str (nomark _))
    (ss_one (s_ret (d_callF h_row_take (hr.mono (by first | decide | omega)) (a_cons (d_var 0) (a_cons (d_var 6) (a_cons (d_var 3) a_nil))))))
    ss_nil)
    (ss_cons (s_if (d_tcmp (od_eq hr) (d_var 4) d_str (nomark _))
    (ss_cons (s_setLc (i := 8) (own := [("index", 9)]) rfl sc_s_take_of.nd rfl rfl (sw_true rfl rfl rfl (by decide +kernel)) (i_any (d_var 6)) (blkOk_by (N := N_s_take_of) (sc := defScope s_take_of) (by decide +kernel)) (fun _ _ _ _ _ => (gw_name (i := 9) (by decide) sc_s_take_of.nd)) (fun _ _ _ _ _ => (ts_oneK (d_tcmp od_notN (d_ixM (d_ixM (d_var 0) (d_var 9)) (d_var 3)) d_non (nomark _)))) (fun _ _ _ _ _ => (d_ixM (d_ixM (d_var 0) (d_var 9)) (d_var 3))))
    (ss_one (s_ret (d_ifExp (d_tcmp (od_ne hr) (d_var 8) (d_lst a_nil) (nomark _)) (d_ixM (d_var 8) d_int) d_non))))
    ss_nil)
    (ss_one (s_ret (d_callF h_look_take (hr.mono (by first | decide | omega)) (a_cons (d_var 4) (a_cons (d_ixM (d_ixM (d_var 0) (d_ixM (d_var 6) d_int)) (d_var 3)) a_nil)))))))))), fun ds M Q Ed h => ?_⟩
  · obtain ⟨l, ps, as, fil, n, v, bw, p, rfl, _⟩ := h
    rfl
  · obtain ⟨l, ps, as, fil, n, v, bw, p, rfl, t, h1, h2, h3, h4, ⟨w1, w2, w3, w4, w5⟩, h6, h7, h8, q⟩ := h
    have e : startD N_s_take_of [tabD as, n.d, .str (tx l), .int (p : Nat)] = [.val (tabD as), .val n.d, .val (.str (tx l)), .val (.int (p : Nat)), Sl.no, Sl.no, Sl.no, Sl.no, Sl.no, Sl.no] := rfl
    have hz : (tx l).length ≤ sizeLine := by rw [tx_len, sizeLine_eq]; omega
    have here : ∀ c, l[p]? = some c → okEq (.str (tx [c])) := fun c hc => okEq_tx fun x hx => by
      rw [List.mem_singleton.mp hx]
      exact h3 c (List.mem_of_getElem? hc)
    have ok0 : okEq (.str (tx [])) := okEq_tx fun x hx => by cases hx
    have hp1 : ((p : Int) + 1) = ((p + 1 : Nat) : Int) := by omega
    have en : n.d = .tup [.str v.word, .str v.sign, natsD (bw.map (·.1))] := by rw [Nd.d, w1, w2, w3]
    rw [e, en]
    cases v with
    | nothing => walk_at "a"; exact q
    | one =>
      rw [tk] at q
      walk_at "a"
      rw [cut_one]
      cases hc : l[p]? with
      | none =>
        rw [if_neg (by have := List.getElem?_eq_none_iff.mp hc; omega)] at q
        walk_at "dl"
        rw [tx_empty]
        refine ⟨ok0, ok0, ?_⟩
        walk_at "dl"
        rw [deq_str, beq_self_eq_true]
        walk_at "dl"
        exact q
      | some c =>
        have hlt := (List.getElem?_eq_some_iff.mp hc).1
        rw [if_pos hlt] at q
        walk_at "dl"
        rw [tx_empty]
        refine ⟨here c hc, ok0, ?_⟩
        walk_at "dl"
        rw [deq_str, tx_beq, decide_eq_false (by intro z; cases z)]
        walk_at "a"
        exact q
    | letter s =>
      rw [show (WT.letter s).word = ("letter" : Str) from rfl, show (WT.letter s).sign = s from rfl]
      have hs : okEq (.str s) := okEq_flat h4
      rw [tk] at q
      walk_at "a"
      rw [cut_one]
      cases hc : l[p]? with
      | none =>
        rw [hc] at q
        walk_at "dl"
        rw [tx_empty]
        refine ⟨ok0, ok0, ?_⟩
        walk_at "dl"
        rw [deq_str, beq_self_eq_true]
        walk_at "dl"
        exact q
      | some c =>
        rw [hc] at q
        walk_at "dl"
        rw [tx_empty]
        refine ⟨here c hc, ok0, ?_⟩
        walk_at "dl"
        rw [deq_str, tx_beq, decide_eq_false (by intro z; cases z)]
        walk_at "a"
        refine ⟨here c hc, hs, ?_⟩
        walk_at "dl"
        rw [deq_str]
        by_cases hcs : tx [c] = s
        · rw [beq_iff_eq.mpr hcs]
          have q' : Q (optD (if tx [c] = s then some 1 else none)) M := q
          rw [if_pos hcs] at q'
          walk_at "dl"
          exact q'
        · rw [beq_eq_false_iff_ne.mpr hcs]
          have q' : Q (optD (if tx [c] = s then some 1 else none)) M := q
          rw [if_neg hcs] at q'
          walk_at "dl"
          exact q'
    | call s => exact absurd rfl (h7 s)
    | un kk v =>
      obtain ⟨j, rfl⟩ : ∃ j, bw = [(j, v)] := by
        have w4' : [v] = bw.map (·.2) := w4
        match bw, w4' with
        | [(j, u)], w4' => cases w4'; exact ⟨j, rfl⟩
      obtain ⟨k1, k2⟩ := w5 (j, v) List.mem_cons_self
      obtain ⟨a, ds, e1, e2, e3⟩ := t.get k2 (k1 p (Nat.le_refl _)) h1
      have hk : kk ≠ .again := fun z => h8 v (by rw [z])
      rw [tk_look l v p hk] at q
      cases kk
      · exact absurd rfl hk
      · rw [show (WT.un .maybe v).word = ("maybe" : Str) from rfl]
        walk_at "a"
        rw [show (natsD ([(j, v)].map (·.1))) = .lst [.int (j : Nat)] from rfl]
        walk_at "a"
        rw [show atI (List.map (fun n : Nat => D.int (n : Nat)) (List.map (fun x : Nat × WT => x.fst) [(j, v)])) 0 = some (.int (j : Nat)) from rfl]
        walk_at "dl"
        rw [e1]
        walk_at "dl"
        rw [e2]
        walk_at "dl"
        rw [e3]
        walk_at "dl"
        refine ⟨.maybe, tk l v p, rfl, by decide, ?_⟩
        walk_at "dl"
        exact q
      · rw [show (WT.un .ahead v).word = ("ahead" : Str) from rfl]
        walk_at "a"
        rw [show (natsD ([(j, v)].map (·.1))) = .lst [.int (j : Nat)] from rfl]
        walk_at "a"
        rw [show atI (List.map (fun n : Nat => D.int (n : Nat)) (List.map (fun x : Nat × WT => x.fst) [(j, v)])) 0 = some (.int (j : Nat)) from rfl]
        walk_at "dl"
        rw [e1]
        walk_at "dl"
        rw [e2]
        walk_at "dl"
        rw [e3]
        walk_at "dl"
        refine ⟨.ahead, tk l v p, rfl, by decide, ?_⟩
        walk_at "dl"
        exact q
      · rw [show (WT.un .unless v).word = ("unless" : Str) from rfl]
        walk_at "a"
        rw [show (natsD ([(j, v)].map (·.1))) = .lst [.int (j : Nat)] from rfl]
        walk_at "a"
        rw [show atI (List.map (fun n : Nat => D.int (n : Nat)) (List.map (fun x : Nat × WT => x.fst) [(j, v)])) 0 = some (.int (j : Nat)) from rfl]
        walk_at "dl"
        rw [e1]
        walk_at "dl"
        rw [e2]
        walk_at "dl"
        rw [e3]
        walk_at "dl"
        refine ⟨.unless, tk l v p, rfl, by decide, ?_⟩
        walk_at "dl"
        exact q
    | many c ws =>
      have hw : ws = bw.map (·.2) := w4
      cases c
      · rw [show (WT.many false ws).word = ("row" : Str) from rfl]
        rw [tk, hw] at q
        walk_at "a"
        refine ⟨l, ps, as, fil, bw, p, rfl, t, h1, fun x hx => ⟨(w5 x hx).2, (w5 x hx).1⟩, ?_⟩
        walk_at "dl"
        exact q
      · rw [show (WT.many true ws).word = ("choice" : Str) from rfl]
        rw [tk, hw, tkChoice_head] at q
        walk_at "a"
        have eb : wipeD (put (put (put [Sl.val (tabD as), Sl.val (.tup [.str "choice", .str (WT.many true ws).sign, natsD (bw.map (·.1))]), Sl.val (.str (tx l)), Sl.val (.int (p : Nat)), Sl.no, Sl.no, Sl.no, Sl.no, Sl.no, Sl.no] 4 (Sl.val (.str "choice"))) 5 (Sl.val (.str (WT.many true ws).sign))) 6 (Sl.val (natsD (bw.map (·.1))))) (ownIx [(("index" : Str), 9)]) = [Sl.val (tabD as), Sl.val (.tup [.str "choice", .str (WT.many true ws).sign, natsD (bw.map (·.1))]), Sl.val (.str (tx l)), Sl.val (.int (p : Nat)), Sl.val (.str "choice"), Sl.val (.str (WT.many true ws).sign), Sl.val (natsD (bw.map (·.1))), Sl.no, Sl.no, Sl.no] := rfl
        have em : (bw.map (·.1)).map (fun n : Nat => D.int (n : Nat)) = bw.map fun x => D.int (x.1 : Nat) := by rw [List.map_map]; rfl
        rw [eb, em]
        refine lcW_filter (f := fun x : Nat × WT => D.int (x.1 : Nat)) (g := fun x => optD (tk l x.2 p)) (q := fun x => (tk l x.2 p).isSome) (fun x => x ∈ bw) (fun x R1 R0 hx hR1 hR0 => ?_) bw [] (fun x hx => hx) (by rw [sizeLine_eq]; show 0 + _ ≤ _; omega) ?_
        · obtain ⟨j, u⟩ := x
          obtain ⟨k1, k2⟩ := w5 (j, u) hx
          obtain ⟨a, ds, e1, e2, e3⟩ := t.get k2 (k1 p (Nat.le_refl _)) h1
          walk_at "dl"
          rw [e1]
          walk_at "dl"
          rw [e2]
          walk_at "dl"
          rw [e3]
          walk_at "dl"
          cases ht : tk l u p with
          | none =>
            rw [optD_none]
            walk_at "dl"
            exact hR0 (by show (tk l u p).isSome = false; rw [ht]; rfl) _ rfl
          | some n =>
            rw [optD_some]
            walk_at "dl"
            rw [e1]
            walk_at "dl"
            rw [e2]
            walk_at "dl"
            rw [e3]
            walk_at "dl"
            exact hR1 (by show (tk l u p).isSome = true; rw [ht]; rfl) _ rfl
        · rw [List.nil_append, choice_list]
          generalize (List.map (fun x => x.2) bw).filterMap (fun w => tk l w p) = L at q ⊢
          walk_at "a"
          refine ⟨okEq_nats L, okEq_nil, ?_⟩
          walk_at "dl"
          rw [deq_nil]
          cases L with
          | nil =>
            rw [List.map_nil]
            walk_at "a"
            exact q
          | cons n L =>
            rw [List.map_cons, List.isEmpty_cons]
            walk_at "dl"
            rw [atI_zero]
            walk_at "dl"
            exact q


abbrev s_table_of : Stmt := top 36
abbrev N_s_table_of : List Str := ["way", "text", "nodes", "table", "node", "place", "index"]
theorem sc_s_table_of : FnScope N_s_table_of ["way", "text"] (defScope s_table_of) := ⟨rfl, rfl, rfl, by decide +kernel, rfl, by decide +kernel, by decide +kernel⟩
theorem ok_table_of (T : TxtP mg) {W : WA} (S : Nat) (h_nodes_of : Fn P w K mg base (1 + S) "nodes_of" ["way"] (spNodes W S)) (h_again_take : Fn P w K mg base 1 "again_take" ["table", "index", "inner", "place"] spAgain) (h_take_of : Fn P w K mg base 2 "take_of" ["table", "node", "text", "place"] spTakeOf) (Df : DefAt K mg "table_of" ["way", "text"] s_table_of) : Fn P w K mg base (3 + S) "table_of" ["way", "text"] (spTable W S) := by
  rw [show 3 + S = (2 + S) + 1 from by omega]
  refine okF Df sc_s_table_of (fun ds M Q E h => ?_) fun f cdv A outer s H E hr => ⟨_, (ss_cons (s_set (i := 2) sc_s_table_of.nd (d_callF h_nodes_of (hr.mono (by first | decide | omega)) (a_cons (d_var 0) a_nil)))
    (ss_cons (s_setLcV (i := 3) (own := [("node", 4)]) rfl sc_s_table_of.nd rfl rfl (sw_true rfl rfl rfl (by decide +kernel)) (i_any (d_var 2)) (blkOk_by (N := N_s_table_of) (sc := defScope s_table_of) (by decide +kernel)) (fun _ _ _ _ _ => (gw_name (i := 4) (by decide) sc_s_table_of.nd)) (fun _ _ _ _ _ => ts_nil) (fun _ _ _ _ _ => (d_newM (n_lc (own := [("place", 5)]) rfl sc_s_table_of.nd (i_rng1 rfl T.z_range (a_cons (d_op od_add (d_callB cd_len rfl T.z_len PySem.boot_len (a_cons (d_var 1) a_nil)) d_int) a_nil)) (blkOk_in (N := N_s_table_of) (by decide +kernel)) (fun _ _ _ _ _ => (gw_name (i := 5) (by decide) sc_s_table_of.nd)) (fun _ _ _ _ _ => ts_nil) (fun _ _ _ _ _ => d_non)))))
    (ss_cons (s_for PassesOwn.never rfl (i_dn rfl T.z_range (a_cons (d_callB cd_len rfl T.z_len PySem.boot_len (a_cons (d_var 1) a_nil)) (a_cons (d_neg d_int) (a_cons (d_neg d_int) a_nil)))) (g_name (i := 5) sc_s_table_of.nd)
    (ss_one (s_for PassesOwn.never rfl (i_enum rfl T.z_enumerate (a_cons (d_var 2) a_nil)) (g_tup (n := 2) rfl (gs_cons (g_name (i := 6) sc_s_table_of.nd) (gs_cons (g_name (i := 4) sc_s_table_of.nd) gs_nil)))
    (ss_one (s_if (d_tcmp (od_eq hr) (d_ixM (d_var 4) d_int) d_str (nomark _))
    (ss_one (s_asg (d_callF h_again_take (hr.mono (by first | decide | omega)) (a_cons (d_var 3) (a_cons (d_var 6) (a_cons (d_ixM (d_ixM (d_var 4) d_int) d_int) (a_cons (d_var 5) a_nil))))) (g_subM (d_ixM (d_var 3) (d_var 6)) (d_var 5))))
    (ss_one (s_asg (d_callF h_take_of (hr.mono (by first | decide | omega)) (a_cons (d_var 3) (a_cons (d_var 4) (a_cons (d_var 1) (a_cons (d_var 5) a_nil))))) (g_subM (d_ixM (d_var 3) (d_var 6)) (d_var 5)))))))))
    (ss_one (s_ret (d_tup (a_cons (d_var 2) (a_cons (d_var 3) a_nil)))))))), fun ds M Q Ed h => ?_⟩
  · obtain ⟨v, l, rfl, _⟩ := h
    rfl
  · obtain ⟨v, l, rfl, h1, h2, h3, h4, h5, k⟩ := h
    have e : startD N_s_table_of [v.o W, .str (tx l)] = [.val (v.o W), .val (.str (tx l)), Sl.no, Sl.no, Sl.no, Sl.no, Sl.no] := rfl
    rw [e]
    walk_at "dl"
    refine ⟨v, rfl, h1, by omega, ?_⟩
    walk_at "a"
    have eb : wipeD (put [Sl.val (v.o W), Sl.val (.str (tx l)), Sl.no, Sl.no, Sl.no, Sl.no, Sl.no] 2 (Sl.val (.lst (v.nodes.map Nd.d)))) (ownIx [(("node" : Str), 4)]) = [Sl.val (v.o W), Sl.val (.str (tx l)), Sl.val (.lst (v.nodes.map Nd.d)), Sl.no, Sl.no, Sl.no, Sl.no] := rfl
    rw [eb]
    have hz : (tx l).length ≤ sizeLine := by rw [tx_len, sizeLine_eq]; omega
    refine lcW_ind (fun items acc env M' => env = [Sl.val (v.o W), Sl.val (.str (tx l)), Sl.val (.lst (v.nodes.map Nd.d)), Sl.no, Sl.no, Sl.no, Sl.no] ∧ ∃ (as : List Addr), acc = as.map D.ref ∧ as.Nodup ∧ as.length + items.length = v.size ∧ (∀ a ∈ as, M a = none ∧ M' a = some (.lst (List.replicate (l.length + 1) .non))) ∧ (∀ a o, M a = some o → M' a = some o)) ?_ ?_ _ _ _ _ ⟨rfl, [], rfl, List.nodup_nil, by rw [List.length_nil, Nat.zero_add, List.length_map, WT.nodes_length], fun a ha => (List.not_mem_nil ha).elim, fun a o h => h⟩
    · rintro acc env M' ⟨rfl, as, rfl, nd, hl, hr, hx⟩
      have hla : as.length = v.size := hl
      have g := v.nodes_good
      have hlp : as.length = v.post.length := by rw [hla, WT.post_length]
      walk_at "a"
      refine ⟨⟨by rw [tx_len]; omega, by rw [tx_len]; omega⟩, ⟨by decide, by decide⟩, ?_⟩
      refine forW_dnE (n := l.length + 1) (by rw [tx_len]; omega) (by rw [tx_len]; omega) (fun p env M2 => ∃ (v4 v5 v6 : Sl), env = [Sl.val (v.o W), Sl.val (.str (tx l)), Sl.val (.lst (v.nodes.map Nd.d)), Sl.val (tabD as), v4, v5, v6] ∧ (∀ a o, M a = some o → M2 a = some o) ∧ TabAt l v.post as M2 (fun j q => p ≤ q)) ?_ ?_ _ M' ⟨.no, .no, .no, rfl, hx, hlp, fun i a u e1 e2 => ?_⟩
      · rintro env M2 ⟨v4, v5, v6, rfl, hx2, ht⟩
        walk_at "a"
        exact k as M2 hx2 (ht.imp fun i q _ _ _ => Nat.zero_le _)
      · rintro p R hp hR env M2 ⟨v4, v5, v6, rfl, hx2, ht⟩
        walk_at "dl"
        refine forW_enum (f := Nd.d) (fun i xs env M3 => ∃ (v4 v6 : Sl), env = [Sl.val (v.o W), Sl.val (.str (tx l)), Sl.val (.lst (v.nodes.map Nd.d)), Sl.val (tabD as), v4, .val (.int (p : Nat)), v6] ∧ (∀ a o, M a = some o → M3 a = some o) ∧ v.nodes.drop i = xs ∧ TabAt l v.post as M3 (fun j q => p < q ∨ (q = p ∧ j < i))) ?_ ?_ v.nodes 0 _ M2 ⟨v4, v6, rfl, hx2, rfl, ht.imp fun i q _ _ h => ?_⟩
        · rintro i env M3 ⟨v4, v6, rfl, hx3, hd, ht3⟩
          refine hR _ _ ⟨_, _, _, rfl, hx3, ht3.imp fun j q hj _ h => ?_⟩
          have h9 : v.nodes.length ≤ i := List.drop_eq_nil_iff.mp hd
          rw [g.len, ← hlp] at h9
          by_cases hq : p < q
          · exact .inl hq
          · exact .inr ⟨by omega, by omega⟩
        · rintro i n r R2 hR2 env M3 ⟨v4, v6, rfl, hx3, hd, ht3⟩
          have hn : v.nodes[i]? = some n := by
            have := congrArg (fun xs : List Nd => xs[0]?) hd
            simpa using this
          have hd2 : v.nodes.drop (i + 1) = r := by
            have := congrArg List.tail hd
            simpa using this
          have hil : i < v.post.length := by rw [← g.len]; exact (List.getElem?_eq_some_iff.mp hn).1
          obtain ⟨u, hu⟩ : ∃ u, v.post[i]? = some u := ⟨v.post[i], by simp [hil]⟩
          obtain ⟨w1, w2, w3⟩ := g.at_ i n u hn hu
          obtain ⟨bw, b1, b2, b3⟩ := w3.pairs
          have hpl := WT.post_pln v h3 u (List.mem_of_getElem? hu)
          have hp' : p ≤ l.length := by omega
          obtain ⟨a, dr, p1, p2, p3, p4⟩ := ht3.put nd hu hp'
          have ea : atI (as.map D.ref) (i : Int) = some (.ref a) := by rw [atI_k, List.getElem?_map, p1]; rfl
          have hMa := (hr a (List.mem_of_getElem? p1)).1
          have fin : ∀ v4 v6, R2 [Sl.val (v.o W), Sl.val (.str (tx l)), Sl.val (.lst (v.nodes.map Nd.d)), Sl.val (tabD as), v4, .val (.int (p : Nat)), v6] (mset M3 a (.lst (dr.set p (optD (tk l u p))))) := fun v4 v6 => by
            refine hR2 _ _ ⟨v4, v6, rfl, fun a' o h => ?_, hd2, p4.imp fun j q _ _ h => ?_⟩
            · have hne : a' ≠ a := fun z => by rw [z, hMa] at h; cases h
              rw [mset_ne hne]
              exact hx3 a' o h
            · rcases h with h | ⟨h, h'⟩
              · exact .inl (.inl h)
              · by_cases hj : j = i
                · exact .inr ⟨hj, h⟩
                · exact .inl (.inr ⟨h, by omega⟩)
          refine ⟨rfl, ?_⟩
          by_cases ha : ∃ w, u = .un .again w
          · obtain ⟨w, rfl⟩ := ha
            obtain ⟨j, rfl⟩ : ∃ j, bw = [(j, w)] := by
              have b2' : [w] = bw.map (·.2) := b2
              match bw, b2' with
              | [(j, u)], b2' => cases b2'; exact ⟨j, rfl⟩
            obtain ⟨k1, k2⟩ := b3 (j, w) List.mem_cons_self
            have en : n.d = .tup [.str "again", .str n.sign, .lst [.int (j : Nat)]] := by rw [Nd.d, w1, b1]; rfl
            rw [en]
            walk_at "a"
            refine ⟨l, v.post, as, _, i, j, w, p, rfl, ht3, hp', hu, k2, .inr ⟨rfl, k1⟩, fun r h => .inl h, ?_⟩
            walk_at "dl"
            rw [ea]
            walk_at "dl"
            rw [p2]
            walk_at "dl"
            rw [p3]
            walk_at "dl"
            exact fin _ _
          · have hne : (u.word == ("again" : Str)) = false := by
              rw [again_beq]
              cases u with
              | un kk w =>
                cases kk
                · exact absurd ⟨w, rfl⟩ ha
                · rfl
                · rfl
                · rfl
              | _ => rfl
            have hbl := WT.nodes_below 1000 v (by omega) n (List.mem_of_getElem? hn)
            walk_at "dl"
            rw [w1]
            refine ⟨okEq_word u, okEq_flat (by decide +kernel), ?_⟩
            walk_at "dl"
            rw [deq_str, hne]
            walk_at "dl"
            refine ⟨l, v.post, as, _, n, u, bw, p, rfl, ht3, hp', h5, h4, u.pln_sign hpl, ⟨w1, w2, b1, b2, fun x hx => ⟨fun r h => ?_, (b3 x hx).2⟩⟩, by rw [b1, List.length_map] at hbl; omega, fun s z => by rw [z] at hpl; exact hpl, fun w z => ha ⟨w, z⟩, ?_⟩
            · by_cases hq : p < r
              · exact .inl hq
              · exact .inr ⟨by omega, (b3 x hx).1⟩
            walk_at "dl"
            rw [ea]
            walk_at "dl"
            rw [p2]
            walk_at "dl"
            rw [p3]
            walk_at "dl"
            exact fin _ _
        · rcases h with h | ⟨_, h⟩
          · exact h
          · omega
      · obtain ⟨_, h9⟩ := hr a (List.mem_of_getElem? e1)
        exact ⟨_, h9, List.length_replicate, fun q h8 hq => by omega⟩
    · rintro d r R hR acc env M' ⟨rfl, as, rfl, nd, hl, hr, hx⟩
      rw [List.length_cons] at hl
      walk_at "a"
      refine ⟨⟨by rw [tx_len]; omega, by rw [tx_len]; omega⟩, rfl, ?_⟩
      have eb2 : wipeD (put [Sl.val (v.o W), Sl.val (.str (tx l)), Sl.val (.lst (v.nodes.map Nd.d)), Sl.no, Sl.no, Sl.no, Sl.no] 4 (Sl.val d)) (ownIx [(("place" : Str), 5)]) = [Sl.val (v.o W), Sl.val (.str (tx l)), Sl.val (.lst (v.nodes.map Nd.d)), Sl.no, Sl.val d, Sl.no, Sl.no] := rfl
      rw [eb2, show (((tx l).length : Int) + 1).toNat = l.length + 1 from by rw [tx_len]; omega]
      refine lcW_map (f := fun _ => D.non) (fun _ => True) (fun d' R3 _ hR3 => ?_) _ [] (fun _ _ => trivial) (by rw [rngD_length, sizeLine_eq]; show 0 + _ ≤ _; omega) ?_
      · walk_at "dl"
        exact hR3 _ rfl
      · rw [List.nil_append, map_const, rngD_length]
        intro a ha
        have hMa : M a = none := by
          cases z : M a with
          | none => rfl
          | some o => rw [hx a o z] at ha; cases ha
        have hna : a ∉ as := fun z => by rw [(hr a z).2] at ha; cases ha
        refine ⟨by rw [List.length_map, sizeLine_eq]; omega, hR _ _ _ ⟨rfl, as ++ [a], by rw [List.map_append]; rfl, ?_, by rw [List.length_append, List.length_singleton]; omega, fun b hb => ?_, fun b o h => ?_⟩⟩
        · rw [List.nodup_append]
          refine ⟨nd, by simp, fun x hx y hy z => ?_⟩
          rw [List.mem_singleton.mp hy] at z
          exact hna (z ▸ hx)
        · rcases List.mem_append.mp hb with hb | hb
          · have hne : b ≠ a := fun z => hna (z ▸ hb)
            exact ⟨(hr b hb).1, by rw [mset_ne hne]; exact (hr b hb).2⟩
          · rw [List.mem_singleton.mp hb]
            exact ⟨hMa, mset_same⟩
        · have hne : b ≠ a := fun z => by rw [z, hMa] at h; cases h
          rw [mset_ne hne]
          exact hx b o h


abbrev s_takes : Stmt := top 38
abbrev N_s_takes : List Str := ["way", "text", "place"]
theorem sc_s_takes : FnScope N_s_takes ["way", "text", "place"] (defScope s_takes) := ⟨rfl, rfl, rfl, by decide +kernel, rfl, by decide +kernel, by decide +kernel⟩
theorem ok_takes0 (T : TxtP mg) {W : WA} (S : Nat) (h_check_calls : Fn P w K mg base (3 + S) "check_calls" ["ways"] (spCheck W S)) (h_table_of : Fn P w K mg base (3 + S) "table_of" ["way", "text"] (spTable W S)) (Df : DefAt1 K mg "takes" ["way", "text", "place"] [D.int 0] s_takes) : Fn1 P w K mg base (4 + S) "takes" ["way", "text", "place"] [D.int 0] (spTakes0 W S) := by
  rw [show 4 + S = (3 + S) + 1 from by omega]
  refine okF1 Df sc_s_takes (fun ds M Q E h => ?_) fun f cdv A outer s H E hr => ⟨_, (ss_cons (s_expr (d_callF h_check_calls (hr.mono (by first | decide | omega)) (a_cons (d_lst (a_cons (d_var 0) a_nil)) a_nil)))
    (ss_one (s_ret (d_ixM (d_ixM (d_ixM (d_callF h_table_of (hr.mono (by first | decide | omega)) (a_cons (d_var 0) (a_cons (d_var 1) a_nil))) d_int) (d_neg d_int)) (d_var 2))))), fun ds M Q Ed h => ?_⟩
  · obtain ⟨v, l, p, rfl, _⟩ := h
    rfl
  · obtain ⟨v, l, p, rfl, h1, h2, h3, h4, h5, h6, k⟩ := h
    have e : startD N_s_takes [v.o W, .str (tx l), .int (p : Nat)] = [.val (v.o W), .val (.str (tx l)), .val (.int (p : Nat)), ] := rfl
    rw [e]
    walk_at "a"
    refine ⟨[v], rfl, fun u hu => ?_, ?_⟩
    · rw [List.mem_singleton.mp hu]
      exact ⟨h1, by omega, v.pln_calls h3⟩
    walk_at "dl"
    refine ⟨v, l, rfl, h1, h2, h3, h4, h5, fun as M' hx t => ?_⟩
    walk_at "dl"
    have hl : as.length = v.post.length := t.len
    have hv : v.post[as.length - 1]? = some v := by
      rw [hl, WT.post_eq, List.length_append, List.length_singleton, Nat.add_sub_cancel, List.getElem?_append_right (Nat.le_refl _), Nat.sub_self]
      rfl
    obtain ⟨a, dr, e1, e2, e3⟩ := t.get hv trivial h6
    have hpos : 0 < as.length := by
      have := v.size_pos
      rw [hl, WT.post_length]
      exact this
    have e4 : atI (as.map D.ref) (-1) = some (.ref a) := by
      rw [atI_last (fun z => by rw [List.map_eq_nil_iff] at z; rw [z] at hpos; exact absurd hpos (Nat.lt_irrefl _)), List.length_map]
      rw [atI_k] at e1
      exact e1
    rw [atI_one]
    walk_at "dl"
    rw [e4]
    walk_at "dl"
    rw [e2]
    walk_at "dl"
    rw [e3]
    walk_at "dl"
    exact k M' hx
theorem ok_takes (T : TxtP mg) {W : WA} (S : Nat) (h_check_calls : Fn P w K mg base (3 + S) "check_calls" ["ways"] (spCheck W S)) (h_table_of : Fn P w K mg base (3 + S) "table_of" ["way", "text"] (spTable W S)) (Df : DefAt1 K mg "takes" ["way", "text", "place"] [D.int 0] s_takes) : Fn1 P w K mg base (4 + S) "takes" ["way", "text", "place"] [D.int 0] (spTakes W S) :=
  (ok_takes0 T S h_check_calls h_table_of Df).forget.of (Nat.le_refl _) fun ds M Q E ⟨v, l, p, h0, h1, h2, h3, h4, h5, h6, k⟩ => ⟨v, l, p, h0, h1, h2, h3, h4, h5, h6, fun M' hx => ⟨M, hx, k⟩⟩


abbrev s_law : Stmt := top 52
abbrev N_s_law : List Str := ["_law_script", "_law_pen_here", "_law_turn", "_law_many", "_law_signs_here", "_law_way_here", "_law_made_here", "_law_text", "_law_at"]
theorem sc_s_law : FnScope N_s_law ["_law_script"] (defScope s_law) := ⟨rfl, rfl, rfl, by decide +kernel, rfl, by decide +kernel, by decide +kernel⟩
theorem ok_law (T : TxtP mg) {W : WA} (h__law_draw : Fn P w K mg base 1 "_law_draw" ["_law_pen_here", "_law_many"] spDraw) (h__law_pen : Fn P w K mg base 1 "_law_pen" ["_law_script"] spPen) (h__law_signs : Fn P w K mg base 2 "_law_signs" ["_law_pen_here", "_law_many"] spSigns) (h__law_way : Fn P w K mg base 16 "_law_way" ["_law_pen_here", "_law_signs_here", "_law_most"] (spWay 12)) (h__law_made : Fn P w K mg base 15 "_law_made" ["_law_way_here"] (spMade W 12)) (h__law_texts : Fn P w K mg base 1 "_law_texts" ["_law_signs_here", "_law_most"] spTexts) (h_takes : Fn1 P w K mg base 16 "takes" ["way", "text", "place"] [D.int 0] (spTakes W 12)) (h__law_take : Fn P w K mg base 24 "_law_take" ["_law_way_here", "_law_text", "_law_place"] (spTake 12)) {f0 : Addr} {fd : FuncData} (Df : FunD K "law" "law" (defArgs s_law) (defBody s_law) (defScope s_law) [] [] f0 fd) : FnOk P w K mg base CX0 25 f0 fd ["_law_script"] (LSp K spTrue) := by
  refine okD Df sc_s_law (fun ds M Q E h => ?_) fun cdv A outer s H E hr => ⟨_, (ss_cons (s_set (i := 1) sc_s_law.nd (d_callF h__law_pen (hr.mono (by first | decide | omega)) (a_cons (d_var 0) a_nil)))
    (ss_cons (s_for PassesOwn.never rfl (i_rng1 rfl T.z_range (a_cons (d_op od_add d_int (d_callB (cd_min rfl) rfl T.z_min (by decide +kernel) (a_cons d_int (a_cons (d_callB cd_len rfl T.z_len PySem.boot_len (a_cons (d_var 0) a_nil)) a_nil)))) a_nil)) (g_name (i := 2) sc_s_law.nd)
    (ss_cons (s_set (i := 3) sc_s_law.nd (d_op od_add d_int (d_callF h__law_draw (hr.mono (by first | decide | omega)) (a_cons (d_var 1) (a_cons d_int a_nil)))))
    (ss_cons (s_set (i := 4) sc_s_law.nd (d_callF h__law_signs (hr.mono (by first | decide | omega)) (a_cons (d_var 1) (a_cons (d_var 3) a_nil))))
    (ss_cons (s_set (i := 5) sc_s_law.nd (d_callF h__law_way (hr.mono (by first | decide | omega)) (a_cons (d_var 1) (a_cons (d_ifExp (d_tcmp od_gt (d_callF h__law_draw (hr.mono (by first | decide | omega)) (a_cons (d_var 1) (a_cons d_int a_nil))) d_int (nomark _)) (d_var 4) (d_op od_add (d_var 4) d_str)) (a_cons d_int a_nil)))))
    (ss_cons (s_set (i := 6) sc_s_law.nd (d_callF h__law_made (hr.mono (by first | decide | omega)) (a_cons (d_var 5) a_nil)))
    (ss_one (s_for PassesOwn.never rfl (i_any (d_callF h__law_texts (hr.mono (by first | decide | omega)) (a_cons (d_var 4) (a_cons (d_ix (d_lst (a_cons d_int (a_cons d_int (a_cons d_int a_nil)))) (d_op od_sub (d_var 3) d_int)) a_nil)))) (g_name (i := 7) sc_s_law.nd)
    (ss_cons (s_set (i := 8) sc_s_law.nd (d_callF h__law_draw (hr.mono (by first | decide | omega)) (a_cons (d_var 1) (a_cons (d_op od_add (d_callB cd_len rfl T.z_len PySem.boot_len (a_cons (d_var 7) a_nil)) d_int) a_nil))))
    (ss_cons (s_if (d_wt (w_or (d_tcmp (od_ne hr) (d_callF1 h_takes (hr.mono (by first | decide | omega)) (a_cons (d_var 6) (a_cons (d_var 7) a_nil))) (d_callF h__law_take (hr.mono (by first | decide | omega)) (a_cons (d_var 5) (a_cons (d_var 7) (a_cons d_int a_nil)))) (nomark _)) (w_or1 (d_tcmp (od_ne hr) (d_callF h_takes.fn (hr.mono (by first | decide | omega)) (a_cons (d_var 6) (a_cons (d_var 7) (a_cons (d_var 8) a_nil)))) (d_callF h__law_take (hr.mono (by first | decide | omega)) (a_cons (d_var 5) (a_cons (d_var 7) (a_cons (d_var 8) a_nil)))) (nomark _)))))
    (ss_one (s_ret d_bl))
    ss_nil)
    (ss_one (s_if (d_tcmp (od_ne hr) (d_callF h_takes.fn (hr.mono (by first | decide | omega)) (a_cons (d_var 6) (a_cons (d_var 7) (a_cons (d_callB cd_len rfl T.z_len PySem.boot_len (a_cons (d_var 7) a_nil)) a_nil)))) (d_callF h__law_take (hr.mono (by first | decide | omega)) (a_cons (d_var 5) (a_cons (d_var 7) (a_cons (d_callB cd_len rfl T.z_len PySem.boot_len (a_cons (d_var 7) a_nil)) a_nil)))) (nomark _))
    (ss_one (s_ret d_bl))
    ss_nil)))))))))))
    (ss_one (s_ret d_bl)))), fun ds M Q Ed h => ?_⟩
  · obtain ⟨ns, rfl, _⟩ := h
    rfl
  · obtain ⟨ns, rfl, h1, k⟩ := h
    have e : startD N_s_law [.lstK (ns.map D.int)] = [.val (.lstK (ns.map D.int)), Sl.no, Sl.no, Sl.no, Sl.no, Sl.no, Sl.no, Sl.no, Sl.no] := rfl
    rw [e]
    walk_at "dl"
    refine ⟨ns, rfl, h1, fun p o hMp hpo => ?_⟩
    walk_at "a"
    obtain ⟨G, hG, hG0, hG6⟩ : ∃ G : Int, (2 + if ((ns.map D.int).length : Int) < 4 then ((ns.map D.int).length : Int) else 4) = G ∧ 0 ≤ G ∧ G ≤ 6 := ⟨_, rfl, by split <;> omega, by split <;> omega⟩
    rw [hG]
    refine ⟨⟨by omega, by omega⟩, ?_⟩
    refine forW_rng (fun i env M' => ∃ (o' : MO) (v2 v3 v4 v5 v6 v7 v8 : Sl), env = [.val (.lstK (ns.map D.int)), .val (.ref p), v2, v3, v4, v5, v6, v7, v8] ∧ M' = mset M p o' ∧ PenO o' (i * 10000000)) _ 0 ?_ ?_ _ _ ⟨o, .no, .no, .no, .no, .no, .no, .no, rfl, rfl, by rw [Int.zero_mul]; exact hpo⟩
    · rintro env M' ⟨o', v2, v3, v4, v5, v6, v7, v8, rfl, rfl, g⟩
      walk_at "dl"
      exact k _
    · rintro i R i1 i2 hR env M' ⟨o1, v2, v3, v4, v5, v6, v7, v8, rfl, rfl, g⟩
      walk_at "dl"
      refine ⟨p, 3, i * 10000000, o1, rfl, by omega, by omega, by omega, mset_same, g, fun x o2 c1 c2 c3 => ?_⟩
      obtain ⟨x, rfl⟩ := Int.eq_ofNat_of_zero_le c1
      walk_at "dl"
      rw [mset_mset]
      refine ⟨p, 1 + x, i * 10000000 + 1, o2, (show [D.ref p, D.int (1 + (x : Int))] = _ from by rw [show 1 + (x : Int) = ((1 + x : Nat) : Int) from by omega]), by omega, by omega, mset_same, c3, fun l o3 d1 d2 d3 => ?_⟩
      walk_at "dl"
      rw [mset_mset]
      refine ⟨p, 4, _, o3, rfl, by omega, by omega, ?_, mset_same, d3, fun y o4 e1 e2 e3 => ?_⟩
      · omega
      walk_at "dl"
      rw [mset_mset]
      have hll : ∀ c ∈ l, c ∈ lettersN := d2.2
      have hlq : ∀ c ∈ l ++ [113], c ∈ lettersN := fun c hc => by
        rcases List.mem_append.mp hc with hc | hc
        · exact hll c hc
        · rw [List.mem_singleton.mp hc]; decide
      obtain ⟨mm, hmm, hat⟩ : ∃ mm : Nat, mm ≤ 6 ∧ atI [D.int 6, D.int 6, D.int 4] (1 + (x : Int) - 1) = some (.int (mm : Nat)) := by
        have hx3 : x < 3 := by omega
        match x, hx3 with
        | 0, _ => exact ⟨6, by decide, rfl⟩
        | 1, _ => exact ⟨6, by decide, rfl⟩
        | 2, _ => exact ⟨4, by decide, rfl⟩
      by_cases c4 : 0 < y
      · rw [decide_eq_true c4]
        walk_at "dl"
        refine ⟨p, l, 12, _, o4, rfl, by decide, by decide, by decide, hll, by omega, by omega, ?_, mset_same, e3, fun w0 o5 f1 f2 f3 => ?_⟩
        · omega
        have hpl : w0.pln := WT.ok_pln (fun s hs => isData_of hll hs) w0 f2
        rw [mset_mset]
        refine ⟨w0, rfl, by omega, by omega, ?_⟩
        walk_at "a"
        rw [hat]
        walk_at "dl"
        refine ⟨l, mm, rfl, by omega, by omega, ?_⟩
        walk_at "dl"
        have htl := textsTo_length (sg := l) (by omega) (n := mm) (by omega)
        refine forW_list (f := txD) (fun xs env M' => ∃ (o' : MO) (v7 v8 : Sl), env = [.val (.lstK (ns.map D.int)), .val (.ref p), .val (.int i), .val (.int (1 + (x : Int))), .val (.str (tx l)), .val w0.d, .val (w0.o W), v7, v8] ∧ M' = mset M p o' ∧ PenO o' (i * 10000000 + 100 + ((textsTo l mm).length - xs.length : Nat)) ∧ xs.length ≤ (textsTo l mm).length ∧ ∀ t ∈ xs, t ∈ textsTo l mm) ?_ ?_ (textsTo l mm) _ _ ⟨o5, v7, v8, rfl, rfl, f3.mono (by omega), Nat.le_refl _, fun _ h => h⟩
        · rintro env M' ⟨o', v7, v8, rfl, rfl, g1, g2, g3⟩
          exact hR _ _ ⟨o', _, _, _, _, _, _, _, rfl, rfl, g1.mono (by rw [List.length_nil]; omega)⟩
        · rintro a r R2 hR2 env M' ⟨o', v7, v8, rfl, rfl, g1, g2, g3⟩
          rw [List.length_cons] at g1 g2
          obtain ⟨ha1, ha2⟩ := textsTo_mem (g3 a List.mem_cons_self)
          have hcp : CpOk a := fun c hc => cp_letters hll c (ha2 c hc)
          walk_at "dl"
          refine ⟨by rw [tx_len, sizeLine_eq]; omega, ?_⟩
          walk_at "dl"
          refine ⟨p, ((tx a).length : Int) + 1, _, o', rfl, by rw [tx_len]; omega, by rw [tx_len]; omega, ?_, mset_same, g1, fun z o6 z1 z2 z3 => ?_⟩
          · omega
          rw [tx_len] at z2
          obtain ⟨z, rfl⟩ := Int.eq_ofNat_of_zero_le z1
          rw [mset_mset]
          walk_at "dl"
          refine ⟨w0, a, 0, rfl, f1, by omega, hpl, hcp, by omega, Nat.zero_le _, ?_⟩
          walk_at "dl"
          refine ⟨w0, a, 0, rfl, f1, by omega, hpl, hcp, by omega, Nat.zero_le _, ?_⟩
          walk_at "dl"
          refine ⟨okEq_optD _, okEq_optD _, ?_⟩
          walk_at "dl"
          rw [deq_optD]
          walk_at "dl"
          refine ⟨w0, a, z, rfl, f1, by omega, hpl, hcp, by omega, by omega, ?_⟩
          walk_at "dl"
          refine ⟨w0, a, z, rfl, f1, by omega, hpl, hcp, by omega, by omega, ?_⟩
          walk_at "dl"
          refine ⟨okEq_optD _, okEq_optD _, ?_⟩
          walk_at "dl"
          rw [deq_optD]
          walk_at "dl"
          refine ⟨by rw [tx_len, sizeLine_eq]; omega, ?_⟩
          walk_at "dl"
          refine ⟨w0, a, a.length, rfl, f1, by omega, hpl, hcp, by omega, Nat.le_refl _, ?_⟩
          walk_at "dl"
          refine ⟨by rw [tx_len, sizeLine_eq]; omega, ?_⟩
          walk_at "dl"
          refine ⟨w0, a, a.length, rfl, f1, by omega, hpl, hcp, by omega, Nat.le_refl _, ?_⟩
          walk_at "dl"
          refine ⟨okEq_optD _, okEq_optD _, ?_⟩
          walk_at "dl"
          rw [deq_optD]
          walk_at "dl"
          exact hR2 _ _ ⟨o6, _, _, rfl, rfl, z3.mono (by omega), by omega, fun t ht => g3 t (List.mem_cons_of_mem _ ht)⟩
      · rw [decide_eq_false c4]
        walk_at "dl"
        rw [tx_q, tx_add]
        refine ⟨by rw [tx_len, sizeLine_eq]; show l.length + 1 ≤ _; omega, ?_⟩
        walk_at "dl"
        refine ⟨p, l ++ [113], 12, _, o4, rfl, by decide, by decide, by decide, hlq, by rw [List.length_append]; omega, by rw [List.length_append, List.length_singleton]; omega, ?_, mset_same, e3, fun w0 o5 f1 f2 f3 => ?_⟩
        · omega
        have hpl : w0.pln := WT.ok_pln (fun s hs => isData_of hlq hs) w0 f2
        rw [mset_mset]
        refine ⟨w0, rfl, by omega, by omega, ?_⟩
        walk_at "a"
        rw [hat]
        walk_at "dl"
        refine ⟨l, mm, rfl, by omega, by omega, ?_⟩
        walk_at "dl"
        have htl := textsTo_length (sg := l) (by omega) (n := mm) (by omega)
        refine forW_list (f := txD) (fun xs env M' => ∃ (o' : MO) (v7 v8 : Sl), env = [.val (.lstK (ns.map D.int)), .val (.ref p), .val (.int i), .val (.int (1 + (x : Int))), .val (.str (tx l)), .val w0.d, .val (w0.o W), v7, v8] ∧ M' = mset M p o' ∧ PenO o' (i * 10000000 + 100 + ((textsTo l mm).length - xs.length : Nat)) ∧ xs.length ≤ (textsTo l mm).length ∧ ∀ t ∈ xs, t ∈ textsTo l mm) ?_ ?_ (textsTo l mm) _ _ ⟨o5, v7, v8, rfl, rfl, f3.mono (by omega), Nat.le_refl _, fun _ h => h⟩
        · rintro env M' ⟨o', v7, v8, rfl, rfl, g1, g2, g3⟩
          exact hR _ _ ⟨o', _, _, _, _, _, _, _, rfl, rfl, g1.mono (by rw [List.length_nil]; omega)⟩
        · rintro a r R2 hR2 env M' ⟨o', v7, v8, rfl, rfl, g1, g2, g3⟩
          rw [List.length_cons] at g1 g2
          obtain ⟨ha1, ha2⟩ := textsTo_mem (g3 a List.mem_cons_self)
          have hcp : CpOk a := fun c hc => cp_letters hll c (ha2 c hc)
          walk_at "dl"
          refine ⟨by rw [tx_len, sizeLine_eq]; omega, ?_⟩
          walk_at "dl"
          refine ⟨p, ((tx a).length : Int) + 1, _, o', rfl, by rw [tx_len]; omega, by rw [tx_len]; omega, ?_, mset_same, g1, fun z o6 z1 z2 z3 => ?_⟩
          · omega
          rw [tx_len] at z2
          obtain ⟨z, rfl⟩ := Int.eq_ofNat_of_zero_le z1
          rw [mset_mset]
          walk_at "dl"
          refine ⟨w0, a, 0, rfl, f1, by omega, hpl, hcp, by omega, Nat.zero_le _, ?_⟩
          walk_at "dl"
          refine ⟨w0, a, 0, rfl, f1, by omega, hpl, hcp, by omega, Nat.zero_le _, ?_⟩
          walk_at "dl"
          refine ⟨okEq_optD _, okEq_optD _, ?_⟩
          walk_at "dl"
          rw [deq_optD]
          walk_at "dl"
          refine ⟨w0, a, z, rfl, f1, by omega, hpl, hcp, by omega, by omega, ?_⟩
          walk_at "dl"
          refine ⟨w0, a, z, rfl, f1, by omega, hpl, hcp, by omega, by omega, ?_⟩
          walk_at "dl"
          refine ⟨okEq_optD _, okEq_optD _, ?_⟩
          walk_at "dl"
          rw [deq_optD]
          walk_at "dl"
          refine ⟨by rw [tx_len, sizeLine_eq]; omega, ?_⟩
          walk_at "dl"
          refine ⟨w0, a, a.length, rfl, f1, by omega, hpl, hcp, by omega, Nat.le_refl _, ?_⟩
          walk_at "dl"
          refine ⟨by rw [tx_len, sizeLine_eq]; omega, ?_⟩
          walk_at "dl"
          refine ⟨w0, a, a.length, rfl, f1, by omega, hpl, hcp, by omega, Nat.le_refl _, ?_⟩
          walk_at "dl"
          refine ⟨okEq_optD _, okEq_optD _, ?_⟩
          walk_at "dl"
          rw [deq_optD]
          walk_at "dl"
          exact hR2 _ _ ⟨o6, _, _, rfl, rfl, z3.mono (by omega), by omega, fun t ht => g3 t (List.mem_cons_of_mem _ ht)⟩


end
set_option maxHeartbeats 0
def d__law_draw : He.DefD := ⟨("_law_draw", none), "_law_draw", "_law_draw", defArgs s__law_draw, defBody s__law_draw, defScope s__law_draw, [], []⟩
def d__law_pen : He.DefD := ⟨("_law_pen", none), "_law_pen", "_law_pen", defArgs s__law_pen, defBody s__law_pen, defScope s__law_pen, [], []⟩
def d__law_pick : He.DefD := ⟨("_law_pick", none), "_law_pick", "_law_pick", defArgs s__law_pick, defBody s__law_pick, defScope s__law_pick, [], []⟩
def d__law_signs : He.DefD := ⟨("_law_signs", none), "_law_signs", "_law_signs", defArgs s__law_signs, defBody s__law_signs, defScope s__law_signs, [], []⟩
def d__law_leaf : He.DefD := ⟨("_law_leaf", none), "_law_leaf", "_law_leaf", defArgs s__law_leaf, defBody s__law_leaf, defScope s__law_leaf, [], []⟩
def d__law_way_of : He.DefD := ⟨("_law_way_of", none), "_law_way_of", "_law_way_of", defArgs s__law_way_of, defBody s__law_way_of, defScope s__law_way_of, [], []⟩
def d__law_way : He.DefD := ⟨("_law_way", none), "_law_way", "_law_way", defArgs s__law_way, defBody s__law_way, defScope s__law_way, [], []⟩
def d__law_inner : He.DefD := ⟨("_law_inner", none), "_law_inner", "_law_inner", defArgs s__law_inner, defBody s__law_inner, defScope s__law_inner, [], []⟩
def d_Way___init__ : He.DefD := ⟨("Way", some "__init__"), "__init__", "Way.__init__", defArgs s_Way___init__, defBody s_Way___init__, defScope s_Way___init__, [], []⟩
def d__law_made : He.DefD := ⟨("_law_made", none), "_law_made", "_law_made", defArgs s__law_made, defBody s__law_made, defScope s__law_made, [], []⟩
def d_parts_of : He.DefD := ⟨("parts_of", none), "parts_of", "parts_of", defArgs s_parts_of, defBody s_parts_of, defScope s_parts_of, [.adr (He.dflAt ("parts_of", none) 0)], []⟩
def d_calls_of : He.DefD := ⟨("calls_of", none), "calls_of", "calls_of", defArgs s_calls_of, defBody s_calls_of, defScope s_calls_of, [], []⟩
def d_check_calls : He.DefD := ⟨("check_calls", none), "check_calls", "check_calls", defArgs s_check_calls, defBody s_check_calls, defScope s_check_calls, [], []⟩
def d__law_take : He.DefD := ⟨("_law_take", none), "_law_take", "_law_take", defArgs s__law_take, defBody s__law_take, defScope s__law_take, [], []⟩
def d__law_take_row : He.DefD := ⟨("_law_take_row", none), "_law_take_row", "_law_take_row", defArgs s__law_take_row, defBody s__law_take_row, defScope s__law_take_row, [], []⟩
def d__law_texts : He.DefD := ⟨("_law_texts", none), "_law_texts", "_law_texts", defArgs s__law_texts, defBody s__law_texts, defScope s__law_texts, [], []⟩
def d_nodes_of : He.DefD := ⟨("nodes_of", none), "nodes_of", "nodes_of", defArgs s_nodes_of, defBody s_nodes_of, defScope s_nodes_of, [], []⟩
def d_row_take : He.DefD := ⟨("row_take", none), "row_take", "row_take", defArgs s_row_take, defBody s_row_take, defScope s_row_take, [], []⟩
def d_look_take : He.DefD := ⟨("look_take", none), "look_take", "look_take", defArgs s_look_take, defBody s_look_take, defScope s_look_take, [], []⟩
def d_again_take : He.DefD := ⟨("again_take", none), "again_take", "again_take", defArgs s_again_take, defBody s_again_take, defScope s_again_take, [], []⟩
def d_take_of : He.DefD := ⟨("take_of", none), "take_of", "take_of", defArgs s_take_of, defBody s_take_of, defScope s_take_of, [], []⟩
def d_table_of : He.DefD := ⟨("table_of", none), "table_of", "table_of", defArgs s_table_of, defBody s_table_of, defScope s_table_of, [], []⟩
def d_takes : He.DefD := ⟨("takes", none), "takes", "takes", defArgs s_takes, defBody s_takes, defScope s_takes, [.int 0], []⟩
def d_law : He.DefD := ⟨("law", none), "law", "law", defArgs s_law, defBody s_law, defScope s_law, [], []⟩
def d_Letter___init__ : He.DefD := ⟨("Letter", some "__init__"), "__init__", "Letter.__init__", defArgs s_Letter___init__, defBody s_Letter___init__, defScope s_Letter___init__, [], []⟩
def d_One___init__ : He.DefD := ⟨("One", some "__init__"), "__init__", "One.__init__", defArgs s_One___init__, defBody s_One___init__, defScope s_One___init__, [], []⟩
def d_Nothing___init__ : He.DefD := ⟨("Nothing", some "__init__"), "__init__", "Nothing.__init__", defArgs s_Nothing___init__, defBody s_Nothing___init__, defScope s_Nothing___init__, [], []⟩
def d_Row___init__ : He.DefD := ⟨("Row", some "__init__"), "__init__", "Row.__init__", defArgs s_Row___init__, defBody s_Row___init__, defScope s_Row___init__, [], []⟩
def d_Choice___init__ : He.DefD := ⟨("Choice", some "__init__"), "__init__", "Choice.__init__", defArgs s_Choice___init__, defBody s_Choice___init__, defScope s_Choice___init__, [], []⟩
def d_Again___init__ : He.DefD := ⟨("Again", some "__init__"), "__init__", "Again.__init__", defArgs s_Again___init__, defBody s_Again___init__, defScope s_Again___init__, [], []⟩
def d_Maybe___init__ : He.DefD := ⟨("Maybe", some "__init__"), "__init__", "Maybe.__init__", defArgs s_Maybe___init__, defBody s_Maybe___init__, defScope s_Maybe___init__, [], []⟩
def d_Ahead___init__ : He.DefD := ⟨("Ahead", some "__init__"), "__init__", "Ahead.__init__", defArgs s_Ahead___init__, defBody s_Ahead___init__, defScope s_Ahead___init__, [], []⟩
def d_Unless___init__ : He.DefD := ⟨("Unless", some "__init__"), "__init__", "Unless.__init__", defArgs s_Unless___init__, defBody s_Unless___init__, defScope s_Unless___init__, [], []⟩
def d_Call___init__ : He.DefD := ⟨("Call", some "__init__"), "__init__", "Call.__init__", defArgs s_Call___init__, defBody s_Call___init__, defScope s_Call___init__, [], []⟩
def fn : List He.DefD := [d__law_draw, d__law_pen, d__law_pick, d__law_signs, d__law_leaf, d__law_way_of, d__law_way, d__law_inner, d_Way___init__, d__law_made, d_parts_of, d_calls_of, d_check_calls, d__law_take, d__law_take_row, d__law_texts, d_nodes_of, d_row_take, d_look_take, d_again_take, d_take_of, d_table_of, d_takes, d_law]
def sn : List He.DefD := [d_Letter___init__, d_One___init__, d_Nothing___init__, d_Row___init__, d_Choice___init__, d_Again___init__, d_Maybe___init__, d_Ahead___init__, d_Unless___init__, d_Call___init__]
def fa : List He.Fa := [.glo "_law_draw", .glo "_law_pen", .glo "_law_pick", .glo "_law_signs", .glo "_law_leaf", .glo "_law_way_of", .glo "_law_way", .glo "_law_inner", .glo "_law_made", .glo "parts_of", .glo "calls_of", .glo "check_calls", .glo "_law_take", .glo "_law_take_row", .glo "_law_texts", .glo "nodes_of", .glo "row_take", .glo "look_take", .glo "again_take", .glo "take_of", .glo "table_of", .glo "takes", .glo "law", .glo "Letter", .glo "One", .glo "Nothing", .glo "Row", .glo "Choice", .glo "Again", .glo "Maybe", .glo "Ahead", .glo "Unless", .glo "Call", .free "len", .free "int", .free "list", .free "range", .free "min", .free "max", .free "sum", .free "isinstance", .free "tuple", .free "set", .free "sorted", .free "str", .free "enumerate", .free "reversed", .free "all", .free "any", .free "divmod", .free "dict", .free "super", .free "iter", .free "zip", .free "bool", .free "abs", .free "type", .cls "Letter", .cls "One", .cls "Nothing", .cls "Row", .cls "Choice", .cls "Again", .cls "Maybe", .cls "Ahead", .cls "Unless", .cls "Call", .mkr "Letter", .mkr "One", .mkr "Nothing", .mkr "Row", .mkr "Choice", .mkr "Again", .mkr "Maybe", .mkr "Ahead", .mkr "Unless", .mkr "Call", .noat "Letter" "word", .noat "Letter" "sign", .noat "Letter" "inner", .noat "Letter" "letter", .noat "Letter" "name", .noat "Letter" "part", .noat "Letter" "ways", .noat "One" "word", .noat "One" "sign", .noat "One" "inner", .noat "One" "letter", .noat "One" "name", .noat "One" "part", .noat "One" "ways", .noat "Nothing" "word", .noat "Nothing" "sign", .noat "Nothing" "inner", .noat "Nothing" "letter", .noat "Nothing" "name", .noat "Nothing" "part", .noat "Nothing" "ways", .noat "Row" "word", .noat "Row" "sign", .noat "Row" "inner", .noat "Row" "letter", .noat "Row" "name", .noat "Row" "part", .noat "Row" "ways", .noat "Choice" "word", .noat "Choice" "sign", .noat "Choice" "inner", .noat "Choice" "letter", .noat "Choice" "name", .noat "Choice" "part", .noat "Choice" "ways", .noat "Again" "word", .noat "Again" "sign", .noat "Again" "inner", .noat "Again" "letter", .noat "Again" "name", .noat "Again" "part", .noat "Again" "ways", .noat "Maybe" "word", .noat "Maybe" "sign", .noat "Maybe" "inner", .noat "Maybe" "letter", .noat "Maybe" "name", .noat "Maybe" "part", .noat "Maybe" "ways", .noat "Ahead" "word", .noat "Ahead" "sign", .noat "Ahead" "inner", .noat "Ahead" "letter", .noat "Ahead" "name", .noat "Ahead" "part", .noat "Ahead" "ways", .noat "Unless" "word", .noat "Unless" "sign", .noat "Unless" "inner", .noat "Unless" "letter", .noat "Unless" "name", .noat "Unless" "part", .noat "Unless" "ways", .noat "Call" "word", .noat "Call" "sign", .noat "Call" "inner", .noat "Call" "letter", .noat "Call" "name", .noat "Call" "part", .noat "Call" "ways"]
def way0 (K : PySem.W.Frag) : Addr := He.fAd K ("Way", some "__init__")
def emptyT (K : PySem.W.Frag) : Bool := match K.lookup (He.dflAt ("parts_of", none) 0 K) with
  | some ⟨.type c, _, .seq its _, _⟩ => decide (c = "tuple") && decide (its = #[])
  | _ => false
theorem emptyT_ok {K : PySem.W.Frag} (h : emptyT K = true) (S : Hp) : Rep K S (D.tup []) (.ref (He.dflAt ("parts_of", none) 0 K)) := by
  unfold emptyT at h
  cases q : K.lookup (He.dflAt ("parts_of", none) 0 K) with
  | none => rw [q] at h; cases h
  | some o =>
    obtain ⟨oc, od, dt, osl⟩ := o
    rw [q] at h
    cases oc with
    | type c =>
      cases dt with
      | seq its n =>
        obtain ⟨h1, h2⟩ := He.ba (show (decide (c = "tuple") && decide (its = #[])) = true from h)
        have h1 := of_decide_eq_true h1
        have h2 := of_decide_eq_true h2
        subst h1 h2
        exact ⟨_, [], rfl, .inr ⟨_, _, _, q, rfl, rfl, Nat.zero_le _, .nil⟩, trivial⟩
      | _ => cases h
    | _ => cases dt <;> cases h
def ex (K : PySem.W.Frag) : Bool := (sn.all fun d => supB PySem.Challenge.pw_waystaken_k06_takes_of_short_texts.main.file K d && baseB K (He.ga K d.at_.1) (way0 K)) && emptyT K
def loose : List Str := ([("WayError" : Str), ("BadText" : Str), ("BadName" : Str), ("LETTERS" : Str), ("MOST_LETTERS" : Str), ("MARKS" : Str), ("WORDS" : Str), ("is_put_in_brackets" : Str), ("inner_text" : Str), ("way_text" : Str), ("Reader" : Str), ("read_way" : Str), ("Way" : Str), ("Letter" : Str), ("One" : Str), ("Nothing" : Str), ("Row" : Str), ("Choice" : Str), ("Again" : Str), ("Maybe" : Str)] : List Str) ++ ([("Ahead" : Str), ("Unless" : Str), ("Call" : Str), ("way_of" : Str), ("parts_of" : Str), ("calls_of" : Str), ("check_calls" : Str), ("nodes_of" : Str), ("row_take" : Str), ("look_take" : Str), ("take_of" : Str), ("again_take" : Str), ("table_of" : Str), ("takes" : Str), ("_law_pen" : Str), ("_law_draw" : Str), ("_law_pick" : Str), ("_law_signs" : Str), ("_law_leaf" : Str), ("_law_way" : Str)] : List Str) ++ ([("_law_way_of" : Str), ("_law_inner" : Str), ("_law_made" : Str), ("_law_take" : Str), ("_law_take_row" : Str), ("_law_texts" : Str)] : List Str)
abbrev R : PySem.W.OpenRow := PySem.W.OpenLaw.row PySem.Challenge.rw_waystaken_k06_takes_of_short_texts
abbrev hk : PySem.W.Hook := hookY 5 fa fn sn ex
def ob (s : PySem.W.SharedT) : AlY := obsYG 5 fa fn sn ex (HandSHeadRun.getT s)
theorem ob_eq (s : PySem.W.SharedT) : ob s = hk.obs s.abs := obsYG_eq (HandSHeadRun.getT_eq s)
theorem run0 (w : World) : HandSHeadRun.RunEq R (PySem.W.view R.prog [52]) hk ob 20000 loose (w.withFollow "special-get-raises" false) := by
  intro os
  kernel_rfl
theorem run1 (w : World) : HandSHeadRun.RunEq R (PySem.W.view R.prog [52]) hk ob 20000 loose (w.withFollow "special-get-raises" true) := by
  intro os
  kernel_rfl
theorem run (w : World) : HandSHeadRun.RunEq R (PySem.W.view R.prog [52]) hk ob 20000 loose w := PySem.W.byRow2 "special-get-raises" (P := fun w => HandSHeadRun.RunEq R (PySem.W.view R.prog [52]) hk ob 20000 loose w) run0 run1 w
theorem facts {w : World} {K : PySem.W.Frag} {h : Heap} {mg : Str → Option Value} {f : Addr} (X : K.In h) (G : h.Ns mainGlobals mg) (hfa : mg ("law" : Str) = some (.ref f)) (c : SaysY fa fn sn ex K) :
    ∃ fd : FuncData, (∀ (s : Shared) (v : Value), BindsTo s fd ⟨[v], []⟩ [("_law_script", v)]) ∧ ∀ base : Heap, K.In base → base.Ns mainGlobals mg → FnOk PySem.Challenge.pw_waystaken_k06_takes_of_short_texts w K mg base CX0 25 f fd ["_law_script"] (LSp K spTrue) := by
  have cd := c.d
  obtain ⟨cm1, cm2⟩ := He.ba (show ((sn.all fun d => supB PySem.Challenge.pw_waystaken_k06_takes_of_short_texts.main.file K d && baseB K (He.ga K d.at_.1) (way0 K)) && emptyT K) = true from c.more)
  have T : TxtP mg := ⟨He.free_ok X G (cd.fact 33 (f := .free "len") rfl), He.free_ok X G (cd.fact 34 (f := .free "int") rfl), He.free_ok X G (cd.fact 35 (f := .free "list") rfl), He.free_ok X G (cd.fact 36 (f := .free "range") rfl), He.free_ok X G (cd.fact 37 (f := .free "min") rfl), He.free_ok X G (cd.fact 38 (f := .free "max") rfl), He.free_ok X G (cd.fact 39 (f := .free "sum") rfl), He.free_ok X G (cd.fact 40 (f := .free "isinstance") rfl), He.free_ok X G (cd.fact 41 (f := .free "tuple") rfl), He.free_ok X G (cd.fact 42 (f := .free "set") rfl), He.free_ok X G (cd.fact 43 (f := .free "sorted") rfl), He.free_ok X G (cd.fact 44 (f := .free "str") rfl), He.free_ok X G (cd.fact 45 (f := .free "enumerate") rfl), He.free_ok X G (cd.fact 46 (f := .free "reversed") rfl), He.free_ok X G (cd.fact 47 (f := .free "all") rfl), He.free_ok X G (cd.fact 48 (f := .free "any") rfl), He.free_ok X G (cd.fact 49 (f := .free "divmod") rfl), He.free_ok X G (cd.fact 50 (f := .free "dict") rfl), He.free_ok X G (cd.fact 51 (f := .free "super") rfl), He.free_ok X G (cd.fact 52 (f := .free "iter") rfl), He.free_ok X G (cd.fact 53 (f := .free "zip") rfl), He.free_ok X G (cd.fact 54 (f := .free "bool") rfl), He.free_ok X G (cd.fact 55 (f := .free "abs") rfl), He.free_ok X G (cd.fact 56 (f := .free "type") rfl)⟩
  obtain ⟨fd0, F0⟩ := cd.def_ 0 (d := d__law_draw) rfl
  have D__law_draw : DefAt K mg "_law_draw" ["_law_pen_here", "_law_many"] s__law_draw := ⟨⟨_, fd0, F0, He.glo_ok X G (cd.fact 0 (f := .glo "_law_draw") rfl), F0.kp, F0.bindsN fun _ _ _ _ _ _ us hl => match us, hl with | [_, _], _ => rfl⟩⟩
  obtain ⟨fd1, F1⟩ := cd.def_ 1 (d := d__law_pen) rfl
  have D__law_pen : DefAt K mg "_law_pen" ["_law_script"] s__law_pen := ⟨⟨_, fd1, F1, He.glo_ok X G (cd.fact 1 (f := .glo "_law_pen") rfl), F1.kp, F1.bindsN fun _ _ _ _ _ _ us hl => match us, hl with | [_], _ => rfl⟩⟩
  obtain ⟨fd2, F2⟩ := cd.def_ 2 (d := d__law_pick) rfl
  have D__law_pick : DefAt K mg "_law_pick" ["_law_pen_here", "_law_items"] s__law_pick := ⟨⟨_, fd2, F2, He.glo_ok X G (cd.fact 2 (f := .glo "_law_pick") rfl), F2.kp, F2.bindsN fun _ _ _ _ _ _ us hl => match us, hl with | [_, _], _ => rfl⟩⟩
  obtain ⟨fd3, F3⟩ := cd.def_ 3 (d := d__law_signs) rfl
  have D__law_signs : DefAt K mg "_law_signs" ["_law_pen_here", "_law_many"] s__law_signs := ⟨⟨_, fd3, F3, He.glo_ok X G (cd.fact 3 (f := .glo "_law_signs") rfl), F3.kp, F3.bindsN fun _ _ _ _ _ _ us hl => match us, hl with | [_, _], _ => rfl⟩⟩
  obtain ⟨fd4, F4⟩ := cd.def_ 4 (d := d__law_leaf) rfl
  have D__law_leaf : DefAt K mg "_law_leaf" ["_law_pen_here", "_law_signs_here"] s__law_leaf := ⟨⟨_, fd4, F4, He.glo_ok X G (cd.fact 4 (f := .glo "_law_leaf") rfl), F4.kp, F4.bindsN fun _ _ _ _ _ _ us hl => match us, hl with | [_, _], _ => rfl⟩⟩
  obtain ⟨fd5, F5⟩ := cd.def_ 5 (d := d__law_way_of) rfl
  have D__law_way_of : DefAt K mg "_law_way_of" ["_law_pen_here", "_law_signs_here", "_law_size"] s__law_way_of := ⟨⟨_, fd5, F5, He.glo_ok X G (cd.fact 5 (f := .glo "_law_way_of") rfl), F5.kp, F5.bindsN fun _ _ _ _ _ _ us hl => match us, hl with | [_, _, _], _ => rfl⟩⟩
  obtain ⟨fd6, F6⟩ := cd.def_ 6 (d := d__law_way) rfl
  have D__law_way : DefAt K mg "_law_way" ["_law_pen_here", "_law_signs_here", "_law_most"] s__law_way := ⟨⟨_, fd6, F6, He.glo_ok X G (cd.fact 6 (f := .glo "_law_way") rfl), F6.kp, F6.bindsN fun _ _ _ _ _ _ us hl => match us, hl with | [_, _, _], _ => rfl⟩⟩
  obtain ⟨fd7, F7⟩ := cd.def_ 7 (d := d__law_inner) rfl
  have D__law_inner : DefAt K mg "_law_inner" ["_law_way_here"] s__law_inner := ⟨⟨_, fd7, F7, He.glo_ok X G (cd.fact 7 (f := .glo "_law_inner") rfl), F7.kp, F7.bindsN fun _ _ _ _ _ _ us hl => match us, hl with | [_], _ => rfl⟩⟩
  obtain ⟨fd8, F8⟩ := cd.def_ 8 (d := d_Way___init__) rfl
  have D_Way___init__ : MethAt K "__init__" "Way.__init__" ["self", "word", "sign", "inner"] s_Way___init__ (He.fAd K d_Way___init__.at_) := ⟨⟨fd8, F8, F8.bindsN fun _ _ _ _ _ _ us hl => match us, hl with | [_, _, _, _], _ => rfl⟩⟩
  obtain ⟨fd9, F9⟩ := cd.def_ 9 (d := d__law_made) rfl
  have D__law_made : DefAt K mg "_law_made" ["_law_way_here"] s__law_made := ⟨⟨_, fd9, F9, He.glo_ok X G (cd.fact 8 (f := .glo "_law_made") rfl), F9.kp, F9.bindsN fun _ _ _ _ _ _ us hl => match us, hl with | [_], _ => rfl⟩⟩
  obtain ⟨fd10, F10⟩ := cd.def_ 10 (d := d_parts_of) rfl
  obtain ⟨dl10, v10, b10⟩ := F10.binds1 (ps := ["way", "path"]) 1 0 (by intro z; cases z) rfl fun _ _ _ _ _ _ _ us its h1 h2 => match us, its, h1, h2 with | [_], [_], _, _ => ⟨_, rfl, rfl⟩
  obtain ⟨dm10, w10, a10⟩ := F10.binds1 (ps := ["way", "path"]) 2 1 (by intro z; cases z) rfl fun _ _ _ _ _ _ _ us its h1 h2 => match us, its, h1, h2 with | [_, _], [_], _, _ => ⟨_, rfl, rfl⟩
  cases w10
  have D_parts_of : DefAt1 K mg "parts_of" ["way", "path"] [D.tup []] s_parts_of := ⟨⟨_, fd10, _, dl10, F10, He.glo_ok X G (cd.fact 9 (f := .glo "parts_of") rfl), F10.kp, a10, b10, v10, fun S => ⟨emptyT_ok cm2 S, trivial⟩⟩⟩
  obtain ⟨fd11, F11⟩ := cd.def_ 11 (d := d_calls_of) rfl
  have D_calls_of : DefAt K mg "calls_of" ["way"] s_calls_of := ⟨⟨_, fd11, F11, He.glo_ok X G (cd.fact 10 (f := .glo "calls_of") rfl), F11.kp, F11.bindsN fun _ _ _ _ _ _ us hl => match us, hl with | [_], _ => rfl⟩⟩
  obtain ⟨fd12, F12⟩ := cd.def_ 12 (d := d_check_calls) rfl
  have D_check_calls : DefAt K mg "check_calls" ["ways"] s_check_calls := ⟨⟨_, fd12, F12, He.glo_ok X G (cd.fact 11 (f := .glo "check_calls") rfl), F12.kp, F12.bindsN fun _ _ _ _ _ _ us hl => match us, hl with | [_], _ => rfl⟩⟩
  obtain ⟨fd13, F13⟩ := cd.def_ 13 (d := d__law_take) rfl
  have D__law_take : DefAt K mg "_law_take" ["_law_way_here", "_law_text", "_law_place"] s__law_take := ⟨⟨_, fd13, F13, He.glo_ok X G (cd.fact 12 (f := .glo "_law_take") rfl), F13.kp, F13.bindsN fun _ _ _ _ _ _ us hl => match us, hl with | [_, _, _], _ => rfl⟩⟩
  obtain ⟨fd14, F14⟩ := cd.def_ 14 (d := d__law_take_row) rfl
  have D__law_take_row : DefAt K mg "_law_take_row" ["_law_ways", "_law_text", "_law_place"] s__law_take_row := ⟨⟨_, fd14, F14, He.glo_ok X G (cd.fact 13 (f := .glo "_law_take_row") rfl), F14.kp, F14.bindsN fun _ _ _ _ _ _ us hl => match us, hl with | [_, _, _], _ => rfl⟩⟩
  obtain ⟨fd15, F15⟩ := cd.def_ 15 (d := d__law_texts) rfl
  have D__law_texts : DefAt K mg "_law_texts" ["_law_signs_here", "_law_most"] s__law_texts := ⟨⟨_, fd15, F15, He.glo_ok X G (cd.fact 14 (f := .glo "_law_texts") rfl), F15.kp, F15.bindsN fun _ _ _ _ _ _ us hl => match us, hl with | [_, _], _ => rfl⟩⟩
  obtain ⟨fd16, F16⟩ := cd.def_ 16 (d := d_nodes_of) rfl
  have D_nodes_of : DefAt K mg "nodes_of" ["way"] s_nodes_of := ⟨⟨_, fd16, F16, He.glo_ok X G (cd.fact 15 (f := .glo "nodes_of") rfl), F16.kp, F16.bindsN fun _ _ _ _ _ _ us hl => match us, hl with | [_], _ => rfl⟩⟩
  obtain ⟨fd17, F17⟩ := cd.def_ 17 (d := d_row_take) rfl
  have D_row_take : DefAt K mg "row_take" ["table", "below", "place"] s_row_take := ⟨⟨_, fd17, F17, He.glo_ok X G (cd.fact 16 (f := .glo "row_take") rfl), F17.kp, F17.bindsN fun _ _ _ _ _ _ us hl => match us, hl with | [_, _, _], _ => rfl⟩⟩
  obtain ⟨fd18, F18⟩ := cd.def_ 18 (d := d_look_take) rfl
  have D_look_take : DefAt K mg "look_take" ["word", "take"] s_look_take := ⟨⟨_, fd18, F18, He.glo_ok X G (cd.fact 17 (f := .glo "look_take") rfl), F18.kp, F18.bindsN fun _ _ _ _ _ _ us hl => match us, hl with | [_, _], _ => rfl⟩⟩
  obtain ⟨fd19, F19⟩ := cd.def_ 19 (d := d_again_take) rfl
  have D_again_take : DefAt K mg "again_take" ["table", "index", "inner", "place"] s_again_take := ⟨⟨_, fd19, F19, He.glo_ok X G (cd.fact 18 (f := .glo "again_take") rfl), F19.kp, F19.bindsN fun _ _ _ _ _ _ us hl => match us, hl with | [_, _, _, _], _ => rfl⟩⟩
  obtain ⟨fd20, F20⟩ := cd.def_ 20 (d := d_take_of) rfl
  have D_take_of : DefAt K mg "take_of" ["table", "node", "text", "place"] s_take_of := ⟨⟨_, fd20, F20, He.glo_ok X G (cd.fact 19 (f := .glo "take_of") rfl), F20.kp, F20.bindsN fun _ _ _ _ _ _ us hl => match us, hl with | [_, _, _, _], _ => rfl⟩⟩
  obtain ⟨fd21, F21⟩ := cd.def_ 21 (d := d_table_of) rfl
  have D_table_of : DefAt K mg "table_of" ["way", "text"] s_table_of := ⟨⟨_, fd21, F21, He.glo_ok X G (cd.fact 20 (f := .glo "table_of") rfl), F21.kp, F21.bindsN fun _ _ _ _ _ _ us hl => match us, hl with | [_, _], _ => rfl⟩⟩
  obtain ⟨fd22, F22⟩ := cd.def_ 22 (d := d_takes) rfl
  obtain ⟨dl22, v22, b22⟩ := F22.binds1 (ps := ["way", "text", "place"]) 2 0 (by intro z; cases z) rfl fun _ _ _ _ _ _ _ us its h1 h2 => match us, its, h1, h2 with | [_, _], [_], _, _ => ⟨_, rfl, rfl⟩
  obtain ⟨dm22, w22, a22⟩ := F22.binds1 (ps := ["way", "text", "place"]) 3 1 (by intro z; cases z) rfl fun _ _ _ _ _ _ _ us its h1 h2 => match us, its, h1, h2 with | [_, _, _], [_], _, _ => ⟨_, rfl, rfl⟩
  cases w22
  have D_takes : DefAt1 K mg "takes" ["way", "text", "place"] [D.int 0] s_takes := ⟨⟨_, fd22, _, dl22, F22, He.glo_ok X G (cd.fact 21 (f := .glo "takes") rfl), F22.kp, a22, b22, v22, fun S => ⟨rfl, trivial⟩⟩⟩
  obtain ⟨fd23, F23⟩ := cd.def_ 23 (d := d_law) rfl
  have F_Letter : ∀ n ∈ fldN, FldOk K (He.ga K "Letter") n := fun n hn => ⟨He.cls_ok (cd.fact 57 (f := .cls "Letter") rfl), by
    simp only [fldN, List.mem_cons, List.not_mem_nil, or_false] at hn
    rcases hn with rfl | rfl | rfl | rfl | rfl | rfl | rfl
    · exact He.noat_ok (cd.fact 77 (f := .noat "Letter" "word") rfl)
    · exact He.noat_ok (cd.fact 78 (f := .noat "Letter" "sign") rfl)
    · exact He.noat_ok (cd.fact 79 (f := .noat "Letter" "inner") rfl)
    · exact He.noat_ok (cd.fact 80 (f := .noat "Letter" "letter") rfl)
    · exact He.noat_ok (cd.fact 81 (f := .noat "Letter" "name") rfl)
    · exact He.noat_ok (cd.fact 82 (f := .noat "Letter" "part") rfl)
    · exact He.noat_ok (cd.fact 83 (f := .noat "Letter" "ways") rfl)⟩
  have F_One : ∀ n ∈ fldN, FldOk K (He.ga K "One") n := fun n hn => ⟨He.cls_ok (cd.fact 58 (f := .cls "One") rfl), by
    simp only [fldN, List.mem_cons, List.not_mem_nil, or_false] at hn
    rcases hn with rfl | rfl | rfl | rfl | rfl | rfl | rfl
    · exact He.noat_ok (cd.fact 84 (f := .noat "One" "word") rfl)
    · exact He.noat_ok (cd.fact 85 (f := .noat "One" "sign") rfl)
    · exact He.noat_ok (cd.fact 86 (f := .noat "One" "inner") rfl)
    · exact He.noat_ok (cd.fact 87 (f := .noat "One" "letter") rfl)
    · exact He.noat_ok (cd.fact 88 (f := .noat "One" "name") rfl)
    · exact He.noat_ok (cd.fact 89 (f := .noat "One" "part") rfl)
    · exact He.noat_ok (cd.fact 90 (f := .noat "One" "ways") rfl)⟩
  have F_Nothing : ∀ n ∈ fldN, FldOk K (He.ga K "Nothing") n := fun n hn => ⟨He.cls_ok (cd.fact 59 (f := .cls "Nothing") rfl), by
    simp only [fldN, List.mem_cons, List.not_mem_nil, or_false] at hn
    rcases hn with rfl | rfl | rfl | rfl | rfl | rfl | rfl
    · exact He.noat_ok (cd.fact 91 (f := .noat "Nothing" "word") rfl)
    · exact He.noat_ok (cd.fact 92 (f := .noat "Nothing" "sign") rfl)
    · exact He.noat_ok (cd.fact 93 (f := .noat "Nothing" "inner") rfl)
    · exact He.noat_ok (cd.fact 94 (f := .noat "Nothing" "letter") rfl)
    · exact He.noat_ok (cd.fact 95 (f := .noat "Nothing" "name") rfl)
    · exact He.noat_ok (cd.fact 96 (f := .noat "Nothing" "part") rfl)
    · exact He.noat_ok (cd.fact 97 (f := .noat "Nothing" "ways") rfl)⟩
  have F_Row : ∀ n ∈ fldN, FldOk K (He.ga K "Row") n := fun n hn => ⟨He.cls_ok (cd.fact 60 (f := .cls "Row") rfl), by
    simp only [fldN, List.mem_cons, List.not_mem_nil, or_false] at hn
    rcases hn with rfl | rfl | rfl | rfl | rfl | rfl | rfl
    · exact He.noat_ok (cd.fact 98 (f := .noat "Row" "word") rfl)
    · exact He.noat_ok (cd.fact 99 (f := .noat "Row" "sign") rfl)
    · exact He.noat_ok (cd.fact 100 (f := .noat "Row" "inner") rfl)
    · exact He.noat_ok (cd.fact 101 (f := .noat "Row" "letter") rfl)
    · exact He.noat_ok (cd.fact 102 (f := .noat "Row" "name") rfl)
    · exact He.noat_ok (cd.fact 103 (f := .noat "Row" "part") rfl)
    · exact He.noat_ok (cd.fact 104 (f := .noat "Row" "ways") rfl)⟩
  have F_Choice : ∀ n ∈ fldN, FldOk K (He.ga K "Choice") n := fun n hn => ⟨He.cls_ok (cd.fact 61 (f := .cls "Choice") rfl), by
    simp only [fldN, List.mem_cons, List.not_mem_nil, or_false] at hn
    rcases hn with rfl | rfl | rfl | rfl | rfl | rfl | rfl
    · exact He.noat_ok (cd.fact 105 (f := .noat "Choice" "word") rfl)
    · exact He.noat_ok (cd.fact 106 (f := .noat "Choice" "sign") rfl)
    · exact He.noat_ok (cd.fact 107 (f := .noat "Choice" "inner") rfl)
    · exact He.noat_ok (cd.fact 108 (f := .noat "Choice" "letter") rfl)
    · exact He.noat_ok (cd.fact 109 (f := .noat "Choice" "name") rfl)
    · exact He.noat_ok (cd.fact 110 (f := .noat "Choice" "part") rfl)
    · exact He.noat_ok (cd.fact 111 (f := .noat "Choice" "ways") rfl)⟩
  have F_Again : ∀ n ∈ fldN, FldOk K (He.ga K "Again") n := fun n hn => ⟨He.cls_ok (cd.fact 62 (f := .cls "Again") rfl), by
    simp only [fldN, List.mem_cons, List.not_mem_nil, or_false] at hn
    rcases hn with rfl | rfl | rfl | rfl | rfl | rfl | rfl
    · exact He.noat_ok (cd.fact 112 (f := .noat "Again" "word") rfl)
    · exact He.noat_ok (cd.fact 113 (f := .noat "Again" "sign") rfl)
    · exact He.noat_ok (cd.fact 114 (f := .noat "Again" "inner") rfl)
    · exact He.noat_ok (cd.fact 115 (f := .noat "Again" "letter") rfl)
    · exact He.noat_ok (cd.fact 116 (f := .noat "Again" "name") rfl)
    · exact He.noat_ok (cd.fact 117 (f := .noat "Again" "part") rfl)
    · exact He.noat_ok (cd.fact 118 (f := .noat "Again" "ways") rfl)⟩
  have F_Maybe : ∀ n ∈ fldN, FldOk K (He.ga K "Maybe") n := fun n hn => ⟨He.cls_ok (cd.fact 63 (f := .cls "Maybe") rfl), by
    simp only [fldN, List.mem_cons, List.not_mem_nil, or_false] at hn
    rcases hn with rfl | rfl | rfl | rfl | rfl | rfl | rfl
    · exact He.noat_ok (cd.fact 119 (f := .noat "Maybe" "word") rfl)
    · exact He.noat_ok (cd.fact 120 (f := .noat "Maybe" "sign") rfl)
    · exact He.noat_ok (cd.fact 121 (f := .noat "Maybe" "inner") rfl)
    · exact He.noat_ok (cd.fact 122 (f := .noat "Maybe" "letter") rfl)
    · exact He.noat_ok (cd.fact 123 (f := .noat "Maybe" "name") rfl)
    · exact He.noat_ok (cd.fact 124 (f := .noat "Maybe" "part") rfl)
    · exact He.noat_ok (cd.fact 125 (f := .noat "Maybe" "ways") rfl)⟩
  have F_Ahead : ∀ n ∈ fldN, FldOk K (He.ga K "Ahead") n := fun n hn => ⟨He.cls_ok (cd.fact 64 (f := .cls "Ahead") rfl), by
    simp only [fldN, List.mem_cons, List.not_mem_nil, or_false] at hn
    rcases hn with rfl | rfl | rfl | rfl | rfl | rfl | rfl
    · exact He.noat_ok (cd.fact 126 (f := .noat "Ahead" "word") rfl)
    · exact He.noat_ok (cd.fact 127 (f := .noat "Ahead" "sign") rfl)
    · exact He.noat_ok (cd.fact 128 (f := .noat "Ahead" "inner") rfl)
    · exact He.noat_ok (cd.fact 129 (f := .noat "Ahead" "letter") rfl)
    · exact He.noat_ok (cd.fact 130 (f := .noat "Ahead" "name") rfl)
    · exact He.noat_ok (cd.fact 131 (f := .noat "Ahead" "part") rfl)
    · exact He.noat_ok (cd.fact 132 (f := .noat "Ahead" "ways") rfl)⟩
  have F_Unless : ∀ n ∈ fldN, FldOk K (He.ga K "Unless") n := fun n hn => ⟨He.cls_ok (cd.fact 65 (f := .cls "Unless") rfl), by
    simp only [fldN, List.mem_cons, List.not_mem_nil, or_false] at hn
    rcases hn with rfl | rfl | rfl | rfl | rfl | rfl | rfl
    · exact He.noat_ok (cd.fact 133 (f := .noat "Unless" "word") rfl)
    · exact He.noat_ok (cd.fact 134 (f := .noat "Unless" "sign") rfl)
    · exact He.noat_ok (cd.fact 135 (f := .noat "Unless" "inner") rfl)
    · exact He.noat_ok (cd.fact 136 (f := .noat "Unless" "letter") rfl)
    · exact He.noat_ok (cd.fact 137 (f := .noat "Unless" "name") rfl)
    · exact He.noat_ok (cd.fact 138 (f := .noat "Unless" "part") rfl)
    · exact He.noat_ok (cd.fact 139 (f := .noat "Unless" "ways") rfl)⟩
  have F_Call : ∀ n ∈ fldN, FldOk K (He.ga K "Call") n := fun n hn => ⟨He.cls_ok (cd.fact 66 (f := .cls "Call") rfl), by
    simp only [fldN, List.mem_cons, List.not_mem_nil, or_false] at hn
    rcases hn with rfl | rfl | rfl | rfl | rfl | rfl | rfl
    · exact He.noat_ok (cd.fact 140 (f := .noat "Call" "word") rfl)
    · exact He.noat_ok (cd.fact 141 (f := .noat "Call" "sign") rfl)
    · exact He.noat_ok (cd.fact 142 (f := .noat "Call" "inner") rfl)
    · exact He.noat_ok (cd.fact 143 (f := .noat "Call" "letter") rfl)
    · exact He.noat_ok (cd.fact 144 (f := .noat "Call" "name") rfl)
    · exact He.noat_ok (cd.fact 145 (f := .noat "Call" "part") rfl)
    · exact He.noat_ok (cd.fact 146 (f := .noat "Call" "ways") rfl)⟩
  let W : WA := ⟨He.ga K "Nothing", He.ga K "One", He.ga K "Letter", He.ga K "Call", fun k => match k with | .again => He.ga K "Again" | .maybe => He.ga K "Maybe" | .ahead => He.ga K "Ahead" | .unless => He.ga K "Unless", fun b => match b with | false => He.ga K "Row" | true => He.ga K "Choice"⟩
  have hW : WOk K W := by
    rintro C (rfl | rfl | rfl | rfl | ⟨k, rfl⟩ | ⟨b, rfl⟩)
    · exact F_Nothing
    · exact F_One
    · exact F_Letter
    · exact F_Call
    · cases k
      · exact F_Again
      · exact F_Maybe
      · exact F_Ahead
      · exact F_Unless
    · cases b
      · exact F_Row
      · exact F_Choice
  obtain ⟨s0, t0⟩ := He.ba (List.all_eq_true.mp cm1 d_Letter___init__ (List.mem_of_getElem? (show sn[0]? = some d_Letter___init__ from rfl)))
  have S_Letter : SupAt PySem.Challenge.pw_waystaken_k06_takes_of_short_texts K (He.ga K "Letter") "__init__" "Letter.__init__" ["self", "letter"] s_Letter___init__ (He.fAd K d_Letter___init__.at_) (way0 K) := supAt_of (P := PySem.Challenge.pw_waystaken_k06_takes_of_short_texts) (d := d_Letter___init__) (c.sup 0 (d := d_Letter___init__) rfl) s0 t0 (by rfl) rfl rfl rfl fun _ _ _ _ _ _ _ us hl => match us, hl with | [_, _], _ => rfl
  obtain ⟨s1, t1⟩ := He.ba (List.all_eq_true.mp cm1 d_One___init__ (List.mem_of_getElem? (show sn[1]? = some d_One___init__ from rfl)))
  have S_One : SupAt PySem.Challenge.pw_waystaken_k06_takes_of_short_texts K (He.ga K "One") "__init__" "One.__init__" ["self"] s_One___init__ (He.fAd K d_One___init__.at_) (way0 K) := supAt_of (P := PySem.Challenge.pw_waystaken_k06_takes_of_short_texts) (d := d_One___init__) (c.sup 1 (d := d_One___init__) rfl) s1 t1 (by rfl) rfl rfl rfl fun _ _ _ _ _ _ _ us hl => match us, hl with | [_], _ => rfl
  obtain ⟨s2, t2⟩ := He.ba (List.all_eq_true.mp cm1 d_Nothing___init__ (List.mem_of_getElem? (show sn[2]? = some d_Nothing___init__ from rfl)))
  have S_Nothing : SupAt PySem.Challenge.pw_waystaken_k06_takes_of_short_texts K (He.ga K "Nothing") "__init__" "Nothing.__init__" ["self"] s_Nothing___init__ (He.fAd K d_Nothing___init__.at_) (way0 K) := supAt_of (P := PySem.Challenge.pw_waystaken_k06_takes_of_short_texts) (d := d_Nothing___init__) (c.sup 2 (d := d_Nothing___init__) rfl) s2 t2 (by rfl) rfl rfl rfl fun _ _ _ _ _ _ _ us hl => match us, hl with | [_], _ => rfl
  obtain ⟨s3, t3⟩ := He.ba (List.all_eq_true.mp cm1 d_Row___init__ (List.mem_of_getElem? (show sn[3]? = some d_Row___init__ from rfl)))
  have S_Row : SupAt PySem.Challenge.pw_waystaken_k06_takes_of_short_texts K (He.ga K "Row") "__init__" "Row.__init__" ["self", "ways"] s_Row___init__ (He.fAd K d_Row___init__.at_) (way0 K) := supAt_of (P := PySem.Challenge.pw_waystaken_k06_takes_of_short_texts) (d := d_Row___init__) (c.sup 3 (d := d_Row___init__) rfl) s3 t3 (by rfl) rfl rfl rfl fun _ _ _ _ _ _ _ us hl => match us, hl with | [_, _], _ => rfl
  obtain ⟨s4, t4⟩ := He.ba (List.all_eq_true.mp cm1 d_Choice___init__ (List.mem_of_getElem? (show sn[4]? = some d_Choice___init__ from rfl)))
  have S_Choice : SupAt PySem.Challenge.pw_waystaken_k06_takes_of_short_texts K (He.ga K "Choice") "__init__" "Choice.__init__" ["self", "ways"] s_Choice___init__ (He.fAd K d_Choice___init__.at_) (way0 K) := supAt_of (P := PySem.Challenge.pw_waystaken_k06_takes_of_short_texts) (d := d_Choice___init__) (c.sup 4 (d := d_Choice___init__) rfl) s4 t4 (by rfl) rfl rfl rfl fun _ _ _ _ _ _ _ us hl => match us, hl with | [_, _], _ => rfl
  obtain ⟨s5, t5⟩ := He.ba (List.all_eq_true.mp cm1 d_Again___init__ (List.mem_of_getElem? (show sn[5]? = some d_Again___init__ from rfl)))
  have S_Again : SupAt PySem.Challenge.pw_waystaken_k06_takes_of_short_texts K (He.ga K "Again") "__init__" "Again.__init__" ["self", "part"] s_Again___init__ (He.fAd K d_Again___init__.at_) (way0 K) := supAt_of (P := PySem.Challenge.pw_waystaken_k06_takes_of_short_texts) (d := d_Again___init__) (c.sup 5 (d := d_Again___init__) rfl) s5 t5 (by rfl) rfl rfl rfl fun _ _ _ _ _ _ _ us hl => match us, hl with | [_, _], _ => rfl
  obtain ⟨s6, t6⟩ := He.ba (List.all_eq_true.mp cm1 d_Maybe___init__ (List.mem_of_getElem? (show sn[6]? = some d_Maybe___init__ from rfl)))
  have S_Maybe : SupAt PySem.Challenge.pw_waystaken_k06_takes_of_short_texts K (He.ga K "Maybe") "__init__" "Maybe.__init__" ["self", "part"] s_Maybe___init__ (He.fAd K d_Maybe___init__.at_) (way0 K) := supAt_of (P := PySem.Challenge.pw_waystaken_k06_takes_of_short_texts) (d := d_Maybe___init__) (c.sup 6 (d := d_Maybe___init__) rfl) s6 t6 (by rfl) rfl rfl rfl fun _ _ _ _ _ _ _ us hl => match us, hl with | [_, _], _ => rfl
  obtain ⟨s7, t7⟩ := He.ba (List.all_eq_true.mp cm1 d_Ahead___init__ (List.mem_of_getElem? (show sn[7]? = some d_Ahead___init__ from rfl)))
  have S_Ahead : SupAt PySem.Challenge.pw_waystaken_k06_takes_of_short_texts K (He.ga K "Ahead") "__init__" "Ahead.__init__" ["self", "part"] s_Ahead___init__ (He.fAd K d_Ahead___init__.at_) (way0 K) := supAt_of (P := PySem.Challenge.pw_waystaken_k06_takes_of_short_texts) (d := d_Ahead___init__) (c.sup 7 (d := d_Ahead___init__) rfl) s7 t7 (by rfl) rfl rfl rfl fun _ _ _ _ _ _ _ us hl => match us, hl with | [_, _], _ => rfl
  obtain ⟨s8, t8⟩ := He.ba (List.all_eq_true.mp cm1 d_Unless___init__ (List.mem_of_getElem? (show sn[8]? = some d_Unless___init__ from rfl)))
  have S_Unless : SupAt PySem.Challenge.pw_waystaken_k06_takes_of_short_texts K (He.ga K "Unless") "__init__" "Unless.__init__" ["self", "part"] s_Unless___init__ (He.fAd K d_Unless___init__.at_) (way0 K) := supAt_of (P := PySem.Challenge.pw_waystaken_k06_takes_of_short_texts) (d := d_Unless___init__) (c.sup 8 (d := d_Unless___init__) rfl) s8 t8 (by rfl) rfl rfl rfl fun _ _ _ _ _ _ _ us hl => match us, hl with | [_, _], _ => rfl
  obtain ⟨s9, t9⟩ := He.ba (List.all_eq_true.mp cm1 d_Call___init__ (List.mem_of_getElem? (show sn[9]? = some d_Call___init__ from rfl)))
  have S_Call : SupAt PySem.Challenge.pw_waystaken_k06_takes_of_short_texts K (He.ga K "Call") "__init__" "Call.__init__" ["self", "name"] s_Call___init__ (He.fAd K d_Call___init__.at_) (way0 K) := supAt_of (P := PySem.Challenge.pw_waystaken_k06_takes_of_short_texts) (d := d_Call___init__) (c.sup 9 (d := d_Call___init__) rfl) s9 t9 (by rfl) rfl rfl rfl fun _ _ _ _ _ _ _ us hl => match us, hl with | [_, _], _ => rfl
  have e := hfa.symm.trans (He.glo_ok X G (cd.fact 22 (f := .glo "law") rfl))
  cases e
  have b := FunD.bindsA (ps := ["_law_script"]) F23 fun _ _ _ _ _ _ us hl => match us, hl with | [_], _ => rfl
  refine ⟨fd23, fun s v => b s [v] rfl, fun base _ _ => ?_⟩
  have C_Letter : ∃ fd, FnOk PySem.Challenge.pw_waystaken_k06_takes_of_short_texts w K mg base CX0 2 (He.ma K (He.ga K "Letter") "__init__") fd ["self", "letter"] (LSp K (spInit (He.ga K "Letter") (gLeaf "letter" "letter"))) ∧ Binds K fd ["self", "letter"] [] := by
    obtain ⟨fdw, gw, bw⟩ := ok_Way_init (P := PySem.Challenge.pw_waystaken_k06_takes_of_short_texts) (w := w) (base := base) T F_Letter D_Way___init__
    exact ok_Letter_init T F_Letter S_Letter gw bw
  have C_One : ∃ fd, FnOk PySem.Challenge.pw_waystaken_k06_takes_of_short_texts w K mg base CX0 2 (He.ma K (He.ga K "One") "__init__") fd ["self"] (LSp K (spInit (He.ga K "One") (gBare "one"))) ∧ Binds K fd ["self"] [] := by
    obtain ⟨fdw, gw, bw⟩ := ok_Way_init (P := PySem.Challenge.pw_waystaken_k06_takes_of_short_texts) (w := w) (base := base) T F_One D_Way___init__
    exact ok_One_init T F_One S_One gw bw
  have C_Nothing : ∃ fd, FnOk PySem.Challenge.pw_waystaken_k06_takes_of_short_texts w K mg base CX0 2 (He.ma K (He.ga K "Nothing") "__init__") fd ["self"] (LSp K (spInit (He.ga K "Nothing") (gBare "nothing"))) ∧ Binds K fd ["self"] [] := by
    obtain ⟨fdw, gw, bw⟩ := ok_Way_init (P := PySem.Challenge.pw_waystaken_k06_takes_of_short_texts) (w := w) (base := base) T F_Nothing D_Way___init__
    exact ok_Nothing_init T F_Nothing S_Nothing gw bw
  have C_Row : ∃ fd, FnOk PySem.Challenge.pw_waystaken_k06_takes_of_short_texts w K mg base CX0 2 (He.ma K (He.ga K "Row") "__init__") fd ["self", "ways"] (LSp K (spInit (He.ga K "Row") (gMany "row"))) ∧ Binds K fd ["self", "ways"] [] := by
    obtain ⟨fdw, gw, bw⟩ := ok_Way_init (P := PySem.Challenge.pw_waystaken_k06_takes_of_short_texts) (w := w) (base := base) T F_Row D_Way___init__
    exact ok_Row_init T F_Row S_Row gw bw
  have C_Choice : ∃ fd, FnOk PySem.Challenge.pw_waystaken_k06_takes_of_short_texts w K mg base CX0 2 (He.ma K (He.ga K "Choice") "__init__") fd ["self", "ways"] (LSp K (spInit (He.ga K "Choice") (gMany "choice"))) ∧ Binds K fd ["self", "ways"] [] := by
    obtain ⟨fdw, gw, bw⟩ := ok_Way_init (P := PySem.Challenge.pw_waystaken_k06_takes_of_short_texts) (w := w) (base := base) T F_Choice D_Way___init__
    exact ok_Choice_init T F_Choice S_Choice gw bw
  have C_Again : ∃ fd, FnOk PySem.Challenge.pw_waystaken_k06_takes_of_short_texts w K mg base CX0 2 (He.ma K (He.ga K "Again") "__init__") fd ["self", "part"] (LSp K (spInit (He.ga K "Again") (gUn "again"))) ∧ Binds K fd ["self", "part"] [] := by
    obtain ⟨fdw, gw, bw⟩ := ok_Way_init (P := PySem.Challenge.pw_waystaken_k06_takes_of_short_texts) (w := w) (base := base) T F_Again D_Way___init__
    exact ok_Again_init T F_Again S_Again gw bw
  have C_Maybe : ∃ fd, FnOk PySem.Challenge.pw_waystaken_k06_takes_of_short_texts w K mg base CX0 2 (He.ma K (He.ga K "Maybe") "__init__") fd ["self", "part"] (LSp K (spInit (He.ga K "Maybe") (gUn "maybe"))) ∧ Binds K fd ["self", "part"] [] := by
    obtain ⟨fdw, gw, bw⟩ := ok_Way_init (P := PySem.Challenge.pw_waystaken_k06_takes_of_short_texts) (w := w) (base := base) T F_Maybe D_Way___init__
    exact ok_Maybe_init T F_Maybe S_Maybe gw bw
  have C_Ahead : ∃ fd, FnOk PySem.Challenge.pw_waystaken_k06_takes_of_short_texts w K mg base CX0 2 (He.ma K (He.ga K "Ahead") "__init__") fd ["self", "part"] (LSp K (spInit (He.ga K "Ahead") (gUn "ahead"))) ∧ Binds K fd ["self", "part"] [] := by
    obtain ⟨fdw, gw, bw⟩ := ok_Way_init (P := PySem.Challenge.pw_waystaken_k06_takes_of_short_texts) (w := w) (base := base) T F_Ahead D_Way___init__
    exact ok_Ahead_init T F_Ahead S_Ahead gw bw
  have C_Unless : ∃ fd, FnOk PySem.Challenge.pw_waystaken_k06_takes_of_short_texts w K mg base CX0 2 (He.ma K (He.ga K "Unless") "__init__") fd ["self", "part"] (LSp K (spInit (He.ga K "Unless") (gUn "unless"))) ∧ Binds K fd ["self", "part"] [] := by
    obtain ⟨fdw, gw, bw⟩ := ok_Way_init (P := PySem.Challenge.pw_waystaken_k06_takes_of_short_texts) (w := w) (base := base) T F_Unless D_Way___init__
    exact ok_Unless_init T F_Unless S_Unless gw bw
  have C_Call : ∃ fd, FnOk PySem.Challenge.pw_waystaken_k06_takes_of_short_texts w K mg base CX0 2 (He.ma K (He.ga K "Call") "__init__") fd ["self", "name"] (LSp K (spInit (He.ga K "Call") (gLeaf "call" "name"))) ∧ Binds K fd ["self", "name"] [] := by
    obtain ⟨fdw, gw, bw⟩ := ok_Way_init (P := PySem.Challenge.pw_waystaken_k06_takes_of_short_texts) (w := w) (base := base) T F_Call D_Way___init__
    exact ok_Call_init T F_Call S_Call gw bw
  have hC : WCl PySem.Challenge.pw_waystaken_k06_takes_of_short_texts w K mg base W := {
    c_nothing := by
      obtain ⟨fdc, gc, bc⟩ := C_Nothing
      exact ⟨⟨_, fdc, gc, He.mkr_ok (cd.fact 69 (f := .mkr "Nothing") rfl), He.glo_ok X G (cd.fact 25 (f := .glo "Nothing") rfl), bc⟩⟩
    c_one := by
      obtain ⟨fdc, gc, bc⟩ := C_One
      exact ⟨⟨_, fdc, gc, He.mkr_ok (cd.fact 68 (f := .mkr "One") rfl), He.glo_ok X G (cd.fact 24 (f := .glo "One") rfl), bc⟩⟩
    c_letter := by
      obtain ⟨fdc, gc, bc⟩ := C_Letter
      exact ⟨⟨_, fdc, gc, He.mkr_ok (cd.fact 67 (f := .mkr "Letter") rfl), He.glo_ok X G (cd.fact 23 (f := .glo "Letter") rfl), bc⟩⟩
    c_call := by
      obtain ⟨fdc, gc, bc⟩ := C_Call
      exact ⟨⟨_, fdc, gc, He.mkr_ok (cd.fact 76 (f := .mkr "Call") rfl), He.glo_ok X G (cd.fact 32 (f := .glo "Call") rfl), bc⟩⟩
    c_again := by
      obtain ⟨fdc, gc, bc⟩ := C_Again
      exact ⟨⟨_, fdc, gc, He.mkr_ok (cd.fact 72 (f := .mkr "Again") rfl), He.glo_ok X G (cd.fact 28 (f := .glo "Again") rfl), bc⟩⟩
    c_maybe := by
      obtain ⟨fdc, gc, bc⟩ := C_Maybe
      exact ⟨⟨_, fdc, gc, He.mkr_ok (cd.fact 73 (f := .mkr "Maybe") rfl), He.glo_ok X G (cd.fact 29 (f := .glo "Maybe") rfl), bc⟩⟩
    c_ahead := by
      obtain ⟨fdc, gc, bc⟩ := C_Ahead
      exact ⟨⟨_, fdc, gc, He.mkr_ok (cd.fact 74 (f := .mkr "Ahead") rfl), He.glo_ok X G (cd.fact 30 (f := .glo "Ahead") rfl), bc⟩⟩
    c_unless := by
      obtain ⟨fdc, gc, bc⟩ := C_Unless
      exact ⟨⟨_, fdc, gc, He.mkr_ok (cd.fact 75 (f := .mkr "Unless") rfl), He.glo_ok X G (cd.fact 31 (f := .glo "Unless") rfl), bc⟩⟩
    c_row := by
      obtain ⟨fdc, gc, bc⟩ := C_Row
      exact ⟨⟨_, fdc, gc, He.mkr_ok (cd.fact 70 (f := .mkr "Row") rfl), He.glo_ok X G (cd.fact 26 (f := .glo "Row") rfl), bc⟩⟩
    c_choice := by
      obtain ⟨fdc, gc, bc⟩ := C_Choice
      exact ⟨⟨_, fdc, gc, He.mkr_ok (cd.fact 71 (f := .mkr "Choice") rfl), He.glo_ok X G (cd.fact 27 (f := .glo "Choice") rfl), bc⟩⟩
  }
  have f_draw := ok_draw (P := PySem.Challenge.pw_waystaken_k06_takes_of_short_texts) (w := w) (base := base) T D__law_draw
  have f_pen := ok_pen (P := PySem.Challenge.pw_waystaken_k06_takes_of_short_texts) (w := w) (base := base) T D__law_pen
  have f_pick := ok_pick T f_draw D__law_pick
  have f_signs := ok_signs T f_draw D__law_signs
  have f_leaf := ok_leaf T f_draw f_pick D__law_leaf
  have f_wayof := ok_way_of T f_draw f_pick f_leaf D__law_way_of 12
  have f_way := ok_way T f_draw f_wayof D__law_way
  have f_inner := ok_inner (P := PySem.Challenge.pw_waystaken_k06_takes_of_short_texts) (w := w) (base := base) T D__law_inner
  have f_made := ok_made T hC f_inner D__law_made 12
  have f_parts := ok_parts_of (P := PySem.Challenge.pw_waystaken_k06_takes_of_short_texts) (w := w) (base := base) T hW D_parts_of 12
  have f_calls := ok_calls_of T hW 12 f_parts D_calls_of
  have f_check := ok_check_calls T 12 f_calls D_check_calls
  have f_take := ok_take (P := PySem.Challenge.pw_waystaken_k06_takes_of_short_texts) (w := w) (base := base) T D__law_take D__law_take_row 12
  have f_texts := ok_texts (P := PySem.Challenge.pw_waystaken_k06_takes_of_short_texts) (w := w) (base := base) T D__law_texts
  have f_nodes := ok_nodes_of (P := PySem.Challenge.pw_waystaken_k06_takes_of_short_texts) (w := w) (base := base) T hW D_nodes_of 12
  have f_row := ok_row_take (P := PySem.Challenge.pw_waystaken_k06_takes_of_short_texts) (w := w) (base := base) T D_row_take
  have f_look := ok_look_take (P := PySem.Challenge.pw_waystaken_k06_takes_of_short_texts) (w := w) (base := base) T D_look_take
  have f_again := ok_again_take (P := PySem.Challenge.pw_waystaken_k06_takes_of_short_texts) (w := w) (base := base) T D_again_take
  have f_takeof := ok_take_of T f_row f_look D_take_of
  have f_table := ok_table_of T 12 f_nodes f_again f_takeof D_table_of
  have f_takes := ok_takes T 12 f_check f_table D_takes
  exact ok_law T f_draw f_pen f_signs f_way f_made f_texts f_takes f_take F23

end K06
open PySem PySem.W PySem.Calls PyProof.Rows
theorem PySem.Challenge.cw_waystaken_k06_takes_of_short_texts_holds : PySem.Challenge.rw_waystaken_k06_takes_of_short_texts.Holds := by
  w_on; o_law
  refine HandSHeadRun.head_any (r := OpenLaw.row PySem.Challenge.rw_waystaken_k06_takes_of_short_texts) (q := view (OpenLaw.row PySem.Challenge.rw_waystaken_k06_takes_of_short_texts).prog [52]) (H := K06.hk) (ob := K06.ob) (M := 20000) (loose := K06.loose) (d := HandSHeadRun.topDef (OpenLaw.row PySem.Challenge.rw_waystaken_k06_takes_of_short_texts).prog 52) (kwd := []) K06.ob_eq
    (by kernel_rfl) (fun s => by kernel_rfl) K06.run (by kernel_rfl) (by kernel_rfl) (by kernel_rfl) (by rfl) (by first | assumption | decide +kernel) (by decide +kernel) ⟨rfl, rfl, rfl, rfl, rfl, by decide +kernel⟩ ?hw ?hc
  case hw => w_witness2
  case hc =>
    refine L2.walk_ofE (l := PySem.Challenge.rw_waystaken_k06_takes_of_short_texts) (n := 63) (k := 25) (x := "_law_script") (CX := L2.CX0) rfl (by decide) (by kernel_rfl) ⟨rfl, by decide, by decide⟩ ?F (fun _ _ _ _ z => z)
    intro w mg fa h Y G hmg0
    obtain ⟨K, KX, c⟩ := Y
    have hmg : mg ("law" : PySem.Str) = some (.ref fa) := by
      have e : (HandSHeadRun.topDef (OpenLaw.row PySem.Challenge.rw_waystaken_k06_takes_of_short_texts).prog 52).name = ("law" : PySem.Str) := by kernel_rfl
      rw [← e]
      exact hmg0
    obtain ⟨fd, hb, hF⟩ := K06.facts (w := w) KX G hmg c
    exact ⟨K, fd, DL.LSp K DL.spTrue, KX, hb, fun H a ns hl _ hS => DL.law_start hl hS (fun _ => rfl), hF⟩
