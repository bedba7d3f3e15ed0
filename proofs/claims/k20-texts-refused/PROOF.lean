import PyProof.Rows.All
import Wide.All
import OpenK.AllK
import Wide.FinOn
import KE.KStateDown
import HandS.ForMost
import HandS.ForExc
import HandS.CallSlots
import HandS.More
import HandS.Defaults
import HandS.Star
import HandS.Style
import HandS.Deep
import HandS.IsInst
import HandS.FStr
import HandS.Text
import HandS.Replace
import HandS.RaiseMore
import Lean
import HandS.Ends
import HandS.Head0
import HandS.Head1
import HandS.Head2
import HandS.HeadEnd
import HandS.HeadHook1
import HandS.HeadHook2
import HandS.ExcInit
import HandS.ExcField
import HandS.TupAny
import PySem.Challenge.RW_selfchains_k20_texts_of_histories_refuse

section
set_option Elab.async false
set_option linter.all false
set_option maxRecDepth 100000
set_option maxHeartbeats 2000000
/-! DA: deep values, slots, the state relation, readings by functions of plain data. -/
namespace DL
open PySem L2
abbrev Frag := PySem.W.Frag

/-- a deep value -/
inductive D where
  | non | bl (b : Bool) | int (i : Int) | str (x : Str) | tup (xs : List D) | lst (xs : List D) | fz (xs : List D) | obj (C : Addr) (ns : List Str) (ds : List D) | ref (a : Addr) | ty (n : String)

mutual
inductive Rp (K : Frag) (H : Hp) : D → V → Prop
  | non : Rp K H .non .non
  | bl (b : Bool) : Rp K H (.bl b) (.bl b)
  | int (i : Int) : Rp K H (.int i) (.int i)
  | str (x : Str) : Rp K H (.str x) (.str x)
  | ref (a : Addr) : Rp K H (.ref a) (.ref a)
  | ty (n : String) : Rp K H (.ty n) (.ty n)
  | tup {a : Addr} {xs : List V} {ds : List D} : SqT K H a xs → RpA K H ds xs → Rp K H (.tup ds) (.ref a)
  | lst {a : Addr} {xs : List V} {ds : List D} : H a = some (.lst xs) → RpA K H ds xs → Rp K H (.lst ds) (.ref a)
  | fz {a : Addr} {xs : List V} {ds : List D} : SqL K H a xs → RpA K H ds xs → Rp K H (.fz ds) (.ref a)
  | obj {a C dx : Addr} {fs : List (Str × V)} {ds : List D} : H a = some (.ins C dx fs) → RpA K H ds (fs.map (·.2)) → Rp K H (.obj C (fs.map (·.1)) ds) (.ref a)
inductive RpA (K : Frag) (H : Hp) : List D → List V → Prop
  | nil : RpA K H [] []
  | cons {v : V} {vs : List V} {d : D} {ds : List D} : Rp K H d v → RpA K H ds vs → RpA K H (d :: ds) (v :: vs)
end

section
variable {K : Frag} {H H' : Hp}
theorem sqT_mono {a : Addr} {xs : List V} (e : Same H H') (h : SqT K H a xs) : SqT K H' a xs := by
  rcases h with (h | ⟨o, h⟩) | h
  · exact .inl (.inl (e _ _ h))
  · exact .inl (.inr ⟨o, e _ _ h⟩)
  · exact .inr h
mutual
theorem Rp.mono (e : Same H H') : ∀ {d : D} {v : V}, Rp K H d v → Rp K H' d v
  | _, _, .non => .non
  | _, _, .bl b => .bl b
  | _, _, .int i => .int i
  | _, _, .str x => .str x
  | _, _, .ref a => .ref a
  | _, _, .ty n => .ty n
  | _, _, .tup h r => .tup (sqT_mono e h) (RpA.mono e r)
  | _, _, .lst h r => .lst (e _ _ h) (RpA.mono e r)
  | _, _, .fz h r => .fz (e.seq h) (RpA.mono e r)
  | _, _, .obj h r => .obj (e _ _ h) (RpA.mono e r)
theorem RpA.mono (e : Same H H') : ∀ {ds : List D} {vs : List V}, RpA K H ds vs → RpA K H' ds vs
  | _, _, .nil => .nil
  | _, _, .cons h r => .cons (Rp.mono e h) (RpA.mono e r)
end
theorem RpA.length : ∀ {ds : List D} {vs : List V}, RpA K H ds vs → ds.length = vs.length
  | _, _, .nil => rfl
  | _, _, .cons _ r => congrArg Nat.succ r.length
theorem RpA.get : ∀ {ds : List D} {vs : List V} {i : Nat} {d : D}, RpA K H ds vs → ds[i]? = some d → ∃ v, vs[i]? = some v ∧ Rp K H d v
  | _, _, _, _, .nil, e => by simp at e
  | _, _, 0, _, .cons r _, e => by simp at e; subst e; exact ⟨_, rfl, r⟩
  | _, _, i + 1, d, .cons _ t, e => by
    obtain ⟨u, h1, h2⟩ := RpA.get (i := i) (d := d) t (by simpa using e)
    exact ⟨u, by simpa using h1, h2⟩
theorem RpA.append : ∀ {ds es : List D} {vs us : List V}, RpA K H ds vs → RpA K H es us → RpA K H (ds ++ es) (vs ++ us)
  | _, _, _, _, .nil, s => s
  | _, _, _, _, .cons r t, s => .cons r (RpA.append t s)
theorem RpA.take : ∀ {ds : List D} {vs : List V} (n : Nat), RpA K H ds vs → RpA K H (ds.take n) (vs.take n)
  | _, _, 0, _ => .nil
  | _, _, _ + 1, .nil => .nil
  | _, _, n + 1, .cons r t => .cons r (RpA.take n t)
theorem RpA.drop : ∀ {ds : List D} {vs : List V} (n : Nat), RpA K H ds vs → RpA K H (ds.drop n) (vs.drop n)
  | _, _, 0, r => r
  | _, _, _ + 1, .nil => .nil
  | _, _, n + 1, .cons _ t => RpA.drop n t
theorem RpA.set {d : D} {v : V} (r : Rp K H d v) : ∀ {ds : List D} {vs : List V} (i : Nat), RpA K H ds vs → RpA K H (ds.set i d) (vs.set i v)
  | _, _, _, .nil => .nil
  | _, _, 0, .cons _ t => .cons r t
  | _, _, i + 1, .cons q t => .cons q (RpA.set r i t)
theorem RpA.mem {ds : List D} {vs : List V} {v : V} : RpA K H ds vs → v ∈ vs → ∃ d ∈ ds, Rp K H d v
  | .cons r t, h => by
    rcases List.mem_cons.mp h with e | h
    · exact ⟨_, List.mem_cons_self, e ▸ r⟩
    · obtain ⟨d, hd, q⟩ := RpA.mem t h
      exact ⟨d, List.mem_cons_of_mem _ hd, q⟩
end

/-! ### slots -/
/-- an object that a slot has for itself -/
inductive Ob where
  | lst (ds : List D)
  | ins (C : Addr) (ns : List Str) (ds : List D)
/-- a slot: without a value; a shared value; an object of its own; an object of the caller's -/
inductive Sl where
  | un | sh (d : D) | ow (o : Ob) | rf (o : Ob)
abbrev Ev := List Sl
/-- what a run ends in -/
inductive Rs (α : Type) where
  | ok (e : Ev) (a : α) | er (e : Ev) (C : Addr) (fl : Str) (d : D) | no
@[reducible] def Rs.bind {α β : Type} (r : Rs α) (f : Ev → α → Rs β) : Rs β := match r with
  | .ok e a => f e a
  | .er e C fl d => .er e C fl d
  | .no => .no

def ObR (K : Frag) (H0 H : Hp) (a : Addr) : Ob → Prop
  | .lst ds => ∃ vs, H a = some (.lst vs) ∧ RpA K H0 ds vs
  | .ins C ns ds => ∃ dx fs, H a = some (.ins C dx fs) ∧ fs.map (·.1) = ns ∧ RpA K H0 ds (fs.map (·.2))
theorem ObR.some {K : Frag} {H0 H : Hp} {a : Addr} {o : Ob} (h : ObR K H0 H a o) : ∃ u, H a = some u := by
  cases o with
  | lst ds => obtain ⟨vs, e, _⟩ := h; exact ⟨_, e⟩
  | ins C ns ds => obtain ⟨dx, fs, e, _⟩ := h; exact ⟨_, e⟩
theorem ObR.mono {K : Frag} {H0 H1 H H' : Hp} {a : Addr} {o : Ob} (h : ObR K H0 H a o) (s : Same H0 H1) (k : H' a = H a) : ObR K H1 H' a o := by
  cases o with
  | lst ds => obtain ⟨vs, e, r⟩ := h; exact ⟨vs, k.trans e, r.mono s⟩
  | ins C ns ds => obtain ⟨dx, fs, e, n, r⟩ := h; exact ⟨dx, fs, k.trans e, n, r.mono s⟩

/-- where a def was entered: the shared heap, the whole one, the caller's objects by slot; fr: what else is to stand as it is -/
structure En where
  H0 : Hp
  H : Hp
  refs : List (Nat × Addr)
  fr : Hp := fun _ => none

def SlR (K : Frag) (E : En) (H0 H : Hp) (i : Nat) (x : Option (Option V)) : Sl → Prop
  | .un => True
  | .sh d => ∃ v, x = some (some v) ∧ Rp K H0 d v
  | .ow o => ∃ a, x = some (some (.ref a)) ∧ E.H a = none ∧ H0 a = none ∧ ObR K H0 H a o
  | .rf o => ∃ a, x = some (some (.ref a)) ∧ (i, a) ∈ E.refs ∧ H0 a = none ∧ ObR K H0 H a o
/-- slot i has the object at a for itself -/
def Has (σ : St) (env : Ev) (i : Nat) (a : Addr) : Prop := σ[i]? = some (some (.ref a)) ∧ ((∃ o, env[i]? = some (.ow o)) ∨ ∃ o, env[i]? = some (.rf o))

structure StR (K : Frag) (E : En) (H0 H : Hp) (σ : St) (env : Ev) : Prop where
  s0 : Same E.H0 H0
  s1 : Same H0 H
  old : ∀ a, E.H a ≠ none → H0 a = E.H0 a
  kept : ∀ a o, E.H a = some o → (∀ i, (i, a) ∉ E.refs) → H a = some o
  len : σ.length = env.length
  slot : ∀ i s, env[i]? = some s → SlR K E H0 H i (σ[i]?) s
  refs : ∀ i a, (i, a) ∈ E.refs → ∃ o, env[i]? = some (.rf o) ∧ σ[i]? = some (some (.ref a))
  apart : ∀ i j a, Has σ env i a → Has σ env j a → i = j
  frk : ∀ a o, E.fr a = some o → H a = some o ∧ H0 a = none ∧ ∀ i, ¬ Has σ env i a

section
variable {K : Frag} {E : En} {H0 H H1 H' : Hp} {σ : St} {env : Ev}
theorem StR.sh (S : StR K E H0 H σ env) {i : Nat} {d : D} (e : env[i]? = some (.sh d)) : ∃ v, σ[i]? = some (some v) ∧ Rp K H0 d v := S.slot i _ e
theorem StR.has (S : StR K E H0 H σ env) {i : Nat} {a : Addr} (h : Has σ env i a) : H0 a = none ∧ ∃ o, H a = some o := by
  obtain ⟨e, ⟨o, h⟩ | ⟨o, h⟩⟩ := h
  · obtain ⟨b, e', _, n, r⟩ := S.slot i _ h
    rw [e] at e'; cases e'
    exact ⟨n, r.some⟩
  · obtain ⟨b, e', _, n, r⟩ := S.slot i _ h
    rw [e] at e'; cases e'
    exact ⟨n, r.some⟩
theorem StR.live (S : StR K E H0 H σ env) {a : Addr} (n : H a = none) : E.H a = none := by
  cases q : E.H a with
  | none => rfl
  | some o =>
    by_cases h : ∀ i, (i, a) ∉ E.refs
    · rw [S.kept a o q h] at n; cases n
    · obtain ⟨i, hi⟩ := Classical.not_forall.mp h
      have hi := Classical.not_not.mp hi
      obtain ⟨ob, e1, e2⟩ := S.refs i a hi
      obtain ⟨_, u, hu⟩ := S.has (i := i) (a := a) ⟨e2, .inr ⟨ob, e1⟩⟩
      rw [hu] at n; cases n
/-- the heap changes but for the slots' own objects: no tracked thing changes, new ones may be shared -/
theorem StR.grow (S : StR K E H0 H σ env) (s0 : Same H0 H1) (s1 : Same H1 H') (sH : Same H H') (new : ∀ a, H a ≠ none → H1 a = H0 a) : StR K E H1 H' σ env where
  s0 := S.s0.trans s0
  s1 := s1
  old := fun a h => by
    by_cases q : H a = none
    · exact absurd (S.live q) h
    · rw [new a q]; exact S.old a h
  kept := fun a o e h => sH _ _ (S.kept a o e h)
  len := S.len
  slot := fun i s e => by
    have x := S.slot i s e
    cases s with
    | un => exact True.intro
    | sh d => obtain ⟨v, e1, r⟩ := x; exact ⟨v, e1, r.mono s0⟩
    | ow o =>
      obtain ⟨a, e1, n, n0, r⟩ := x
      obtain ⟨u, hu⟩ := r.some
      exact ⟨a, e1, n, by rw [new a (by rw [hu]; simp)]; exact n0, r.mono s0 (by rw [hu]; exact sH _ _ hu)⟩
    | rf o =>
      obtain ⟨a, e1, n, n0, r⟩ := x
      obtain ⟨u, hu⟩ := r.some
      exact ⟨a, e1, n, by rw [new a (by rw [hu]; simp)]; exact n0, r.mono s0 (by rw [hu]; exact sH _ _ hu)⟩
  refs := S.refs
  apart := S.apart
  frk := fun a o e => by
    obtain ⟨h1, h2, h3⟩ := S.frk a o e
    exact ⟨sH _ _ h1, by rw [new a (by rw [h1]; simp)]; exact h2, h3⟩
theorem same_upd {H : Hp} {p : Addr} {o : HO} (n : H p = none) : Same H (upd H p o) := fun b u e => by rw [upd_ne (ne_of_none e n)]; exact e
theorem same_upd2 {H0 H : Hp} {p : Addr} {o : HO} (s : Same H0 H) (n : H p = none) : Same (upd H0 p o) (upd H p o) := fun b u e => by
  by_cases q : b = p
  · subst q; rw [upd_same] at e ⊢; exact e
  · rw [upd_ne q] at e ⊢; exact s _ _ e
/-- a new object, shared -/
theorem StR.new (S : StR K E H0 H σ env) {p : Addr} (o : HO) (n : H p = none) : StR K E (upd H0 p o) (upd H p o) σ env :=
  S.grow (same_upd (S.s1.free n)) (same_upd2 S.s1 n) (same_upd n) fun a h => by
    rw [upd_ne]
    rintro rfl
    exact h n
theorem StR.same_new (S : StR K E H0 H σ env) {p : Addr} (o : HO) (n : H p = none) : Same H0 (upd H0 p o) := same_upd (S.s1.free n)
/-- a new object, not shared (garbage, or something that is tracked besides) -/
theorem StR.newU (S : StR K E H0 H σ env) {p : Addr} (o : HO) (n : H p = none) : StR K E H0 (upd H p o) σ env :=
  S.grow (Same.refl _) (S.s1.trans (same_upd n)) (same_upd n) fun a h => rfl
/-- nought or one new shared object -/
inductive Gr (H0 H : Hp) : Hp → Hp → Prop
  | refl : Gr H0 H H0 H
  | new {p : Addr} (o : HO) (n : H p = none) : Gr H0 H (upd H0 p o) (upd H p o)
theorem StR.gr (S : StR K E H0 H σ env) (g : Gr H0 H H1 H') : Same H0 H1 ∧ StR K E H1 H' σ env := by
  cases g with
  | refl => exact ⟨Same.refl _, S⟩
  | new o n => exact ⟨S.same_new o n, S.new o n⟩
theorem Gr.same (g : Gr H0 H H1 H') (s : Same H0 H) : Same H1 H' := by
  cases g with
  | refl => exact s
  | new o n => exact same_upd2 s n
end

/-! ### readings -/
/-- what a def hands back: a shared value, a new list that is nobody's yet -/
inductive Dr where
  | sh (d : D) | fr (ds : List D)
inductive Fl where
  | nx | rt (d : Dr) | bk | ct
/-- ties a datum to a value, at a state -/
abbrev RelT (α β : Type) := En → St → Ev → Hp → Hp → α → β → Prop
abbrev RD (K : Frag) : RelT D V := fun _ _ _ H1 _ d v => Rp K H1 d v
abbrev RA (K : Frag) : RelT (List D) (List V) := fun _ _ _ H1 _ d v => RpA K H1 d v
abbrev RB : RelT Bool Bool := fun _ _ _ _ _ a b => a = b
/-- a new list, nobody's yet -/
def RF (K : Frag) : RelT (List D) V := fun E σ env H1 H' ds v => ∃ a vs, v = .ref a ∧ H1 a = none ∧ E.H a = none ∧ E.fr a = none ∧ (∀ i, ¬ Has σ env i a) ∧ H' a = some (.lst vs) ∧ RpA K H1 ds vs
def RDr (K : Frag) : RelT Dr V := fun E σ env H1 H' r v => match r with
  | .sh d => Rp K H1 d v
  | .fr ds => RF K E σ env H1 H' ds v
/-- what is wanted of a run's end: R ties the datum to the value -/
def Post {α β : Type} (K : Frag) (W : WX) (R : RelT α β) (E : En) (H0 : Hp) (σ : St) (Q : β → Hp → Prop) : Rs α → Prop
  | .ok env' a => ∀ b H1 H', Same H0 H1 → StR K E H1 H' σ env' → R E σ env' H1 H' a b → Q b H'
  | .er env' C fl d => ∀ v dd H1 H', Same H0 H1 → StR K E H1 H' σ env' → Rp K H1 d v → H1 dd = some (.xd [(fl, v)]) → W (.ref C) (some dd) σ H'
  | .no => False
def WP {α β : Type} (K : Frag) (W : WX) (R : RelT α β) (f : Ev → Rs α) : St → Hp → (β → Hp → Prop) → Prop :=
  fun σ H Q => ∃ E H0 env, StR K E H0 H σ env ∧ Post K W R E H0 σ Q (f env)
abbrev tDE (K : Frag) (W : WX) (f : Ev → Rs D) : TE := WP K W (RD K) f
abbrev tDT (K : Frag) (W : WX) (f : Ev → Rs Bool) : TT := WP K W RB f
abbrev tDA (K : Frag) (W : WX) (f : Ev → Rs (List D)) : TA := WP K W (RA K) f
/-- .. of a statement's end -/
def PostS (K : Frag) (W : WX) (E : En) (H0 : Hp) (N : Ends) : Rs Fl → Prop
  | .ok env' .nx => ∀ σ' H1 H', Same H0 H1 → StR K E H1 H' σ' env' → N.nx σ' H'
  | .ok env' (.rt d) => ∀ v σ' H1 H', Same H0 H1 → StR K E H1 H' σ' env' → RDr K E σ' env' H1 H' d v → N.rt v H'
  | .ok env' .bk => ∀ σ' H1 H', Same H0 H1 → StR K E H1 H' σ' env' → N.bk σ' H'
  | .ok env' .ct => ∀ σ' H1 H', Same H0 H1 → StR K E H1 H' σ' env' → N.ct σ' H'
  | .er env' C fl d => ∀ v dd σ' H1 H', Same H0 H1 → StR K E H1 H' σ' env' → Rp K H1 d v → H1 dd = some (.xd [(fl, v)]) → W (.ref C) (some dd) σ' H'
  | .no => False
def tDS (K : Frag) (W : WX) (f : Ev → Rs Fl) : TS := fun N σ H => ∃ E H0 env, StR K E H0 H σ env ∧ PostS K W E H0 N (f env)

section
variable {K : Frag} {W : WX} {E : En} {H0 H1 H : Hp} {σ : St} {env : Ev} {α β γ δ : Type} {R : RelT α β} {R' : RelT γ δ}
theorem Post.up {Q : β → Hp → Prop} (s : Same H0 H1) : ∀ {r : Rs α}, Post K W R E H0 σ Q r → Post K W R E H1 σ Q r
  | .ok _ _, h => fun b G H' s1 S r => h b G H' (s.trans s1) S r
  | .er _ _ _ _, h => fun v dd G H' s1 S r => h v dd G H' (s.trans s1) S r
  | .no, h => h
theorem PostS.up {N : Ends} (s : Same H0 H1) : ∀ {r : Rs Fl}, PostS K W E H0 N r → PostS K W E H1 N r
  | .ok _ .nx, h => fun σ' G H' s1 => h σ' G H' (s.trans s1)
  | .ok _ (.rt _), h => fun v σ' G H' s1 => h v σ' G H' (s.trans s1)
  | .ok _ .bk, h => fun σ' G H' s1 => h σ' G H' (s.trans s1)
  | .ok _ .ct, h => fun σ' G H' s1 => h σ' G H' (s.trans s1)
  | .er _ _ _ _, h => fun v dd σ' G H' s1 => h v dd σ' G H' (s.trans s1)
  | .no, h => h
/-- a reading in a row with what follows -/
theorem WP.bind {f : Ev → Rs α} {k : Ev → α → Rs γ} {Q : δ → Hp → Prop} {Q' : β → Hp → Prop} (S : StR K E H0 H σ env) (h : Post K W R' E H0 σ Q ((f env).bind k))
    (hk : ∀ env' a b H1 H', StR K E H1 H' σ env' → Same H0 H1 → R E σ env' H1 H' a b → Post K W R' E H1 σ Q (k env' a) → Q' b H') : WP K W R f σ H Q' := by
  refine ⟨E, H0, env, S, ?_⟩
  cases e : f env with
  | ok env' a =>
    rw [e] at h
    exact fun b H1 H' s S' r => hk env' a b H1 H' S' s r (h.up s)
  | er env' C fl d =>
    rw [e] at h
    exact h
  | no =>
    rw [e] at h
    exact h
/-- .. with a statement's rest -/
theorem WP.bindS {f : Ev → Rs α} {k : Ev → α → Rs Fl} {N : Ends} {Q' : β → Hp → Prop} (S : StR K E H0 H σ env) (h : PostS K W E H0 N ((f env).bind k))
    (hk : ∀ env' a b H1 H', StR K E H1 H' σ env' → Same H0 H1 → R E σ env' H1 H' a b → PostS K W E H1 N (k env' a) → Q' b H') : WP K W R f σ H Q' := by
  refine ⟨E, H0, env, S, ?_⟩
  cases e : f env with
  | ok env' a =>
    rw [e] at h
    exact fun b H1 H' s S' r => hk env' a b H1 H' S' s r (h.up s)
  | er env' C fl d =>
    rw [e] at h
    exact fun v dd H1 H' => h v dd σ H1 H'
  | no =>
    rw [e] at h
    exact h
end
/-- a value, or a stop -/
@[reducible] def lift {α : Type} (e : Ev) : Option α → Rs α
  | some a => .ok e a
  | none => .no
section
variable {X : Cx} {W : WX} {K : Frag}
theorem pe_mono {e : Expr} {t t' : TE} (h : PE X e t) (m : ∀ σ H Q, t' σ H Q → t σ H Q) : PE X e t' := ⟨fun pins s σ H Q I q => h.run pins s σ H Q I (m σ H Q q)⟩
theorem pt_mono {e : Expr} {t t' : TT} (h : PT X e t) (m : ∀ σ H Q, t' σ H Q → t σ H Q) : PT X e t' := ⟨fun pins s σ H Q I q => h.run pins s σ H Q I (m σ H Q q)⟩
theorem pw_mono {e : Expr} {t t' : TT} (h : PW X e t) (m : ∀ σ H Q, t' σ H Q → t σ H Q) : PW X e t' := ⟨fun wh pins s σ H Q I q => h.run wh pins s σ H Q I (m σ H Q q)⟩
theorem pa_mono {e : List Expr} {t t' : TA} (h : PA X e t) (m : ∀ σ H Q, t' σ H Q → t σ H Q) : PA X e t' := ⟨fun pos pins s σ H Q I q => h.run pos pins s σ H Q I (m σ H Q q)⟩
theorem ps_mono {e : Stmt} {t t' : TS} (h : PS X e t) (m : ∀ N σ H, t' N σ H → t N σ H) : PS X e t' := ⟨fun pins s σ H N I q => h.run pins s σ H N I (m N σ H q)⟩
theorem pss_mono {e : List Stmt} {t t' : TS} (h : PSs X e t) (m : ∀ N σ H, t' N σ H → t N σ H) : PSs X e t' := ⟨fun pins s σ H N I q => h.run pins s σ H N I (m N σ H q)⟩
end
abbrev DE (X : Cx) (W : WX) (e : Expr) (f : Ev → Rs D) : Prop := PE X e (tDE X.K W f)
abbrev DT (X : Cx) (W : WX) (e : Expr) (f : Ev → Rs Bool) : Prop := PT X e (tDT X.K W f)
abbrev DW (X : Cx) (W : WX) (e : Expr) (f : Ev → Rs Bool) : Prop := PW X e (tDT X.K W f)
abbrev DA (X : Cx) (W : WX) (es : List Expr) (f : Ev → Rs (List D)) : Prop := PA X es (tDA X.K W f)
abbrev DS (X : Cx) (W : WX) (st : Stmt) (f : Ev → Rs Fl) : Prop := PS X st (tDS X.K W f)
abbrev DSs (X : Cx) (W : WX) (st : List Stmt) (f : Ev → Rs Fl) : Prop := PSs X st (tDS X.K W f)

/-! ### the first rules -/
def fVar (i : Nat) (env : Ev) : Rs D := match env[i]? with
  | some (.sh d) => .ok env d
  | _ => .no
def fC (d : D) (env : Ev) : Rs D := .ok env d
@[reducible] def f1 (g : D → Option D) (fa : Ev → Rs D) (env : Ev) : Rs D := (fa env).bind fun e x => lift e (g x)
@[reducible] def f2 (g : D → D → Option D) (fa fb : Ev → Rs D) (env : Ev) : Rs D := (fa env).bind fun e x => (fb e).bind fun e' y => lift e' (g x y)
@[reducible] def fNil (env : Ev) : Rs (List D) := .ok env []
@[reducible] def fCons (fa : Ev → Rs D) (fr : Ev → Rs (List D)) (env : Ev) : Rs (List D) := (fa env).bind fun e x => (fr e).bind fun e' xs => .ok e' (x :: xs)
/-- by values: an operation keeps to a function of the data -/
def V1 (K : Frag) (r : V → Hp → VK → Prop) (g : D → Option D) : Prop := ∀ (H0 H : Hp) (x d : D) (v : V) (Q : VK), Same H0 H → Rp K H0 x v → g x = some d → (∀ v' H1 H', Gr H0 H H1 H' → Rp K H1 d v' → Q v' H') → r v H Q
def V2 (K : Frag) (r : V → V → Hp → VK → Prop) (g : D → D → Option D) : Prop := ∀ (H0 H : Hp) (x y d : D) (v u : V) (Q : VK), Same H0 H → Rp K H0 x v → Rp K H0 y u → g x y = some d → (∀ v' H1 H', Gr H0 H H1 H' → Rp K H1 d v' → Q v' H') → r v u H Q
def VN (K : Frag) (r : List V → Hp → VK → Prop) (g : List D → Option D) : Prop := ∀ (H0 H : Hp) (xs : List D) (d : D) (vs : List V) (Q : VK), Same H0 H → RpA K H0 xs vs → g xs = some d → (∀ v' H1 H', Gr H0 H H1 H' → Rp K H1 d v' → Q v' H') → r vs H Q
section
variable {X : Cx} {W : WX} {K : Frag} {E : En} {H0 H : Hp} {σ : St} {env : Ev}
theorem Post.fin {Q : VK} {o : Option D} (S : StR K E H0 H σ env) (h : Post K W (RD K) E H0 σ Q (lift env o)) {P : Prop} (k : ∀ d, o = some d → (∀ v' H1 H', Gr H0 H H1 H' → Rp K H1 d v' → Q v' H') → P) : P := by
  cases o with
  | none => exact (show False from h).elim
  | some d => exact k d rfl fun v' H1 H' g r => let ⟨s, S'⟩ := S.gr g; h v' H1 H' s S' r
theorem Post.here {α β : Type} {R : RelT α β} {Q : β → Hp → Prop} {a : α} (S : StR K E H0 H σ env) (h : Post K W R E H0 σ Q (.ok env a)) {b : β} (r : R E σ env H0 H a b) : Q b H := h b H0 H (Same.refl _) S r
theorem de_var {i : Nat} {x : Str} {pos : Pos} (hN : X.N[i]? = some x := by rfl) (hv : Vis X.env.scope x := by first | exact Or.inl rfl | exact Or.inr (Or.inl rfl) | exact Or.inr (Or.inr rfl)) (hd : (x == ("__debug__" : Str)) = false := by decide)
    (hcd : (x == ("__classdict__" : Str)) = false := by decide) : DE X W (.Name x pos) (fVar i) := by
  refine pe_mono (pe_var hN hv hd hcd) fun σ H Q h => ?_
  obtain ⟨E, H0, env, S, h⟩ := h
  unfold fVar at h
  split at h
  · rename_i d e
    obtain ⟨v, e1, r⟩ := S.sh e
    exact ⟨v, e1, Post.here S h r⟩
  · exact (show False from h).elim
theorem de_c {e : Expr} {v : V} {d : D} (h : PE X e (tC v)) (r : ∀ H, Rp X.K H d v) : DE X W e (fC d) := by
  refine pe_mono h fun σ H Q q => ?_
  obtain ⟨E, H0, env, S, q⟩ := q
  exact Post.here S q (r _)
theorem de_int {i j pos} : DE X W (.Constant (.int i) j pos) (fC (.int i)) := de_c pe_int fun _ => .int i
theorem de_bl {b j pos} : DE X W (.Constant (.bool b) j pos) (fC (.bl b)) := de_c pe_bl fun _ => .bl b
theorem de_non {j pos} : DE X W (.Constant .none j pos) (fC .non) := de_c pe_non fun _ => .non
theorem de_str {x j pos} : DE X W (.Constant (.str x) j pos) (fC (.str x)) := de_c pe_str fun _ => .str x
theorem da_nil : DA X W [] fNil := pa_mono pa_nil fun σ H Q q => by
  obtain ⟨E, H0, env, S, q⟩ := q
  exact Post.here S q .nil
theorem da_cons {e : Expr} {es : List Expr} {fa : Ev → Rs D} {fr : Ev → Rs (List D)} (ha : DE X W e fa) (hr : DA X W es fr) (hs : starEach (e :: es) X.env = (false, eval e X.env) :: starEach es X.env := by rfl) : DA X W (e :: es) (fCons fa fr) := by
  refine pa_mono (pa_cons ha hr hs) fun σ H Q q => ?_
  obtain ⟨E, H0, env, S, q⟩ := q
  exact WP.bind S q fun e1 x v H1 H' S1 s1 r1 q1 => WP.bind S1 q1 fun e2 xs vs H2 H'' S2 s2 r2 q2 => Post.here S2 q2 (.cons (r1.mono s2) r2)
theorem de_op {op : Operator} {a b : Expr} {fa fb : Ev → Rs D} {r : R2} {g : D → D → Option D} {pos : Pos} (ho : OpR X (binaryOp op) r) (hv : V2 X.K r g) (ha : DE X W a fa) (hb : DE X W b fb) : DE X W (.BinOp a op b pos) (f2 g fa fb) := by
  refine pe_mono (pe_op ho ha hb) fun σ H Q q => ?_
  obtain ⟨E, H0, env, S, q⟩ := q
  exact WP.bind S q fun e1 x v H1 H' S1 s1 r1 q1 => WP.bind S1 q1 fun e2 y u H2 H'' S2 s2 r2 q2 => q2.fin S2 fun d ed k => hv H2 H'' x y d v u Q S2.s1 (r1.mono s2) r2 ed k
theorem de_cmp {op : CmpOp} {a b : Expr} {fa fb : Ev → Rs D} {r : R2} {g : D → D → Option D} {pos : Pos} (ho : OpR X (compareOp op) r) (hv : V2 X.K r g) (ha : DE X W a fa) (hb : DE X W b fb) (hm : behindInMarks op b = false := by first | exact nomark _ | rfl | with_unfolding_all rfl) : DE X W (.Compare a [op] [b] pos) (f2 g fa fb) := by
  refine pe_mono (pe_cmpR ho ha hb hm) fun σ H Q q => ?_
  obtain ⟨E, H0, env, S, q⟩ := q
  exact WP.bind S q fun e1 x v H1 H' S1 s1 r1 q1 => WP.bind S1 q1 fun e2 y u H2 H'' S2 s2 r2 q2 => q2.fin S2 fun d ed k => hv H2 H'' x y d v u Q S2.s1 (r1.mono s2) r2 ed k
theorem de_ix {a b : Expr} {fa fb : Ev → Rs D} {r : R2} {g : D → D → Option D} {pos : Pos} (ho : IxR X r) (hv : V2 X.K r g) (ha : DE X W a fa) (hb : DE X W b fb) (hs : PlainIx b := by exact fun _ _ => rfl) : DE X W (.Subscript a b pos) (f2 g fa fb) := by
  refine pe_mono (pe_ix ho ha hb hs) fun σ H Q q => ?_
  obtain ⟨E, H0, env, S, q⟩ := q
  exact WP.bind S q fun e1 x v H1 H' S1 s1 r1 q1 => WP.bind S1 q1 fun e2 y u H2 H'' S2 s2 r2 q2 => q2.fin S2 fun d ed k => hv H2 H'' x y d v u Q S2.s1 (r1.mono s2) r2 ed k
@[reducible] def fN (g : List D → Option D) (fa : Ev → Rs (List D)) (env : Ev) : Rs D := (fa env).bind fun e xs => lift e (g xs)
theorem de_N {e : Expr} {es : List Expr} {fa : Ev → Rs (List D)} {r : List V → Hp → VK → Prop} {g : List D → Option D} (hv : VN X.K r g) (ha : DA X W es fa) (h : PE X e (tCB r (tDA X.K W fa))) : DE X W e (fN g fa) := by
  refine pe_mono h fun σ H Q q => ?_
  obtain ⟨E, H0, env, S, q⟩ := q
  exact WP.bind S q fun e1 xs vs H1 H' S1 s1 r1 q1 => q1.fin S1 fun d ed k => hv H1 H' xs d vs Q S1.s1 r1 ed k
theorem de_callB {x : Str} {p pos : Pos} {e : Expr} {es : List Expr} {fa : Ev → Rs (List D)} {id : String} {r : List V → Hp → VK → Prop} {g : List D → Option D} (hc : CallR X (.builtin id) r) (hv : VN X.K r g) (hm : X.mg x = none) (hb : bootBuiltins x = some (.builtin id)) (ha : DA X W (e :: es) fa) (hg : Gl X x := by rfl) (hn : x ≠ "__name__" := by decide) (hdb : (x == ("__debug__" : Str)) = false := by decide)
    (he : starEach (e :: es) X.env = (false, eval e X.env) :: starEach es X.env := by rfl) (hpl : (backTo pos (starEach es X.env)).any (·.1) = false := by rfl) : DE X W (.Call (.Name x p) (e :: es) [] pos) (fN g fa) :=
  de_N hv ha (pe_callB hc hg hm hb ha hn hdb he hpl)
theorem de_callTy {x : Str} {p pos : Pos} {e : Expr} {es : List Expr} {fa : Ev → Rs (List D)} {T : String} {r : List V → Hp → VK → Prop} {g : List D → Option D} (hc : CallR X (.type T) r) (hv : VN X.K r g) (hm : X.mg x = none) (hb : bootBuiltins x = some (.type T)) (ha : DA X W (e :: es) fa) (hg : Gl X x := by rfl) (hn : x ≠ "__name__" := by decide) (hdb : (x == ("__debug__" : Str)) = false := by decide)
    (he : starEach (e :: es) X.env = (false, eval e X.env) :: starEach es X.env := by rfl) (hpl : (backTo pos (starEach es X.env)).any (·.1) = false := by rfl) : DE X W (.Call (.Name x p) (e :: es) [] pos) (fN g fa) :=
  de_N hv ha (pe_callTy hc hg hm hb ha hn hdb he hpl)
/-- displays -/
def gTup (ds : List D) : Option D := if ds.length ≤ 1000 then some (.tup ds) else none
def gLst (ds : List D) : Option D := if ds.length ≤ 1000 then some (.lst ds) else none
theorem le_line {n : Nat} (h : n ≤ 1000) : n ≤ sizeLine := Nat.le_of_lt (small1000 h)
theorem vn_tup : VN K (fun xs H Q => xs.length ≤ sizeLine ∧ ∀ p, H p = none → Q (.ref p) (upd H p (.tup xs))) gTup := by
  intro H0 H xs d vs Q s r e k
  unfold gTup at e
  split at e
  · rename_i hz
    cases e
    refine ⟨by rw [← r.length]; exact le_line hz, fun p n => k _ _ _ (.new (.tup vs) n) (.tup (SqT.of upd_same) (r.mono (same_upd (s.free n))))⟩
  · cases e
theorem vn_lst : VN K (fun xs H Q => xs.length ≤ sizeLine ∧ ∀ p, H p = none → Q (.ref p) (upd H p (.lst xs))) gLst := by
  intro H0 H xs d vs Q s r e k
  unfold gLst at e
  split at e
  · rename_i hz
    cases e
    refine ⟨by rw [← r.length]; exact le_line hz, fun p n => k _ _ _ (.new (.lst vs) n) (.lst upd_same (r.mono (same_upd (s.free n))))⟩
  · cases e
theorem de_tup {es : List Expr} {fa : Ev → Rs (List D)} {x1} {pos : Pos} (ha : DA X W es fa) : DE X W (.Tuple es x1 pos) (fN gTup fa) := de_N vn_tup ha (pe_tup ha)
theorem de_lst {es : List Expr} {fa : Ev → Rs (List D)} {pos : Pos} (ha : DA X W es fa) : DE X W (.List es pos) (fN gLst fa) := de_N vn_lst ha (pe_lst ha)
end
end DL

end

section
set_option Elab.async false
set_option linter.all false
set_option maxRecDepth 100000
set_option maxHeartbeats 2000000
/-! DB: tests, statements, slots, loops, comprehensions. -/
namespace DL
open PySem L2
/-- what a body's rules lean on -/
structure Bd (X : Cx) (W : WX) (k : Nat) : Prop where
  tk : Takes X W
  hp : PassesOwn (model X.prog X.w) X.A X.env X.xe
  hc : X.calm = true
  nd : X.N.Nodup
  hr : Room k X.A
abbrev W0 : WX := fun _ _ _ _ => False

/-! ### tests -/
@[reducible] def fTest (fa : Ev → Rs D) (env : Ev) : Rs Bool := (fa env).bind fun e x => match x with
  | .bl b => .ok e b
  | _ => .no
@[reducible] def fAnd (fa fb : Ev → Rs Bool) (env : Ev) : Rs Bool := (fa env).bind fun e b => if b = true then fb e else .ok e false
@[reducible] def fOr (fa fb : Ev → Rs Bool) (env : Ev) : Rs Bool := (fa env).bind fun e b => if b = true then .ok e true else fb e
@[reducible] def fNot (fa : Ev → Rs Bool) (env : Ev) : Rs Bool := (fa env).bind fun e b => .ok e (!b)
@[reducible] def fIf (fc : Ev → Rs Bool) (fa fb : Ev → Rs D) (env : Ev) : Rs D := (fc env).bind fun e b => if b = true then fa e else fb e
@[reducible] def fBl (fa : Ev → Rs Bool) (env : Ev) : Rs D := (fa env).bind fun e b => .ok e (.bl b)
section
variable {X : Cx} {W : WX} {a b c : Expr} {rest : List Expr} {fa fb : Ev → Rs D} {ga gb gc : Ev → Rs Bool} {pos : Pos}
theorem rp_bl {K : Frag} {H : Hp} {b : Bool} {v : V} (r : Rp K H (.bl b) v) : v = .bl b := by cases r; rfl
theorem rp_int {K : Frag} {H : Hp} {b : Int} {v : V} (r : Rp K H (.int b) v) : v = .int b := by cases r; rfl
theorem rp_str {K : Frag} {H : Hp} {b : Str} {v : V} (r : Rp K H (.str b) v) : v = .str b := by cases r; rfl
theorem rp_non {K : Frag} {H : Hp} {v : V} (r : Rp K H .non v) : v = .non := by cases r; rfl
/-- a value that is a bool, as a test -/
theorem dt_of {e : Expr} (h : PT X e (tB (tDE X.K W fa))) : DT X W e (fTest fa) := by
  refine pt_mono h fun σ H Q q => ?_
  obtain ⟨E, H0, env, S, q⟩ := q
  refine WP.bind S q fun e1 x v H1 H' S1 s1 r1 q1 => ?_
  cases x with
  | bl b => exact ⟨b, rp_bl r1, Post.here S1 q1 rfl⟩
  | _ => exact (show False from q1).elim
theorem dt_val (h : DE X W a fa) (he : ∀ whole, isTrue a X.env whole = (do let v ← whole; standAt a.pos; holding [v] (truthy v)) := by intro _; rfl) : DT X W a (fTest fa) := dt_of (pt_val h he)
theorem dt_cmp {op : CmpOp} {r : R2} {g : D → D → Option D} (ho : OpR X (compareOp op) r) (hv : V2 X.K r g) (ha : DE X W a fa) (hb : DE X W b fb) (hm : behindInMarks op b = false := by first | exact nomark _ | rfl | with_unfolding_all rfl) : DT X W (.Compare a [op] [b] pos) (fTest (f2 g fa fb)) := by
  refine pt_mono (pt_cmpR ho ha hb hm) fun σ H Q q => ?_
  obtain ⟨E, H0, env, S, q⟩ := q
  have q' : Post X.K W RB E H0 σ Q ((fa env).bind fun e x => ((fb e).bind fun e' y => (lift e' (g x y))).bind fun e x => match x with | .bl b => .ok e b | _ => .no) := by
    cases h : fa env with
    | ok e x => simpa only [fTest, f2, h] using q
    | er => simpa only [fTest, f2, h] using q
    | no => simpa only [fTest, f2, h] using q
  refine WP.bind S q' fun e1 x v H1 H' S1 s1 r1 q1 => ?_
  have q1' : Post X.K W RB E H1 σ Q ((fb e1).bind fun e' y => (lift e' (g x y)).bind fun e x => match x with | .bl b => .ok e b | _ => .no) := by
    cases h : fb e1 with
    | ok e x => simpa only [h] using q1
    | er => simpa only [h] using q1
    | no => simpa only [h] using q1
  refine WP.bind S1 q1' fun e2 y u H2 H'' S2 s2 r2 q2 => ?_
  cases h : g x y with
  | none =>
    rw [h] at q2
    exact (show False from q2).elim
  | some d =>
    rw [h] at q2
    refine hv H2 H'' x y d v u _ S2.s1 (r1.mono s2) r2 h fun v' G G' gr r' => ?_
    obtain ⟨s3, S3⟩ := S2.gr gr
    cases d with
    | bl b => exact ⟨b, rp_bl r', Post.here S3 (Post.up s3 (show Post X.K W RB E H2 σ Q (.ok e2 b) from q2)) rfl⟩
    | _ => exact (show False from q2).elim
theorem dw_and1 (ha : DT X W a ga) : DW X W (.BoolOp .And [a] pos) ga := pw_and1 ha
theorem dw_or1 (ha : DT X W a ga) : DW X W (.BoolOp .Or [a] pos) ga := pw_or1 ha
theorem dw_and (ha : DT X W a ga) (hb : DW X W (.BoolOp .And (b :: rest) pos) gb) : DW X W (.BoolOp .And (a :: b :: rest) pos) (fAnd ga gb) := by
  refine pw_mono (pw_and ha hb) fun σ H Q q => ?_
  obtain ⟨E, H0, env, S, q⟩ := q
  refine WP.bind S q fun e1 x v H1 H' S1 s1 r1 q1 => ?_
  have r1 : x = v := r1
  subst r1
  cases x with
  | true => exact iteT ⟨E, H1, e1, S1, q1⟩
  | false => exact iteF (Post.here S1 q1 rfl)
theorem dw_or (ha : DT X W a ga) (hb : DW X W (.BoolOp .Or (b :: rest) pos) gb) : DW X W (.BoolOp .Or (a :: b :: rest) pos) (fOr ga gb) := by
  refine pw_mono (pw_or ha hb) fun σ H Q q => ?_
  obtain ⟨E, H0, env, S, q⟩ := q
  refine WP.bind S q fun e1 x v H1 H' S1 s1 r1 q1 => ?_
  have r1 : x = v := r1
  subst r1
  cases x with
  | true => exact iteT (Post.here S1 q1 rfl)
  | false => exact iteF ⟨E, H1, e1, S1, q1⟩
theorem dt_not (ha : DT X W a ga) : DT X W (.UnaryOp .Not a pos) (fNot ga) := by
  refine pt_mono (pt_not ha) fun σ H Q q => ?_
  obtain ⟨E, H0, env, S, q⟩ := q
  refine WP.bind S q fun e1 x v H1 H' S1 s1 r1 q1 => ?_
  have r1 : x = v := r1
  subst r1
  exact Post.here S1 q1 rfl
theorem de_if (hc : DT X W c gc) (ha : DE X W a fa) (hb : DE X W b fb) : DE X W (.IfExp c a b pos) (fIf gc fa fb) := by
  refine pe_mono (pe_ifExp hc ha hb) fun σ H Q q => ?_
  obtain ⟨E, H0, env, S, q⟩ := q
  refine WP.bind S q fun e1 x v H1 H' S1 s1 r1 q1 => ?_
  have r1 : x = v := r1
  subst r1
  cases x with
  | true => exact iteT ⟨E, H1, e1, S1, q1⟩
  | false => exact iteF ⟨E, H1, e1, S1, q1⟩
/-- as values: all are bools -/
@[reducible] def fAndV (fa fb : Ev → Rs D) (env : Ev) : Rs D := (fa env).bind fun e x => match x with
  | .bl true => fb e
  | .bl false => .ok e (.bl false)
  | _ => .no
@[reducible] def fOrV (fa fb : Ev → Rs D) (env : Ev) : Rs D := (fa env).bind fun e x => match x with
  | .bl true => .ok e (.bl true)
  | .bl false => fb e
  | _ => .no
@[reducible] def fNotV (fa : Ev → Rs D) (env : Ev) : Rs D := (fa env).bind fun e x => match x with
  | .bl b => .ok e (.bl (!b))
  | _ => .no
theorem de_one {op} (h : DE X W a fa) : DE X W (.BoolOp op [a] pos) fa := pe_one h
theorem de_and (ha : DE X W a fa) (hb : DE X W (.BoolOp .And (b :: rest) pos) fb) : DE X W (.BoolOp .And (a :: b :: rest) pos) (fAndV fa fb) := by
  refine pe_mono (pe_and ha hb) fun σ H Q q => ?_
  obtain ⟨E, H0, env, S, q⟩ := q
  refine WP.bind S q fun e1 x v H1 H' S1 s1 r1 q1 => ?_
  cases x with
  | bl c =>
    refine ⟨c, rp_bl r1, ?_⟩
    cases c with
    | true => exact iteT ⟨E, H1, e1, S1, q1⟩
    | false => exact iteF (Post.here S1 q1 (.bl false))
  | _ => exact (show False from q1).elim
theorem de_or (ha : DE X W a fa) (hb : DE X W (.BoolOp .Or (b :: rest) pos) fb) : DE X W (.BoolOp .Or (a :: b :: rest) pos) (fOrV fa fb) := by
  refine pe_mono (pe_or ha hb) fun σ H Q q => ?_
  obtain ⟨E, H0, env, S, q⟩ := q
  refine WP.bind S q fun e1 x v H1 H' S1 s1 r1 q1 => ?_
  cases x with
  | bl c =>
    refine ⟨c, rp_bl r1, ?_⟩
    cases c with
    | true => exact iteT (Post.here S1 q1 (.bl true))
    | false => exact iteF ⟨E, H1, e1, S1, q1⟩
  | _ => exact (show False from q1).elim
theorem de_not (ha : DE X W a fa) : DE X W (.UnaryOp .Not a pos) (fNotV fa) := by
  refine pe_mono (pe_not ha) fun σ H Q q => ?_
  obtain ⟨E, H0, env, S, q⟩ := q
  refine WP.bind S q fun e1 x v H1 H' S1 s1 r1 q1 => ?_
  cases x with
  | bl c => exact ⟨c, rp_bl r1, Post.here S1 q1 (.bl (!c))⟩
  | _ => exact (show False from q1).elim
end

/-! ### slots -/
section
variable {K : Frag} {E : En} {H0 H H1 H' : Hp} {σ : St} {env : Ev}
theorem get_set {α : Type} {l : List α} {i j : Nat} {x : α} (h : i < l.length) : (l.set i x)[j]? = if j = i then some x else l[j]? := by
  by_cases e : j = i
  · subst e; rw [if_pos rfl, List.getElem?_set_self h]
  · rw [if_neg e, List.getElem?_set_ne (Ne.symm e)]
/-- what a slot may be put instead of: not a caller's object -/
def free : Option Sl → Bool
  | some (.rf _) => false
  | some _ => true
  | none => false
theorem free_lt {i : Nat} (h : free env[i]? = true) : i < env.length := by
  by_cases q : i < env.length
  · exact q
  · rw [List.getElem?_eq_none (by omega)] at h; cases h
theorem has_set {i j : Nat} {a : Addr} {v : Option V} {s : Sl} (hl : σ.length = env.length) (hi : i < env.length) (hj : j ≠ i) : Has (σ.set i v) (env.set i s) j a ↔ Has σ env j a := by
  unfold Has
  rw [get_set (by omega), get_set hi, if_neg hj, if_neg hj]
theorem StR.put (S : StR K E H0 H σ env) {i : Nat} (hf : free env[i]? = true) {v : V} {s : Sl} (hs : SlR K E H0 H i (some (some v)) s) (ha : ∀ a, v = .ref a → (∃ o, s = .ow o) → ∀ j, ¬ Has σ env j a)
    (hnr : ∀ o, s ≠ .rf o) (hfr : ∀ a o, v = .ref a → s = .ow o → E.fr a = none) : StR K E H0 H (σ.set i (some v)) (env.set i s) := by
  have hi := free_lt hf
  have hl := S.len
  refine { S with len := by simp [hl], slot := fun j t e => ?_, refs := fun j a h => ?_, apart := fun j k a h1 h2 => ?_, frk := fun a o h => ?_ }
  · rw [get_set hi] at e
    rw [get_set (by omega)]
    by_cases q : j = i
    · subst q
      rw [if_pos rfl] at e ⊢
      cases e
      exact hs
    · rw [if_neg q] at e ⊢
      exact S.slot j t e
  · obtain ⟨o, e1, e2⟩ := S.refs j a h
    have q : j ≠ i := by rintro rfl; rw [e1] at hf; cases hf
    exact ⟨o, by rw [get_set hi, if_neg q]; exact e1, by rw [get_set (by omega), if_neg q]; exact e2⟩
  · have key : ∀ b, Has (σ.set i (some v)) (env.set i s) i b → v = .ref b ∧ ∃ o, s = .ow o := fun b hb => by
      obtain ⟨e1, e2⟩ := hb
      rw [get_set (by omega), if_pos rfl] at e1
      rw [get_set hi, if_pos rfl] at e2
      refine ⟨by simpa using e1, ?_⟩
      rcases e2 with ⟨o, e2⟩ | ⟨o, e2⟩
      · exact ⟨o, by simpa using e2⟩
      · exact absurd (by simpa using e2) (hnr o)
    by_cases qj : j = i
    · by_cases qk : k = i
      · rw [qj, qk]
      · subst qj
        obtain ⟨e1, e2⟩ := key a h1
        exact absurd ((has_set hl hi qk).mp h2) (ha a e1 e2 k)
    · by_cases qk : k = i
      · subst qk
        obtain ⟨e1, e2⟩ := key a h2
        exact absurd ((has_set hl hi qj).mp h1) (ha a e1 e2 j)
      · exact S.apart j k a ((has_set hl hi qj).mp h1) ((has_set hl hi qk).mp h2)
  · obtain ⟨h1, h2, h3⟩ := S.frk a o h
    refine ⟨h1, h2, fun j hj => ?_⟩
    by_cases q : j = i
    · subst q
      obtain ⟨e1, e2⟩ := hj
      rw [get_set (by omega), if_pos rfl] at e1
      rw [get_set hi, if_pos rfl] at e2
      have e1 : v = .ref a := by simpa using e1
      rcases e2 with ⟨ob, e2⟩ | ⟨ob, e2⟩
      · rw [hfr a ob e1 (by simpa using e2)] at h; cases h
      · exact hnr ob (by simpa using e2)
    · exact h3 j ((has_set hl hi q).mp hj)
/-- a shared value is stored -/
theorem StR.putSh (S : StR K E H0 H σ env) {i : Nat} (hf : free env[i]? = true) {v : V} {d : D} (r : Rp K H0 d v) : StR K E H0 H (σ.set i (some v)) (env.set i (.sh d)) :=
  S.put hf ⟨v, rfl, r⟩ (fun _ _ ⟨_, q⟩ => nomatch q) (fun _ q => nomatch q) fun _ _ _ q => nomatch q
theorem StR.putOw (S : StR K E H0 H σ env) {i : Nat} (hf : free env[i]? = true) {v : V} {ds : List D} (r : RF K E σ env H0 H ds v) : StR K E H0 H (σ.set i (some v)) (env.set i (.ow (.lst ds))) := by
  obtain ⟨a, vs, rfl, n0, nE, nf, nh, e, r⟩ := r
  exact S.put hf ⟨a, rfl, nE, n0, vs, e, r⟩ (fun b q _ => by cases q; exact nh) (fun _ q => nomatch q) fun b o q _ => by cases q; exact nf
/-- a new list becomes shared -/
theorem StR.share (S : StR K E H0 H σ env) {v : V} {ds : List D} (r : RF K E σ env H0 H ds v) : ∃ H1, Same H0 H1 ∧ StR K E H1 H σ env ∧ Rp K H1 (.lst ds) v := by
  obtain ⟨a, vs, rfl, n0, nE, nf, nh, e, r⟩ := r
  have s : Same H0 (upd H0 a (.lst vs)) := same_upd n0
  refine ⟨upd H0 a (.lst vs), s, ?_, .lst upd_same (r.mono s)⟩
  have ne : ∀ i b, Has σ env i b → b ≠ a := fun i b hb z => nh i (z ▸ hb)
  refine { S with s0 := S.s0.trans s, s1 := fun b o q => ?_, old := fun b q => ?_, slot := fun i t q => ?_, frk := fun b o q => ?_ }
  · by_cases z : b = a
    · subst z; rw [upd_same] at q; rw [e]; exact q
    · rw [upd_ne z] at q; exact S.s1 _ _ q
  · rw [upd_ne (by rintro rfl; exact q nE)]
    exact S.old b q
  · have x := S.slot i t q
    cases t with
    | un => exact True.intro
    | sh d => obtain ⟨v, e1, r⟩ := x; exact ⟨v, e1, r.mono s⟩
    | ow o =>
      obtain ⟨b, e1, n, n0, r⟩ := x
      exact ⟨b, e1, n, by rw [upd_ne (ne i b ⟨e1, .inl ⟨o, q⟩⟩)]; exact n0, r.mono s rfl⟩
    | rf o =>
      obtain ⟨b, e1, n, n0, r⟩ := x
      exact ⟨b, e1, n, by rw [upd_ne (ne i b ⟨e1, .inr ⟨o, q⟩⟩)]; exact n0, r.mono s rfl⟩
  · obtain ⟨h1, h2, h3⟩ := S.frk b o q
    refine ⟨h1, ?_, h3⟩
    rw [upd_ne (by rintro rfl; rw [nf] at q; cases q)]
    exact h2
/-- an object that slot i has is changed -/
def ob? : Option Sl → Option Ob
  | some (.ow o) => some o
  | some (.rf o) => some o
  | _ => none
def reob (o : Ob) : Sl → Sl
  | .ow _ => .ow o
  | .rf _ => .rf o
  | s => s
def putOb (env : Ev) (i : Nat) (o : Ob) : Ev := match env[i]? with
  | some s => env.set i (reob o s)
  | none => env
theorem StR.obj (S : StR K E H0 H σ env) {i : Nat} {o : Ob} (h : ob? env[i]? = some o) : ∃ a, σ[i]? = some (some (.ref a)) ∧ H0 a = none ∧ ObR K H0 H a o ∧ Has σ env i a := by
  unfold ob? at h
  split at h
  · rename_i o' e
    cases h
    obtain ⟨a, e1, _, n, r⟩ := S.slot i _ e
    exact ⟨a, e1, n, r, e1, .inl ⟨_, e⟩⟩
  · rename_i o' e
    cases h
    obtain ⟨a, e1, _, n, r⟩ := S.slot i _ e
    exact ⟨a, e1, n, r, e1, .inr ⟨_, e⟩⟩
  · cases h
/-- behind a change of the object at a (and new things): slot i's -/
theorem StR.chg (S : StR K E H0 H σ env) {i : Nat} {a : Addr} {o' : Ob} (h : Has σ env i a) (s0 : Same H0 H1) (s1 : Same H1 H') (k : ∀ b u, H b = some u → b ≠ a → H' b = some u) (new : ∀ b, H b ≠ none → H1 b = H0 b) (r : ObR K H1 H' a o') : StR K E H1 H' σ (putOb env i o') := by
  obtain ⟨ha0, u0, hau⟩ := S.has h
  have key : ∀ j t, (putOb env i o')[j]? = some t → ∃ t0, env[j]? = some t0 ∧ t = if j = i then reob o' t0 else t0 := fun j t e => by
    unfold putOb at e
    cases q : env[i]? with
    | none =>
      obtain ⟨_, ⟨o, z⟩ | ⟨o, z⟩⟩ := h <;> (rw [z] at q; cases q)
    | some s =>
      rw [q] at e
      have hi : i < env.length := (List.getElem?_eq_some_iff.mp q).1
      rw [show (match some s with | some s => env.set i (reob o' s) | none => env) = env.set i (reob o' s) from rfl, get_set hi] at e
      by_cases z : j = i
      · subst z
        rw [if_pos rfl] at e
        exact ⟨s, q, by rw [if_pos rfl]; exact (Option.some.inj e).symm⟩
      · rw [if_neg z] at e
        exact ⟨t, e, by rw [if_neg z]⟩
  have keyR : ∀ j t0, env[j]? = some t0 → (putOb env i o')[j]? = some (if j = i then reob o' t0 else t0) := fun j t0 e => by
    unfold putOb
    cases q : env[i]? with
    | none =>
      obtain ⟨_, ⟨o, z⟩ | ⟨o, z⟩⟩ := h <;> (rw [z] at q; cases q)
    | some s =>
      have hi : i < env.length := (List.getElem?_eq_some_iff.mp q).1
      rw [show (match some s with | some s => env.set i (reob o' s) | none => env) = env.set i (reob o' s) from rfl, get_set hi]
      by_cases z : j = i
      · subst z
        rw [q] at e; cases e
        rw [if_pos rfl, if_pos rfl]
      · rw [if_neg z, if_neg z]; exact e
  have hasR : ∀ j b, Has σ (putOb env i o') j b → Has σ env j b := fun j b ⟨e1, e2⟩ => by
    refine ⟨e1, ?_⟩
    rcases e2 with ⟨o, e2⟩ | ⟨o, e2⟩
    · obtain ⟨t0, q1, q2⟩ := key j _ e2
      by_cases z : j = i
      · rw [if_pos z] at q2
        cases t0 with
        | ow o0 => exact .inl ⟨_, q1⟩
        | rf o0 => exact .inr ⟨_, q1⟩
        | un => cases q2
        | sh d => cases q2
      · rw [if_neg z] at q2
        subst q2
        exact .inl ⟨_, q1⟩
    · obtain ⟨t0, q1, q2⟩ := key j _ e2
      by_cases z : j = i
      · rw [if_pos z] at q2
        cases t0 with
        | ow o0 => exact .inl ⟨_, q1⟩
        | rf o0 => exact .inr ⟨_, q1⟩
        | un => cases q2
        | sh d => cases q2
      · rw [if_neg z] at q2
        subst q2
        exact .inr ⟨_, q1⟩
  refine { s0 := S.s0.trans s0, s1 := s1, old := fun b q => ?_, kept := fun b o e q => ?_, len := ?_, slot := fun j t e => ?_, refs := fun j b q => ?_, apart := fun j k b h1 h2 => S.apart j k b (hasR j b h1) (hasR k b h2), frk := fun b o q => ?_ }
  · by_cases z : H b = none
    · exact absurd (S.live z) q
    · rw [new b z]; exact S.old b q
  · refine k b o (S.kept b o e q) ?_
    rintro rfl
    obtain ⟨e1, ⟨ob, e2⟩ | ⟨ob, e2⟩⟩ := h
    · obtain ⟨b', e1', n, _⟩ := S.slot i _ e2
      rw [e1] at e1'; cases e1'
      rw [n] at e; cases e
    · obtain ⟨b', e1', n, _⟩ := S.slot i _ e2
      rw [e1] at e1'; cases e1'
      exact q i n
  · rw [S.len]
    unfold putOb
    split <;> simp
  · obtain ⟨t0, q1, q2⟩ := key j t e
    have x := S.slot j t0 q1
    by_cases z : j = i
    · subst z
      rw [if_pos rfl] at q2
      subst q2
      cases t0 with
      | un => exact True.intro
      | sh d => obtain ⟨v, e1, r⟩ := x; exact ⟨v, e1, r.mono s0⟩
      | ow o =>
        obtain ⟨b, e1, n, n0, _⟩ := x
        obtain ⟨h1, _⟩ := h
        rw [e1] at h1
        have : b = a := by simpa using h1
        subst this
        exact ⟨b, e1, n, by rw [new b (by rw [hau]; simp)]; exact n0, r⟩
      | rf o =>
        obtain ⟨b, e1, n, n0, _⟩ := x
        obtain ⟨h1, _⟩ := h
        rw [e1] at h1
        have : b = a := by simpa using h1
        subst this
        exact ⟨b, e1, n, by rw [new b (by rw [hau]; simp)]; exact n0, r⟩
    · rw [if_neg z] at q2
      subst q2
      cases t with
      | un => exact True.intro
      | sh d => obtain ⟨v, e1, r⟩ := x; exact ⟨v, e1, r.mono s0⟩
      | ow o =>
        obtain ⟨b, e1, n, n0, r0⟩ := x
        obtain ⟨u, hu⟩ := r0.some
        have nb : b ≠ a := by
          rintro rfl
          exact z (S.apart j i b ⟨e1, .inl ⟨_, q1⟩⟩ h)
        exact ⟨b, e1, n, by rw [new b (by rw [hu]; simp)]; exact n0, r0.mono s0 (by rw [hu]; exact k b u hu nb)⟩
      | rf o =>
        obtain ⟨b, e1, n, n0, r0⟩ := x
        obtain ⟨u, hu⟩ := r0.some
        have nb : b ≠ a := by
          rintro rfl
          exact z (S.apart j i b ⟨e1, .inr ⟨_, q1⟩⟩ h)
        exact ⟨b, e1, n, by rw [new b (by rw [hu]; simp)]; exact n0, r0.mono s0 (by rw [hu]; exact k b u hu nb)⟩
  · obtain ⟨o, e1, e2⟩ := S.refs j b q
    have := keyR j _ e1
    by_cases z : j = i
    · rw [if_pos z] at this
      exact ⟨o', this, e2⟩
    · rw [if_neg z] at this
      exact ⟨o, this, e2⟩
  · obtain ⟨h1, h2, h3⟩ := S.frk b o q
    have nb : b ≠ a := by rintro rfl; exact h3 i h
    exact ⟨k b o h1 nb, by rw [new b (by rw [h1]; simp)]; exact h2, fun j hj => h3 j (hasR j b hj)⟩
end

/-! ### statements -/
@[reducible] def fsNil (env : Ev) : Rs Fl := .ok env .nx
@[reducible] def fSeq (f g : Ev → Rs Fl) (env : Ev) : Rs Fl := (f env).bind fun e fl => match fl with
  | .nx => g e
  | fl => .ok e fl
@[reducible] def fRet (fa : Ev → Rs D) (env : Ev) : Rs Fl := (fa env).bind fun e d => .ok e (.rt (.sh d))
@[reducible] def fExp (fa : Ev → Rs D) (env : Ev) : Rs Fl := (fa env).bind fun e _ => .ok e .nx
@[reducible] def fIfS (fc : Ev → Rs Bool) (fa fb : Ev → Rs Fl) (env : Ev) : Rs Fl := (fc env).bind fun e b => if b = true then fa e else fb e
@[reducible] def put (env : Ev) (i : Nat) (s : Sl) : Option Ev := if free env[i]? = true then some (env.set i s) else none
@[reducible] def fSet (i : Nat) (fa : Ev → Rs D) (env : Ev) : Rs Fl := (fa env).bind fun e d => match put e i (.sh d) with
  | some e' => .ok e' .nx
  | none => .no
section
variable {X : Cx} {W : WX} {k : Nat} {a b c : Expr} {st : Stmt} {sts : List Stmt} {fa fb : Ev → Rs D} {gc : Ev → Rs Bool} {f g : Ev → Rs Fl} {pos : Pos}
theorem PostS.nx {K : Frag} {E : En} {H0 H : Hp} {σ : St} {env : Ev} {N : Ends} (S : StR K E H0 H σ env) (h : PostS K W E H0 N (.ok env .nx)) : N.nx σ H := h σ H0 H (Same.refl _) S
theorem dss_nil : DSs X W [] fsNil := pss_mono pss_nil fun N σ H q => by
  obtain ⟨E, H0, env, S, q⟩ := q
  exact PostS.nx S q
theorem tDS_seq {K : Frag} {N : Ends} {σ : St} {H : Hp} (q : tDS K W (fSeq f g) N σ H) : tSeq (tDS K W f) (tDS K W g) N σ H := by
  obtain ⟨E, H0, env, S, q⟩ := q
  refine ⟨E, H0, env, S, ?_⟩
  unfold fSeq at q
  cases h : f env with
  | ok env' fl =>
    rw [h] at q
    cases fl with
    | nx => exact fun σ' H1 H' s S' => ⟨E, H1, env', S', PostS.up s q⟩
    | rt d => exact q
    | bk => exact q
    | ct => exact q
  | er env' C fl d =>
    rw [h] at q
    exact q
  | no =>
    rw [h] at q
    exact q
theorem dss_cons (h1 : DS X W st f) (h2 : DSs X W sts g) : DSs X W (st :: sts) (fSeq f g) := pss_mono (pss_cons h1 h2) fun N σ H q => tDS_seq q
theorem dss_one (h1 : DS X W st f) : DSs X W [st] f := pss_one h1
theorem ds_ret (h : DE X W a fa) : DS X W (.Return (some a) pos) (fRet fa) := by
  refine ps_mono (ps_ret h) fun N σ H q => ?_
  obtain ⟨E, H0, env, S, q⟩ := q
  exact WP.bindS S q fun e1 x v H1 H' S1 s1 r1 q1 => q1 v σ H1 H' (Same.refl _) S1 r1
theorem ds_retN : DS X W (.Return none pos) (fRet (fC .non)) := by
  refine ps_mono ps_retN fun N σ H q => ?_
  obtain ⟨E, H0, env, S, q⟩ := q
  exact q .non σ H0 H (Same.refl _) S .non
theorem ds_expr (h : DE X W a fa) (hs : swapsWith a none pos.line X.env = pure false := by rfl) : DS X W (.Expr a pos) (fExp fa) := by
  refine ps_mono (ps_expr h hs) fun N σ H q => ?_
  obtain ⟨E, H0, env, S, q⟩ := q
  exact WP.bindS S q fun e1 x v H1 H' S1 s1 r1 q1 => PostS.nx S1 q1
theorem ds_pass : DS X W (.Pass pos) fsNil := ps_mono ps_pass fun N σ H q => by
  obtain ⟨E, H0, env, S, q⟩ := q
  exact PostS.nx S q
theorem ds_continue : DS X W (.Continue pos) (fun env => .ok env .ct) := ps_mono ps_continue fun N σ H q => by
  obtain ⟨E, H0, env, S, q⟩ := q
  exact q σ H0 H (Same.refl _) S
theorem ds_break : DS X W (.Break pos) (fun env => .ok env .bk) := ps_mono ps_break fun N σ H q => by
  obtain ⟨E, H0, env, S, q⟩ := q
  exact q σ H0 H (Same.refl _) S
theorem ds_if {ss ts : List Stmt} (hc : DT X W c gc) (ha : DSs X W ss f) (hb : DSs X W ts g) : DS X W (.If c ss ts pos) (fIfS gc f g) := by
  refine ps_mono (ps_if hc ha hb) fun N σ H q => ?_
  obtain ⟨E, H0, env, S, q⟩ := q
  refine WP.bindS S q fun e1 x v H1 H' S1 s1 r1 q1 => ?_
  have r1 : x = v := r1
  subst r1
  cases x with
  | true => exact iteT ⟨E, H1, e1, S1, q1⟩
  | false => exact iteF ⟨E, H1, e1, S1, q1⟩
theorem ds_set {i : Nat} {x : Str} {pos' : Pos} (B : Bd X W k) (he : DE X W a fa) (hi : X.N[i]? = some x := by rfl) (hx : Loc X.env.scope x := by first | exact Or.inl rfl | exact Or.inr rfl) (hs : swapsWith a (some (.Name x pos')) pos.line X.env = pure false := by rfl) (hf : X.fn x = true ∨ X.env.scope.names.lookup x = some .local := by first | exact .inl rfl | exact .inr rfl | assumption) :
    DS X W (.Assign [.Name x pos'] a pos) (fSet i fa) := by
  refine ps_mono (ps_set (i := i) B.nd hi hx he hs hf) fun N σ H q => ?_
  obtain ⟨E, H0, env, S, q⟩ := q
  refine WP.bindS S q fun e1 d v H1 H' S1 s1 r1 q1 => ?_
  by_cases hfr : free e1[i]? = true
  · simp only [put, if_pos hfr] at q1
    exact q1 _ H1 H' (Same.refl _) (S1.putSh hfr r1)
  · simp only [put, if_neg hfr] at q1
    exact (show False from q1).elim
end
/-! ### new lists -/
abbrev DF (X : Cx) (W : WX) (e : Expr) (f : Ev → Rs (List D)) : Prop := PE X e (WP X.K W (RF X.K) f)
@[reducible] def fSh (f : Ev → Rs (List D)) (env : Ev) : Rs D := (f env).bind fun e ds => .ok e (.lst ds)
@[reducible] def fSetO (i : Nat) (fa : Ev → Rs (List D)) (env : Ev) : Rs Fl := (fa env).bind fun e ds => match put e i (.ow (.lst ds)) with
  | some e' => .ok e' .nx
  | none => .no
section
variable {X : Cx} {W : WX} {k : Nat} {a b c : Expr} {f : Ev → Rs (List D)} {pos : Pos}
theorem DF.de (h : DF X W a f) : DE X W a (fSh f) := by
  refine pe_mono h fun σ H Q q => ?_
  obtain ⟨E, H0, env, S, q⟩ := q
  refine WP.bind S q fun e1 ds v H1 H' S1 s1 r1 q1 => ?_
  obtain ⟨G, s, S2, r⟩ := S1.share r1
  exact q1 v G H' s S2 r
theorem ds_setO {i : Nat} {x : Str} {pos' : Pos} (B : Bd X W k) (he : DF X W a f) (hi : X.N[i]? = some x := by rfl) (hx : Loc X.env.scope x := by first | exact Or.inl rfl | exact Or.inr rfl) (hs : swapsWith a (some (.Name x pos')) pos.line X.env = pure false := by rfl) (hf : X.fn x = true ∨ X.env.scope.names.lookup x = some .local := by first | exact .inl rfl | exact .inr rfl | assumption) :
    DS X W (.Assign [.Name x pos'] a pos) (fSetO i f) := by
  refine ps_mono (ps_set (i := i) B.nd hi hx he hs hf) fun N σ H q => ?_
  obtain ⟨E, H0, env, S, q⟩ := q
  refine WP.bindS S q fun e1 d v H1 H' S1 s1 r1 q1 => ?_
  by_cases hfr : free e1[i]? = true
  · simp only [put, if_pos hfr] at q1
    exact q1 _ H1 H' (Same.refl _) (S1.putOw hfr r1)
  · simp only [put, if_neg hfr] at q1
    exact (show False from q1).elim
/-- a new list just laid -/
theorem StR.laid {K : Frag} {E : En} {H0 H : Hp} {σ : St} {env : Ev} {ds : List D} {vs : List V} {p : Addr} (S : StR K E H0 H σ env) (r : RpA K H0 ds vs) (n : H p = none) : StR K E H0 (upd H p (.lst vs)) σ env ∧ RF K E σ env H0 (upd H p (.lst vs)) ds (.ref p) := by
  refine ⟨S.newU _ n, p, vs, rfl, S.s1.free n, S.live n, ?_, fun i h => ?_, upd_same, r⟩
  · cases q : E.fr p with
    | none => rfl
    | some o => rw [(S.frk p o q).1] at n; cases n
  · obtain ⟨_, o, e⟩ := S.has h
    rw [e] at n; cases n
@[reducible] def small (n : Nat) : Bool := Nat.ble n 1000
@[reducible] def fLst (fa : Ev → Rs (List D)) (env : Ev) : Rs (List D) := (fa env).bind fun e ds => if small ds.length = true then .ok e ds else .no
theorem small_le {n : Nat} (h : small n = true) : n ≤ 1000 := Nat.le_of_ble_eq_true h
theorem df_lst {es : List Expr} {fa : Ev → Rs (List D)} (ha : DA X W es fa) : DF X W (.List es pos) (fLst fa) := by
  refine pe_mono (pe_lst ha) fun σ H Q q => ?_
  obtain ⟨E, H0, env, S, q⟩ := q
  refine WP.bind S q fun e1 ds vs H1 H' S1 s1 r1 q1 => ?_
  by_cases hz : small ds.length = true
  · rw [if_pos hz] at q1
    refine ⟨by rw [← RpA.length r1]; exact le_line (small_le hz), fun p n => ?_⟩
    obtain ⟨S2, r2⟩ := S1.laid r1 n
    exact q1 _ H1 _ (Same.refl _) S2 r2
  · rw [if_neg hz] at q1
    exact (show False from q1).elim
end
end DL

end

section
set_option Elab.async false
set_option linter.all false
set_option maxRecDepth 100000
set_option maxHeartbeats 2000000
/-! DC: targets, iterables, loops, comprehensions. -/
namespace DL
open PySem L2
/-! ### targets -/
/-- σ' is σ but for the slots is -/
def ChgIn (is : List Nat) (σ σ' : St) : Prop := σ'.length = σ.length ∧ ∀ j, j ∉ is → σ'[j]? = σ[j]?
theorem ChgIn.refl {is : List Nat} {σ : St} : ChgIn is σ σ := ⟨rfl, fun _ _ => rfl⟩
theorem ChgIn.trans {is js : List Nat} {σ σ1 σ2 : St} (a : ChgIn is σ σ1) (b : ChgIn js σ1 σ2) : ChgIn (is ++ js) σ σ2 :=
  ⟨b.1.trans a.1, fun j h => (b.2 j fun z => h (List.mem_append_right _ z)).trans (a.2 j fun z => h (List.mem_append_left _ z))⟩
theorem ChgIn.set {i : Nat} {σ : St} {x : Option V} : ChgIn [i] σ (σ.set i x) := ⟨by simp, fun j h => by rw [List.getElem?_set_ne]; rintro rfl; exact h List.mem_cons_self⟩
def tDG (K : Frag) (is : List Nat) (g : D → Ev → Option Ev) : TG := fun v σ H Q => ∃ E H0 env d env', StR K E H0 H σ env ∧ Rp K H0 d v ∧ g d env = some env' ∧ ∀ σ', StR K E H0 H σ' env' → ChgIn is σ σ' → Q σ' H
def tDGs (K : Frag) (is : List Nat) (g : List D → Ev → Option Ev) : TGs := fun vs σ H Q => ∃ E H0 env ds env', StR K E H0 H σ env ∧ RpA K H0 ds vs ∧ g ds env = some env' ∧ ∀ σ', StR K E H0 H σ' env' → ChgIn is σ σ' → Q σ' H
abbrev DG (X : Cx) (tg : Expr) (is : List Nat) (g : D → Ev → Option Ev) : Prop := PG X tg (tDG X.K is g)
abbrev DGs (X : Cx) (tg : List Expr) (is : List Nat) (g : List D → Ev → Option Ev) : Prop := PGs X tg (tDGs X.K is g)
@[reducible] def gNm (i : Nat) (d : D) (env : Ev) : Option Ev := put env i (.sh d)
@[reducible] def gsNil (ds : List D) (env : Ev) : Option Ev := match ds with
  | [] => some env
  | _ => none
@[reducible] def gsCons (g : D → Ev → Option Ev) (gs : List D → Ev → Option Ev) (ds : List D) (env : Ev) : Option Ev := match ds with
  | d :: r => (g d env).bind fun e => gs r e
  | [] => none
@[reducible] def gTp (gs : List D → Ev → Option Ev) (d : D) (env : Ev) : Option Ev := match d with
  | .tup ds => gs ds env
  | _ => none
@[reducible] def gLs (gs : List D → Ev → Option Ev) (d : D) (env : Ev) : Option Ev := match d with
  | .lst ds => gs ds env
  | _ => none
section
variable {X : Cx} {W : WX} {k : Nat} {pos : Pos} {e : Expr} {es : List Expr} {is js : List Nat} {g : D → Ev → Option Ev} {gs : List D → Ev → Option Ev}
theorem pg_mono {e : Expr} {t t' : TG} (h : PG X e t) (m : ∀ v σ H Q, t' v σ H Q → t v σ H Q) : PG X e t' := ⟨fun pins s σ H v u Q I r q => h.run pins s σ H v u Q I r (m v σ H Q q)⟩
theorem pgs_mono {e : List Expr} {t t' : TGs} (h : PGs X e t) (m : ∀ v σ H Q, t' v σ H Q → t v σ H Q) : PGs X e t' := ⟨fun pins s σ H v u Q I r q => h.run pins s σ H v u Q I r (m v σ H Q q)⟩
theorem put_some {env env' : Ev} {i : Nat} {s : Sl} (h : put env i s = some env') : free env[i]? = true ∧ env' = env.set i s := by
  unfold put at h
  split at h
  · rename_i q; cases h; exact ⟨q, rfl⟩
  · cases h
theorem dg_name {i : Nat} {x : Str} (nd : X.N.Nodup) (hi : X.N[i]? = some x := by rfl) (hx : Loc X.env.scope x := by first | exact Or.inl rfl | exact Or.inr rfl) (hf : X.fn x = true ∨ X.env.scope.names.lookup x = some .local := by first | exact .inl rfl | exact .inr rfl | assumption) : DG X (.Name x pos) [i] (gNm i) := by
  refine pg_mono (pg_name (i := i) nd hi hx hf) fun v σ H Q q => ?_
  obtain ⟨E, H0, env, d, env', S, r, e, k⟩ := q
  obtain ⟨hf, rfl⟩ := put_some e
  exact k _ (S.putSh hf r) ChgIn.set
theorem dgs_nil : DGs X [] [] gsNil := by
  refine pgs_mono pgs_nil fun v σ H Q q => ?_
  obtain ⟨E, H0, env, ds, env', S, r, e, k⟩ := q
  cases r with
  | nil => cases e; exact ⟨rfl, k σ S ChgIn.refl⟩
  | cons _ _ => cases e
theorem dgs_cons (h1 : DG X e is g) (h2 : DGs X es js gs) (hs : (assignEach (e :: es) X.env).map (·.2) = assign e X.env :: (assignEach es X.env).map (·.2) := by rfl) : DGs X (e :: es) (is ++ js) (gsCons g gs) := by
  refine pgs_mono (pgs_cons h1 h2 hs) fun vs σ H Q q => ?_
  obtain ⟨E, H0, env, ds, env', S, r, e, k⟩ := q
  cases r with
  | nil => cases e
  | cons r1 r2 =>
    obtain ⟨env1, e1, e2⟩ := Option.bind_eq_some_iff.mp e
    exact ⟨_, _, rfl, E, H0, env, _, env1, S, r1, e1, fun σ1 S1 c1 => ⟨E, H0, env1, _, env', S1, r2, e2, fun σ2 S2 c2 => k σ2 S2 (c1.trans c2)⟩⟩
theorem dg_tup {kk : Nat} {n : Nat} (hc : X.calm = true) (h : DGs X es is gs) (hn : (assignEach es X.env).length = n := by rfl) (hst : (assignEach es X.env).findIdx? (·.1) = none := by rfl) (hl : ∀ ds env e', gs ds env = some e' → ds.length = n) : DG X (.Tuple es kk pos) is (gTp gs) := by
  refine pg_mono (pg_tup hc h hn hst) fun v σ H Q q => ?_
  obtain ⟨E, H0, env, d, env', S, r, e, k⟩ := q
  cases r with
  | tup ht ra => exact ⟨_, _, rfl, sqT_mono S.s1 ht, by rw [← ra.length]; exact hl _ _ _ e, E, H0, env, _, env', S, ra, e, k⟩
  | _ => cases e
theorem dg_lst {kk : Nat} {n : Nat} (hc : X.calm = true) (h : DGs X es is gs) (hn : (assignEach es X.env).length = n := by rfl) (hst : (assignEach es X.env).findIdx? (·.1) = none := by rfl) (hl : ∀ ds env e', gs ds env = some e' → ds.length = n) : DG X (.Tuple es kk pos) is (gLs gs) := by
  refine pg_mono (pg_lst hc h hn hst) fun v σ H Q q => ?_
  obtain ⟨E, H0, env, d, env', S, r, e, k⟩ := q
  cases r with
  | lst ht ra => exact ⟨_, _, rfl, .inl (.inl (S.s1 _ _ ht)), by rw [← ra.length]; exact hl _ _ _ e, E, H0, env, _, env', S, ra, e, k⟩
  | _ => cases e
theorem gs_len0 {ds : List D} {env e' : Ev} (h : gsNil ds env = some e') : ds.length = 0 := by
  cases ds with
  | nil => rfl
  | cons _ _ => cases h
theorem gs_lenS {n : Nat} (h : ∀ ds env e', gs ds env = some e' → ds.length = n) : ∀ ds env e', gsCons g gs ds env = some e' → ds.length = n + 1 := fun ds env e' q => by
  cases ds with
  | nil => cases q
  | cons d r =>
    obtain ⟨e1, _, q2⟩ := Option.bind_eq_some_iff.mp q
    rw [List.length_cons, h r e1 e' q2]
/-- target = value -/
@[reducible] def fAsg (fa : Ev → Rs D) (g : D → Ev → Option Ev) (env : Ev) : Rs Fl := (fa env).bind fun e d => match g d e with
  | some e' => .ok e' .nx
  | none => .no
theorem ds_asg {a tg : Expr} {fa : Ev → Rs D} (ha : DE X W a fa) (hg : DG X tg is g) (hs : swapsWithSole [tg] a pos.line X.env = pure false := by rfl) (hw : swappedStores [tg] a X.env = pure none := by rfl)
    (h1 : (assignEach [tg] X.env).map (·.2) = [assign tg X.env] := by rfl) : DS X W (.Assign [tg] a pos) (fAsg fa g) := by
  refine ps_mono (ps_asg ha hg hs hw h1) fun N σ H q => ?_
  obtain ⟨E, H0, env, S, q⟩ := q
  refine WP.bindS S q fun e1 d v H1 H' S1 s1 r1 q1 => ?_
  cases e : g d e1 with
  | none => rw [e] at q1; exact (show False from q1).elim
  | some e2 =>
    rw [e] at q1
    exact ⟨E, H1, e1, d, e2, S1, r1, e, fun σ' S' _ => q1 σ' H1 H' (Same.refl _) S'⟩
end

/-! ### iterables -/
/-- the iterator gives ds, one after another, as long as what is shared stands -/
structure ItR (K : Frag) (J : It) (H1 : Hp) (ds : List D) : Prop where
  go : ∀ i H, Same H1 H → i < ds.length → J.go i H
  yld : ∀ i H0 H x H' d, Same H1 H0 → Same H0 H → ds[i]? = some d → J.yld i H x H' → ∃ H0', Gr H0 H H0' H' ∧ Rp K H0' d x
  stop : ∀ i H, Same H1 H → ds.length ≤ i → J.stop i H
abbrev RI (K : Frag) : RelT (List D) It := fun _ _ _ H1 _ ds J => ItR K J H1 ds
abbrev DI (X : Cx) (W : WX) (tg iter : Expr) (f : Ev → Rs (List D)) : Prop := PI X tg iter (WP X.K W (RI X.K) f)
section
variable {X : Cx} {W : WX} {k : Nat} {tg e : Expr} {fa : Ev → Rs D} {fs : Ev → Rs (List D)} {pos p : Pos}
theorem pi_mono {t t' : TI} (h : PI X tg e t) (m : ∀ σ H Q, t' σ H Q → t σ H Q) : PI X tg e t' := ⟨fun pins s σ H R I q => h.run pins s σ H R I (m σ H R q)⟩
theorem itR_list {K : Frag} {H1 : Hp} {a : Addr} {vs : List V} {ds : List D} (h : SqL K H1 a vs) (r : RpA K H1 ds vs) : ItR K (Itl K a) H1 ds where
  go := fun i H s hi => by
    have q : i < vs.length := by rw [← r.length]; exact hi
    exact ⟨vs, vs[i], s.seq h, by simp [q]⟩
  yld := fun i H0 H x H' d s0 s1 e y => by
    obtain ⟨rfl, y⟩ := y
    obtain ⟨v, e1, r1⟩ := r.get e
    have := y vs ((s0.trans s1).seq h)
    rw [e1] at this; cases this
    exact ⟨H0, .refl, r1.mono s0⟩
  stop := fun i H s hi => ⟨vs, s.seq h, by rw [← r.length]; exact hi⟩
theorem itR_tup {K : Frag} {H1 : Hp} {a : Addr} {vs : List V} {ds : List D} (h : SqT K H1 a vs) (r : RpA K H1 ds vs) : ItR K (Itt K a) H1 ds where
  go := fun i H s hi => by
    have q : i < vs.length := by rw [← r.length]; exact hi
    exact ⟨vs, vs[i], sqT_mono s h, by simp [q]⟩
  yld := fun i H0 H x H' d s0 s1 e y => by
    obtain ⟨rfl, y⟩ := y
    obtain ⟨v, e1, r1⟩ := r.get e
    have := y vs (sqT_mono (s0.trans s1) h)
    rw [e1] at this; cases this
    exact ⟨H0, .refl, r1.mono s0⟩
  stop := fun i H s hi => ⟨vs, sqT_mono s h, by rw [← r.length]; exact hi⟩
def enumD : Nat → List D → List D
  | _, [] => []
  | n, d :: r => .tup [.int n, d] :: enumD (n + 1) r
theorem enumD_length : ∀ (n : Nat) (ds : List D), (enumD n ds).length = ds.length
  | _, [] => rfl
  | n, d :: r => congrArg Nat.succ (enumD_length (n + 1) r)
theorem enumD_get : ∀ {n : Nat} {ds : List D} {i : Nat} {d : D}, (enumD n ds)[i]? = some d → ∃ z, ds[i]? = some z ∧ d = .tup [.int (n + i : Nat), z]
  | _, [], _, _, h => by simp [enumD] at h
  | n, z :: r, 0, d, h => by simp [enumD] at h; exact ⟨z, by simp, by simpa using h.symm⟩
  | n, z :: r, i + 1, d, h => by
    obtain ⟨y, h1, h2⟩ := enumD_get (n := n + 1) (ds := r) (i := i) (d := d) (by simpa [enumD] using h)
    exact ⟨y, by simpa using h1, by rw [h2, show n + 1 + i = n + (i + 1) by omega]⟩
theorem itR_enum {K : Frag} {H1 : Hp} {a : Addr} {vs : List V} {ds : List D} (h : SqL K H1 a vs) (r : RpA K H1 ds vs) : ItR K (Ite K a) H1 (enumD 0 ds) where
  go := fun i H s hi => by
    rw [enumD_length] at hi
    have q : i < vs.length := by rw [← r.length]; exact hi
    exact ⟨vs, vs[i], s.seq h, by simp [q]⟩
  yld := fun i H0 H x H' d s0 s1 e y => by
    obtain ⟨T, z, rfl, n, rfl, y⟩ := y
    obtain ⟨dz, e2, rfl⟩ := enumD_get e
    obtain ⟨v, e1, r1⟩ := r.get e2
    have hv : v = z := by
      have := y vs ((s0.trans s1).seq h)
      rw [e1] at this
      exact Option.some.inj this
    subst hv
    refine ⟨_, .new (.tup [.int (i : Nat), v]) n, .tup (SqT.of upd_same) (.cons ?_ (.cons (r1.mono (s0.trans (same_upd (s1.free n)))) .nil))⟩
    rw [Nat.zero_add]
    exact .int _
  stop := fun i H s hi => ⟨vs, s.seq h, by rw [← r.length]; rw [enumD_length] at hi; exact hi⟩
def rangeD (lo : Int) (n : Nat) : List D := (List.range n).map fun i => .int (lo + (i : Nat))
theorem itR_range {K : Frag} {H1 : Hp} (lo : Int) (n : Nat) : ItR K (Itr lo n) H1 (rangeD lo n) where
  go := fun i H s hi => by
    show i < n
    simpa [rangeD] using hi
  yld := fun i H0 H x H' d s0 s1 e y => by
    obtain ⟨rfl, rfl⟩ := y
    have hi : i < n := by
      have := (List.getElem?_eq_some_iff.mp e).1
      simpa [rangeD] using this
    have : d = .int (lo + (i : Nat)) := by
      simp [rangeD, hi] at e
      exact e.symm
    subst this
    exact ⟨H0, .refl, .int _⟩
  stop := fun i H s hi => by
    show n ≤ i
    simpa [rangeD] using hi
def strD (x : Str) : List D := x.cps.toList.map fun c => .str ⟨#[c]⟩
theorem itR_str {K : Frag} {H1 : Hp} (x : Str) : ItR K (Its x) H1 (strD x) where
  go := fun i H s hi => by
    show i < x.cps.size
    simpa [strD] using hi
  yld := fun i H0 H v H' d s0 s1 e y => by
    obtain ⟨rfl, c, e1, rfl⟩ := y
    simp [strD] at e
    obtain ⟨c', e2, rfl⟩ := e
    rw [e2] at e1; cases e1
    exact ⟨H0, .refl, .str _⟩
  stop := fun i H s hi => by
    show x.cps.size ≤ i
    simpa [strD] using hi
@[reducible] def fiL (fa : Ev → Rs D) (env : Ev) : Rs (List D) := (fa env).bind fun e d => match d with
  | .lst ds => .ok e ds
  | .fz ds => .ok e ds
  | _ => .no
@[reducible] def fiT (fa : Ev → Rs D) (env : Ev) : Rs (List D) := (fa env).bind fun e d => match d with
  | .tup ds => .ok e ds
  | _ => .no
@[reducible] def fiS (fa : Ev → Rs D) (env : Ev) : Rs (List D) := (fa env).bind fun e d => match d with
  | .str x => .ok e (strD x)
  | _ => .no
theorem di_list (h : DE X W e fa) : DI X W tg e (fiL fa) := by
  refine pi_mono (pi_list h) fun σ H Q q => ?_
  obtain ⟨E, H0, env, S, q⟩ := q
  refine WP.bind S q fun e1 d v H1 H' S1 s1 r1 q1 => ?_
  cases r1 with
  | lst h r => exact ⟨_, rfl, ⟨_, .inl (.inl (S1.s1 _ _ h))⟩, Post.here S1 q1 (itR_list (.inl (.inl h)) r)⟩
  | fz h r => exact ⟨_, rfl, ⟨_, S1.s1.seq h⟩, Post.here S1 q1 (itR_list h r)⟩
  | _ => exact (show False from q1).elim
theorem di_tup (h : DE X W e fa) : DI X W tg e (fiT fa) := by
  refine pi_mono (pi_tup h) fun σ H Q q => ?_
  obtain ⟨E, H0, env, S, q⟩ := q
  refine WP.bind S q fun e1 d v H1 H' S1 s1 r1 q1 => ?_
  cases r1 with
  | tup h r => exact ⟨_, rfl, ⟨_, sqT_mono S1.s1 h⟩, Post.here S1 q1 (itR_tup h r)⟩
  | _ => exact (show False from q1).elim
theorem di_str (h : DE X W e fa) : DI X W tg e (fiS fa) := by
  refine pi_mono (pi_str h) fun σ H Q q => ?_
  obtain ⟨E, H0, env, S, q⟩ := q
  refine WP.bind S q fun e1 d v H1 H' S1 s1 r1 q1 => ?_
  cases d with
  | str x => exact ⟨x, rp_str r1, Post.here S1 q1 (itR_str x)⟩
  | _ => exact (show False from q1).elim
/-- the bound of a range -/
def okR (n : Int) : Bool := decide (-(2 ^ 62) ≤ n ∧ n < 2 ^ 62)
@[reducible] def fiR1 (fa : Ev → Rs (List D)) (env : Ev) : Rs (List D) := (fa env).bind fun e ds => match ds with
  | [.int n] => if okR n = true then .ok e (rangeD 0 n.toNat) else .no
  | _ => .no
@[reducible] def fiR2 (fa : Ev → Rs (List D)) (env : Ev) : Rs (List D) := (fa env).bind fun e ds => match ds with
  | [.int m, .int n] => if okR m = true ∧ okR n = true then .ok e (rangeD m (n - m).toNat) else .no
  | _ => .no
theorem rpa1 {K : Frag} {H : Hp} {d : D} {vs : List V} (r : RpA K H [d] vs) : ∃ v, vs = [v] ∧ Rp K H d v := by
  cases r with
  | cons a b => cases b; exact ⟨_, rfl, a⟩
theorem rpa2 {K : Frag} {H : Hp} {d d2 : D} {vs : List V} (r : RpA K H [d, d2] vs) : ∃ v u, vs = [v, u] ∧ Rp K H d v ∧ Rp K H d2 u := by
  cases r with
  | cons a b => obtain ⟨u, rfl, q⟩ := rpa1 b; exact ⟨_, _, rfl, a, q⟩
theorem rpa3 {K : Frag} {H : Hp} {d d2 d3 : D} {vs : List V} (r : RpA K H [d, d2, d3] vs) : ∃ v u t, vs = [v, u, t] ∧ Rp K H d v ∧ Rp K H d2 u ∧ Rp K H d3 t := by
  cases r with
  | cons a b => obtain ⟨u, t, rfl, q, q'⟩ := rpa2 b; exact ⟨_, _, _, rfl, a, q, q'⟩
theorem di_range1 {a : Expr} (hm : X.mg "range" = none) (ha : DA X W [a] fs) (hg : Gl X "range" := by rfl) (hs : starEach [a] X.env = [(false, eval a X.env)] := by rfl) : DI X W tg (.Call (.Name "range" p) [a] [] pos) (fiR1 fs) := by
  refine pi_mono (pi_range1 hg hm ha hs) fun σ H Q q => ?_
  obtain ⟨E, H0, env, S, q⟩ := q
  refine WP.bind S q fun e1 ds vs H1 H' S1 s1 r1 q1 => ?_
  split at q1
  · rename_i n
    split at q1
    · rename_i hn
      obtain ⟨v, rfl, r⟩ := rpa1 r1
      have hn := of_decide_eq_true hn
      exact ⟨n, by rw [rp_int r], hn.1, hn.2, Post.here S1 q1 (by simpa using itR_range 0 n.toNat)⟩
    · exact (show False from q1).elim
  · exact (show False from q1).elim
theorem di_range2 {a b : Expr} (hm : X.mg "range" = none) (ha : DA X W [a, b] fs) (hg : Gl X "range" := by rfl) (hs : starEach [a, b] X.env = [(false, eval a X.env), (false, eval b X.env)] := by rfl) (hs2 : starEach [b] X.env = [(false, eval b X.env)] := by rfl) : DI X W tg (.Call (.Name "range" p) [a, b] [] pos) (fiR2 fs) := by
  refine pi_mono (pi_range2 hg hm ha hs hs2) fun σ H Q q => ?_
  obtain ⟨E, H0, env, S, q⟩ := q
  refine WP.bind S q fun e1 ds vs H1 H' S1 s1 r1 q1 => ?_
  split at q1
  · rename_i m n
    split at q1
    · rename_i hn
      obtain ⟨v, u, rfl, r, r'⟩ := rpa2 r1
      have h1 := of_decide_eq_true hn.1
      have h2 := of_decide_eq_true hn.2
      exact ⟨m, n, by rw [rp_int r, rp_int r'], ⟨h1.1, h1.2, h2.1, h2.2⟩, Post.here S1 q1 (itR_range m (n - m).toNat)⟩
    · exact (show False from q1).elim
  · exact (show False from q1).elim
@[reducible] def fiE (fa : Ev → Rs (List D)) (env : Ev) : Rs (List D) := (fa env).bind fun e ds => match ds with
  | [.lst ds] => .ok e (enumD 0 ds)
  | [.fz ds] => .ok e (enumD 0 ds)
  | _ => .no
theorem di_enum {a : Expr} {elts : List Expr} {kk : Nat} {tpos : Pos} (hm : X.mg "enumerate" = none) (ha : DA X W [a] fs) (hg : Gl X "enumerate" := by rfl) (hs : starEach [a] X.env = [(false, eval a X.env)] := by rfl) : DI X W (.Tuple elts kk tpos) (.Call (.Name "enumerate" p) [a] [] pos) (fiE fs) := by
  refine pi_mono (pi_enum hg hm ha hs) fun σ H Q q => ?_
  obtain ⟨E, H0, env, S, q⟩ := q
  refine WP.bind S q fun e1 ds vs H1 H' S1 s1 r1 q1 => ?_
  split at q1
  · obtain ⟨v, rfl, r⟩ := rpa1 r1
    cases r with
    | lst h r => exact ⟨_, _, rfl, .inl (.inl (S1.s1 _ _ h)), Post.here S1 q1 (itR_enum (.inl (.inl h)) r)⟩
  · obtain ⟨v, rfl, r⟩ := rpa1 r1
    cases r with
    | fz h r => exact ⟨_, _, rfl, S1.s1.seq h, Post.here S1 q1 (itR_enum h r)⟩
  · exact (show False from q1).elim
end

/-! ### for -/
def loopF (g : D → Ev → Option Ev) (fb : Ev → Rs Fl) : List D → Ev → Rs Fl
  | [], env => .ok env .nx
  | d :: r, env => match g d env with
    | none => .no
    | some e1 => (fb e1).bind fun e fl => match fl with
      | .nx => loopF g fb r e
      | .ct => loopF g fb r e
      | .bk => .ok e .nx
      | .rt d => .ok e (.rt d)
@[reducible] def fFor (fi : Ev → Rs (List D)) (g : D → Ev → Option Ev) (fb : Ev → Rs Fl) (env : Ev) : Rs Fl := (fi env).bind fun e ds => loopF g fb ds e
section
variable {X : Cx} {W : WX} {k : Nat} {tg iter : Expr} {fi : Ev → Rs (List D)} {g : D → Ev → Option Ev} {is : List Nat} {fb : Ev → Rs Fl} {body : List Stmt} {pos : Pos}
theorem ds_for (B : Bd X W k) (hi : DI X W tg iter fi) (hg : DG X tg is g) (hb : DSs X W body fb) (hs : ∀ x, foldedSetIterable iter X.env x = pure x := by intro _; rfl) : DS X W (.For tg iter body [] pos) (fFor fi g fb) := by
  refine ps_mono (ps_for B.hp B.hc hi hg hb hs) fun N σ H q => ?_
  obtain ⟨E, H0, env, S, q⟩ := q
  refine WP.bindS S q fun e1 ds J H1 H' S1 s1 J1 q1 => ?_
  refine ⟨fun i m σ' G => m = ds.length - i ∧ i ≤ ds.length ∧ ∃ G0 e, StR X.K E G0 G σ' e ∧ Same H1 G0 ∧ PostS X.K W E G0 N (loopF g fb (ds.drop i) e), ⟨_, rfl, Nat.zero_le _, H1, e1, S1, Same.refl _, by simpa using q1⟩, ?_⟩
  rintro i m σ' G ⟨rfl, hi, G0, e, SG, sG, qG⟩
  by_cases hlt : i < ds.length
  · right
    have hd : ds[i]? = some ds[i] := by simp [hlt]
    rw [List.drop_eq_getElem_cons hlt] at qG
    refine ⟨J1.go i G (sG.trans SG.s1) hlt, fun σ2 G2 => ∃ G0' e', StR X.K E G0' G2 σ2 e' ∧ Same H1 G0' ∧ PostS X.K W E G0' N (loopF g fb (ds.drop (i + 1)) e'), fun σ2 G2 ⟨G0', e', a1, a2, a3⟩ => ⟨_, Nat.sub_lt_sub_left hlt (Nat.lt_succ_self i), rfl, hlt, G0', e', a1, a2, a3⟩, fun x G2 y => ?_⟩
    obtain ⟨G0', gr, rx⟩ := J1.yld i G0 G x G2 _ sG SG.s1 hd y
    obtain ⟨s3, S3⟩ := SG.gr gr
    have q3 := qG.up s3
    unfold loopF at q3
    cases hge : g ds[i] e with
    | none => rw [hge] at q3; exact (show False from q3).elim
    | some e2 =>
      rw [hge] at q3
      dsimp only at q3
      refine ⟨E, G0', e, _, e2, S3, rx, hge, fun σ3 S4 _ => ⟨E, G0', e2, S4, ?_⟩⟩
      cases hfb : fb e2 with
      | ok e3 fl =>
        rw [hfb] at q3
        cases fl with
        | nx => exact fun σ4 G1 G3 s5 S5 => ⟨G1, e3, S5, (sG.trans s3).trans s5, PostS.up s5 q3⟩
        | ct => exact fun σ4 G1 G3 s5 S5 => ⟨G1, e3, S5, (sG.trans s3).trans s5, PostS.up s5 q3⟩
        | bk => exact q3
        | rt d => exact q3
      | er e3 C fl d =>
        rw [hfb] at q3
        exact q3
      | no =>
        rw [hfb] at q3
        exact q3
  · left
    have e0 : ds.drop i = [] := List.drop_eq_nil_of_le (by omega)
    rw [e0] at qG
    exact ⟨J1.stop i G (sG.trans SG.s1) (by omega), PostS.nx SG qG⟩
end

/-! ### comprehensions -/
/-- the block's own slots forgotten -/
def wipeE (env : Ev) : List Nat → Ev
  | [] => env
  | v :: vs => (wipeE env vs).set v .un
theorem wipeE_length (env : Ev) : ∀ vs, (wipeE env vs).length = env.length
  | [] => rfl
  | v :: vs => by unfold wipeE; rw [List.length_set, wipeE_length env vs]
theorem wipeE_get {env : Ev} {j : Nat} {s : Sl} : ∀ {vs : List Nat}, (wipeE env vs)[j]? = some s → s = .un ∨ (env[j]? = some s ∧ j ∉ vs)
  | [], h => .inr ⟨h, by simp⟩
  | v :: vs, h => by
    unfold wipeE at h
    by_cases e : v = j
    · subst e
      by_cases q : v < (wipeE env vs).length
      · rw [List.getElem?_set_self q] at h; cases h; exact .inl rfl
      · rw [List.getElem?_eq_none (by simp; omega)] at h; cases h
    · rw [List.getElem?_set_ne e] at h
      rcases wipeE_get h with h | ⟨h1, h2⟩
      · exact .inl h
      · exact .inr ⟨h1, by simp only [List.mem_cons, not_or]; exact ⟨fun z => e z.symm, h2⟩⟩
theorem wipeE_out {env : Ev} {j : Nat} : ∀ {vs : List Nat}, j ∉ vs → (wipeE env vs)[j]? = env[j]?
  | [], _ => rfl
  | v :: vs, h => by
    unfold wipeE
    rw [List.getElem?_set_ne (fun e => h (by rw [e]; exact List.mem_cons_self)), wipeE_out fun z => h (List.mem_cons_of_mem _ z)]
/-- the own slots as they were -/
def backE (env0 env : Ev) : List Nat → Ev
  | [] => env
  | v :: vs => (backE env0 env vs).set v ((env0[v]?).getD .un)
theorem backE_length (env0 env : Ev) : ∀ vs, (backE env0 env vs).length = env.length
  | [] => rfl
  | v :: vs => by unfold backE; rw [List.length_set, backE_length env0 env vs]
theorem backE_get {env0 env : Ev} (hl : env.length = env0.length) {j : Nat} {s : Sl} : ∀ {vs : List Nat}, (backE env0 env vs)[j]? = some s → (j ∈ vs ∧ env0[j]? = some s) ∨ (env[j]? = some s ∧ j ∉ vs)
  | [], h => .inr ⟨h, by simp⟩
  | v :: vs, h => by
    unfold backE at h
    by_cases e : v = j
    · subst e
      by_cases q : v < (backE env0 env vs).length
      · rw [List.getElem?_set_self q] at h
        rw [backE_length, hl] at q
        refine .inl ⟨List.mem_cons_self, ?_⟩
        rw [List.getElem?_eq_getElem q] at h ⊢
        exact h
      · rw [List.getElem?_eq_none (by simp; omega)] at h; cases h
    · rw [List.getElem?_set_ne e] at h
      rcases backE_get hl h with ⟨h1, h2⟩ | ⟨h1, h2⟩
      · exact .inl ⟨List.mem_cons_of_mem _ h1, h2⟩
      · exact .inr ⟨h1, by simp only [List.mem_cons, not_or]; exact ⟨fun z => e z.symm, h2⟩⟩
def plainSl : Option Sl → Bool
  | some .un => true
  | some (.sh _) => true
  | _ => false
/-- one item -/
def stepC (vs : List Nat) (g : D → Ev → Option Ev) (ft : Ev → Rs Bool) (fe : Ev → Rs D) (d : D) (acc : List D) (env : Ev) : Option (Ev × List D) := match g d env with
  | none => none
  | some e1 => match ft e1 with
    | .ok e2 true => (match fe e2 with
      | .ok e3 y => if small acc.length = true then some (wipeE e3 vs, acc ++ [y]) else none
      | _ => none)
    | .ok e2 false => some (wipeE e2 vs, acc)
    | _ => none
def loopC (vs : List Nat) (g : D → Ev → Option Ev) (ft : Ev → Rs Bool) (fe : Ev → Rs D) : List D → List D → Ev → Option (Ev × List D)
  | [], acc, env => some (env, acc)
  | d :: r, acc, env => match stepC vs g ft fe d acc env with
    | some (e, a) => loopC vs g ft fe r a e
    | none => none
def fLc (vs : List Nat) (fi : Ev → Rs (List D)) (g : D → Ev → Option Ev) (ft : Ev → Rs Bool) (fe : Ev → Rs D) (env : Ev) : Rs (List D) := (fi env).bind fun e ds =>
  if (vs.all fun v => plainSl e[v]?) = true then match loopC vs g ft fe ds [] (wipeE e vs) with
    | some (e', acc) => .ok (backE e e' vs) acc
    | none => .no
  else .no
section
variable {K : Frag} {E : En} {H0 H H1 H' : Hp} {σ : St} {env : Ev}
theorem wipe_get {σ : St} {j : Nat} : ∀ {vs : List Nat}, (wipe σ vs)[j]? = if j ∈ vs ∧ j < σ.length then some none else σ[j]?
  | [] => by simp [wipe]
  | v :: vs => by
    unfold wipe
    by_cases e : v = j
    · subst e
      by_cases q : v < σ.length
      · rw [List.getElem?_set_self (by rw [wipe_length]; exact q), if_pos ⟨List.mem_cons_self, q⟩]
      · rw [List.getElem?_eq_none (by simp [wipe_length]; omega), if_neg (fun z => q z.2), List.getElem?_eq_none (by omega)]
    · rw [List.getElem?_set_ne e, wipe_get]
      by_cases q : j ∈ vs ∧ j < σ.length
      · rw [if_pos q, if_pos ⟨List.mem_cons_of_mem _ q.1, q.2⟩]
      · rw [if_neg q, if_neg]
        rintro ⟨h1, h2⟩
        rcases List.mem_cons.mp h1 with z | z
        · exact e z.symm
        · exact q ⟨z, h2⟩
theorem wipe_chg {is vs : List Nat} {σ σ' : St} (h : ChgIn is σ σ') (hs : ∀ i ∈ is, i ∈ vs) : wipe σ' vs = wipe σ vs := by
  refine List.ext_getElem? fun j => ?_
  rw [wipe_get, wipe_get, h.1]
  by_cases q : j ∈ vs ∧ j < σ.length
  · rw [if_pos q, if_pos q]
  · rw [if_neg q, if_neg q]
    by_cases z : j ∈ vs
    · have : ¬ j < σ.length := fun y => q ⟨z, y⟩
      rw [List.getElem?_eq_none (by rw [h.1]; omega), List.getElem?_eq_none (by omega)]
    · exact h.2 j fun y => z (hs j y)
/-- the state with the own slots forgotten -/
theorem StR.wiped (S : StR K E H0 H σ env) {vs : List Nat} (hv : ∀ j a, (j, a) ∈ E.refs → j ∉ vs) {σ' : St} (hσ : wipe σ' vs = wipe σ vs) (hl : σ'.length = σ.length) : StR K E H0 H σ' (wipeE env vs) := by
  have get : ∀ j, j ∉ vs → σ'[j]? = σ[j]? := fun j hj => by
    have := congrArg (fun l => l[j]?) hσ
    simp only [wipe_get] at this
    rw [if_neg (fun z => hj z.1), if_neg (fun z => hj z.1)] at this
    exact this
  have has : ∀ j a, Has σ' (wipeE env vs) j a → Has σ env j a := fun j a ⟨e1, e2⟩ => by
    rcases e2 with ⟨o, e2⟩ | ⟨o, e2⟩
    · rcases wipeE_get e2 with z | ⟨z1, z2⟩
      · cases z
      · exact ⟨by rw [← get j z2]; exact e1, .inl ⟨o, z1⟩⟩
    · rcases wipeE_get e2 with z | ⟨z1, z2⟩
      · cases z
      · exact ⟨by rw [← get j z2]; exact e1, .inr ⟨o, z1⟩⟩
  refine { S with len := by rw [hl, wipeE_length]; exact S.len, slot := fun j s e => ?_, refs := fun j a h => ?_, apart := fun i j a h1 h2 => S.apart i j a (has i a h1) (has j a h2), frk := fun a o h => ?_ }
  · rcases wipeE_get e with rfl | ⟨z1, z2⟩
    · exact True.intro
    · rw [get j z2]
      exact S.slot j s z1
  · obtain ⟨o, e1, e2⟩ := S.refs j a h
    have nj : j ∉ vs := hv j a h
    exact ⟨o, by rw [wipeE_out nj]; exact e1, by rw [get j nj]; exact e2⟩
  · obtain ⟨h1, h2, h3⟩ := S.frk a o h
    exact ⟨h1, h2, fun i hi => h3 i (has i a hi)⟩
/-- .. and back -/
theorem StR.back (S : StR K E H0 H σ env) {vs : List Nat} (hv : ∀ v ∈ vs, plainSl env[v]? = true) {env' : Ev} (S' : StR K E H1 H' (wipe σ vs) env') (s : Same H0 H1) : StR K E H1 H' σ (backE env env' vs) := by
  have hl : env'.length = env.length := by rw [← S'.len, wipe_length, S.len]
  have get : ∀ j, j ∉ vs → (wipe σ vs)[j]? = σ[j]? := fun j hj => by rw [wipe_get, if_neg (fun z => hj z.1)]
  have key : ∀ j s, (backE env env' vs)[j]? = some s → (j ∈ vs ∧ env[j]? = some s ∧ (s = .un ∨ ∃ d, s = .sh d)) ∨ (env'[j]? = some s ∧ j ∉ vs) := fun j s e => by
    rcases backE_get hl e with ⟨h1, h2⟩ | h
    · refine .inl ⟨h1, h2, ?_⟩
      have := hv j h1
      rw [h2] at this
      cases s with
      | un => exact .inl rfl
      | sh d => exact .inr ⟨d, rfl⟩
      | ow o => cases this
      | rf o => cases this
    · exact .inr h
  have keyR : ∀ j s, env'[j]? = some s → j ∉ vs → (backE env env' vs)[j]? = some s := by
    intro j s e hj
    clear key
    induction vs with
    | nil => exact e
    | cons v vs ih =>
      unfold backE
      rw [List.getElem?_set_ne (fun z => hj (by rw [z]; exact List.mem_cons_self))]
      have hj' : j ∉ vs := fun z => hj (List.mem_cons_of_mem _ z)
      clear ih
      -- by the plain recursion
      have all : ∀ us : List Nat, j ∉ us → (backE env env' us)[j]? = some s := by
        intro us
        induction us with
        | nil => exact fun _ => e
        | cons u us ih =>
          intro h
          unfold backE
          rw [List.getElem?_set_ne (fun z => h (by rw [z]; exact List.mem_cons_self))]
          exact ih fun z => h (List.mem_cons_of_mem _ z)
      exact all vs hj'
  have has : ∀ j a, Has σ (backE env env' vs) j a → Has (wipe σ vs) env' j a := fun j a ⟨e1, e2⟩ => by
    rcases e2 with ⟨o, e2⟩ | ⟨o, e2⟩
    · rcases key j _ e2 with ⟨_, _, z | ⟨d, z⟩⟩ | ⟨z1, z2⟩
      · cases z
      · cases z
      · exact ⟨by rw [get j z2]; exact e1, .inl ⟨o, z1⟩⟩
    · rcases key j _ e2 with ⟨_, _, z | ⟨d, z⟩⟩ | ⟨z1, z2⟩
      · cases z
      · cases z
      · exact ⟨by rw [get j z2]; exact e1, .inr ⟨o, z1⟩⟩
  refine { S' with len := by rw [backE_length, hl]; exact S.len, slot := fun j t e => ?_, refs := fun j a h => ?_, apart := fun i j a h1 h2 => S'.apart i j a (has i a h1) (has j a h2), frk := fun a o h => ?_ }
  · rcases key j t e with ⟨h1, h2, h3⟩ | ⟨z1, z2⟩
    · rcases h3 with rfl | ⟨d, rfl⟩
      · exact True.intro
      · obtain ⟨v, e1, r⟩ := S.sh h2
        exact ⟨v, e1, r.mono s⟩
    · have := S'.slot j t z1
      rw [get j z2] at this
      exact this
  · obtain ⟨o, e1, e2⟩ := S'.refs j a h
    have nj : j ∉ vs := fun z => by
      rw [wipe_get] at e2
      split at e2
      · cases e2
      · rename_i q
        have : ¬ j < σ.length := fun y => q ⟨z, y⟩
        rw [List.getElem?_eq_none (by omega)] at e2
        cases e2
    exact ⟨o, keyR j _ e1 nj, by rw [← get j nj]; exact e2⟩
  · obtain ⟨h1, h2, h3⟩ := S'.frk a o h
    exact ⟨h1, h2, fun i hi => h3 i (has i a hi)⟩
/-- with a thing more that is to stand -/
def En.and (E : En) (a : Addr) (o : HO) : En := { E with fr := upd E.fr a o }
theorem StR.and (S : StR K E H0 H σ env) {a : Addr} {o : HO} (e : H a = some o) (n : H0 a = none) (h : ∀ i, ¬ Has σ env i a) : StR K (E.and a o) H0 H σ env := by
  refine ⟨S.s0, S.s1, S.old, S.kept, S.len, fun i s q => ?_, S.refs, S.apart, fun b u q => ?_⟩
  · have x := S.slot i s q
    cases s <;> exact x
  · by_cases z : b = a
    · subst z
      have q : upd E.fr b o b = some u := q
      rw [upd_same] at q
      cases q
      exact ⟨e, n, h⟩
    · have q : upd E.fr a o b = some u := q
      rw [upd_ne z] at q
      exact S.frk b u q
theorem StR.unand {a : Addr} {o : HO} (S : StR K (E.and a o) H0 H σ env) (n : E.fr a = none) : StR K E H0 H σ env ∧ H a = some o ∧ H0 a = none ∧ ∀ i, ¬ Has σ env i a := by
  obtain ⟨h1, h2, h3⟩ := S.frk a o (show upd E.fr a o a = some o from upd_same)
  refine ⟨⟨S.s0, S.s1, S.old, S.kept, S.len, fun i s q => ?_, S.refs, S.apart, fun b u q => ?_⟩, h1, h2, h3⟩
  · have x := S.slot i s q
    cases s <;> exact x
  · by_cases z : b = a
    · subst z; rw [n] at q; cases q
    · exact S.frk b u (show upd E.fr a o b = some u by rw [upd_ne z]; exact q)
end
end DL

end

section
set_option Elab.async false
set_option linter.all false
set_option maxRecDepth 100000
set_option maxHeartbeats 2000000
/-! DD: comprehensions, defs and calls. -/
namespace DL
open PySem L2
section
variable {K : Frag} {E : En} {H0 H H1 H' : Hp} {σ : St} {env : Ev}
theorem StR.noRef (S : StR K E H0 H σ env) {vs : List Nat} (hv : ∀ v ∈ vs, plainSl env[v]? = true) : ∀ j a, (j, a) ∈ E.refs → j ∉ vs := fun j a h z => by
  obtain ⟨o, e1, _⟩ := S.refs j a h
  have := hv j z
  rw [e1] at this; cases this
/-- an untracked thing of nobody's changes -/
theorem StR.updU (S : StR K E H0 H σ env) {a : Addr} {o : HO} (n0 : H0 a = none) (nE : E.H a = none) (nf : E.fr a = none) (nh : ∀ i, ¬ Has σ env i a) : StR K E H0 (upd H a o) σ env := by
  refine ⟨S.s0, fun b u q => ?_, S.old, fun b u q h => ?_, S.len, fun i s q => ?_, S.refs, S.apart, fun b u q => ?_⟩
  · rw [upd_ne (ne_of_none q n0)]
    exact S.s1 _ _ q
  · rw [upd_ne (ne_of_none q nE)]
    exact S.kept _ _ q h
  · have x := S.slot i s q
    cases s with
    | un => exact True.intro
    | sh d => exact x
    | ow ob =>
      obtain ⟨b, e1, n, n0', r⟩ := x
      have nb : b ≠ a := by rintro rfl; exact nh i ⟨e1, .inl ⟨_, q⟩⟩
      exact ⟨b, e1, n, n0', r.mono (Same.refl _) (upd_ne nb)⟩
    | rf ob =>
      obtain ⟨b, e1, n, n0', r⟩ := x
      have nb : b ≠ a := by rintro rfl; exact nh i ⟨e1, .inr ⟨_, q⟩⟩
      exact ⟨b, e1, n, n0', r.mono (Same.refl _) (upd_ne nb)⟩
  · obtain ⟨h1, h2, h3⟩ := S.frk b u q
    have nb : b ≠ a := by rintro rfl; rw [nf] at q; cases q
    exact ⟨by rw [upd_ne nb]; exact h1, h2, h3⟩
theorem Gr.at_ {a : Addr} {u : HO} (g : Gr H0 H H1 H') (e : H a = some u) : H' a = some u ∧ H1 a = H0 a := by
  cases g with
  | refl => exact ⟨e, rfl⟩
  | new o n => exact ⟨by rw [upd_ne (ne_of_none e n)]; exact e, by rw [upd_ne (ne_of_none e n)]⟩
theorem wipe_wipe {vs : List Nat} {σ : St} : wipe (wipe σ vs) vs = wipe σ vs := by
  refine List.ext_getElem? fun j => ?_
  rw [wipe_get, wipe_get, wipe_length]
  by_cases q : j ∈ vs ∧ j < σ.length
  · simp [q]
  · simp [q]
theorem has_wipe {vs : List Nat} {env : Ev} {σ σ2 : St} (hσ : wipe σ2 vs = wipe σ vs) {i : Nat} {a : Addr} (h : Has (wipe σ vs) (wipeE env vs) i a) : Has σ2 env i a := by
  obtain ⟨e1, e2⟩ := h
  have key : ∀ s, (wipeE env vs)[i]? = some s → s ≠ .un → env[i]? = some s ∧ i ∉ vs := fun s e ne => by
    rcases wipeE_get e with z | z
    · exact absurd z ne
    · exact z
  have get : i ∉ vs → σ2[i]? = some (some (.ref a)) := fun hi => by
    rw [← hσ, wipe_get, if_neg (fun z => hi z.1)] at e1
    exact e1
  rcases e2 with ⟨o, e2⟩ | ⟨o, e2⟩
  · obtain ⟨z1, z2⟩ := key _ e2 (fun z => nomatch z)
    exact ⟨get z2, .inl ⟨o, z1⟩⟩
  · obtain ⟨z1, z2⟩ := key _ e2 (fun z => nomatch z)
    exact ⟨get z2, .inr ⟨o, z1⟩⟩
end
abbrev DTs (X : Cx) (W : WX) (es : List Expr) (f : Ev → Rs Bool) : Prop := PTs X es (tDT X.K W f)
@[reducible] def fYes (env : Ev) : Rs Bool := .ok env true
section
variable {X : Cx} {W : WX} {k : Nat} {tg iter elt c : Expr} {ifs : List Expr} {fi : Ev → Rs (List D)} {g : D → Ev → Option Ev} {is : List Nat} {ft : Ev → Rs Bool} {fe : Ev → Rs D} {pos : Pos} {scope : Scope} {own : List (Str × Nat)}
theorem dts_nil : DTs X W [] fYes := ⟨fun pins s σ H Q I h => by
  obtain ⟨E, H0, env, S, q⟩ := h
  exact pts_nil.run pins s σ H Q I (Post.here S q rfl)⟩
theorem dts_one (h : DT X W c ft) : DTs X W [c] ft := pts_one h
theorem lc_read {vs : List Nat} (his : ∀ i ∈ is, i ∈ vs) {σ : St} {H : Hp} {Q : VK} (q : WP X.K W (RF X.K) (fLc vs fi g ft fe) σ H Q) : tLc (WP X.K W (RI X.K) fi) (tDG X.K is g) (tDT X.K W0 ft) (tDE X.K W0 fe) vs σ H Q := by
  obtain ⟨E, H0, env, S, q⟩ := q
  refine WP.bind S q fun e1 ds J H1 H' S1 s1 J1 q1 D hD => ?_
  by_cases hv : (vs.all fun v => plainSl e1[v]?) = true
  rotate_left
  · rw [if_neg hv] at q1
    exact (show False from q1).elim
  rw [if_pos hv] at q1
  have hv : ∀ v ∈ vs, plainSl e1[v]? = true := List.all_eq_true.mp hv
  have nr := S1.noRef hv
  have nE := S1.live hD
  have nf : E.fr D = none := by
    cases z : E.fr D with
    | none => rfl
    | some o => rw [(S1.frk D o z).1] at hD; cases hD
  have SW : StR X.K E H1 H' (wipe σ vs) (wipeE e1 vs) := S1.wiped nr wipe_wipe (wipe_length _ _)
  have nhD : ∀ i, ¬ Has (wipe σ vs) (wipeE e1 vs) i D := fun i h => by
    obtain ⟨_, o, e⟩ := SW.has h
    rw [e] at hD; cases hD
  refine ⟨fun i m G => m = ds.length - i ∧ i ≤ ds.length ∧ ∃ G0 e acc vacc, StR X.K E G0 G (wipe σ vs) e ∧ Same H1 G0 ∧ G D = some (.lst vacc) ∧ G0 D = none ∧ (∀ i, ¬ Has (wipe σ vs) e i D) ∧ RpA X.K G0 acc vacc ∧
      ∃ e' accf, loopC vs g ft fe (ds.drop i) acc e = some (e', accf) ∧ Post X.K W (RF X.K) E H1 σ Q (.ok (backE e1 e' vs) accf), ?_, ?_⟩
  · refine ⟨_, rfl, Nat.zero_le _, H1, wipeE e1 vs, [], [], SW.newU _ hD, Same.refl _, upd_same, S1.s1.free hD, nhD, .nil, ?_⟩
    rw [List.drop_zero]
    cases hl : loopC vs g ft fe ds [] (wipeE e1 vs) with
    | none => rw [hl] at q1; exact (show False from q1).elim
    | some r =>
      obtain ⟨e', accf⟩ := r
      rw [hl] at q1
      exact ⟨e', accf, rfl, q1⟩
  · rintro i m G ⟨rfl, hi, G0, e, acc, vacc, SG, sG, eD, n0, nh, ra, e', accf, hl, qf⟩
    by_cases hlt : i < ds.length
    · right
      have hd : ds[i]? = some ds[i] := by simp [hlt]
      rw [List.drop_eq_getElem_cons hlt] at hl
      unfold loopC at hl
      refine ⟨J1.go i G (sG.trans SG.s1) hlt, fun G => ∃ G0 e acc vacc, StR X.K E G0 G (wipe σ vs) e ∧ Same H1 G0 ∧ G D = some (.lst vacc) ∧ G0 D = none ∧ (∀ i, ¬ Has (wipe σ vs) e i D) ∧ RpA X.K G0 acc vacc ∧
        ∃ e' accf, loopC vs g ft fe (ds.drop (i + 1)) acc e = some (e', accf) ∧ Post X.K W (RF X.K) E H1 σ Q (.ok (backE e1 e' vs) accf), fun G' h => ⟨_, Nat.sub_lt_sub_left hlt (Nat.lt_succ_self i), rfl, hlt, h⟩, fun x G2 y => ?_⟩
      obtain ⟨G0', gr, rx⟩ := J1.yld i G0 G x G2 _ sG SG.s1 hd y
      obtain ⟨s3, S3⟩ := SG.gr gr
      obtain ⟨eD2, n02⟩ := gr.at_ eD
      have S3' := S3.and eD2 (n02.trans n0) nh
      cases hst : stepC vs g ft fe ds[i] acc e with
      | none => rw [hst] at hl; cases hl
      | some r =>
        obtain ⟨er, accr⟩ := r
        rw [hst] at hl
        dsimp only at hl
        unfold stepC at hst
        cases hge : g ds[i] e with
        | none => rw [hge] at hst; cases hst
        | some e2 =>
          rw [hge] at hst
          dsimp only at hst
          refine ⟨_, G0', e, _, e2, S3', rx, hge, fun σ2 S4 c4 => ?_⟩
          have hw : wipe σ2 vs = wipe σ vs := (wipe_chg c4 his).trans wipe_wipe
          have hwl : σ2.length = σ.length := c4.1.trans (wipe_length _ _)
          have fin : ∀ {G1 G3 : Hp} {e3 : Ev} {acc2 : List DL.D} {vacc2 : List V} {σ2 : St}, wipe σ2 vs = wipe σ vs → StR X.K (E.and D (.lst vacc)) G1 G3 σ2 e3 → Same H1 G1 → RpA X.K G1 acc2 vacc2 → (er, accr) = (wipeE e3 vs, acc2) → ∀ G4, (G4 = G3 ∧ vacc2 = vacc ∨ G4 = upd G3 D (.lst vacc2)) →
              ∃ G0 e acc vacc, StR X.K E G0 G4 (wipe σ vs) e ∧ Same H1 G0 ∧ G4 D = some (.lst vacc) ∧ G0 D = none ∧ (∀ i, ¬ Has (wipe σ vs) e i D) ∧ RpA X.K G0 acc vacc ∧
              ∃ e' accf, loopC vs g ft fe (ds.drop (i + 1)) acc e = some (e', accf) ∧ Post X.K W (RF X.K) E H1 σ Q (.ok (backE e1 e' vs) accf) := by
            intro G1 G3 e3 acc2 vacc2 σ2 hw S5 s5 r5 eq G4 h4
            obtain ⟨S6, eD6, n06, nh6⟩ := S5.unand nf
            cases eq
            have hwl2 : σ2.length = σ.length := by
              have := congrArg List.length hw
              simpa [wipe_length] using this
            have S7 : StR X.K E G1 G3 (wipe σ vs) (wipeE e3 vs) := S6.wiped nr (by rw [wipe_wipe]; exact hw.symm) (by rw [wipe_length]; exact hwl2.symm)
            have nh7 : ∀ i, ¬ Has (wipe σ vs) (wipeE e3 vs) i D := fun i h => nh6 i (has_wipe hw h)
            rcases h4 with ⟨rfl, rfl⟩ | rfl
            · exact ⟨G1, _, _, _, S7, s5, eD6, n06, nh7, r5, _, _, hl, qf⟩
            · exact ⟨G1, _, _, _, S7.updU n06 nE nf nh7, s5, upd_same, n06, nh7, r5, _, _, hl, qf⟩
          refine ⟨hw, _, G0', e2, S4, ?_⟩
          cases hft : ft e2 with
          | ok e3 b =>
            rw [hft] at hst
            cases b with
            | true =>
              dsimp only at hst
              intro b' G1 G3 s5 S5 eb
              have eb : true = b' := eb
              subst eb
              refine iteT ⟨_, G1, e3, S5, ?_⟩
              cases hfe : fe e3 with
              | ok e4 yy =>
                rw [hfe] at hst
                dsimp only at hst
                split at hst
                · rename_i hsm
                  intro v G1' G3' s6 S6 r6
                  obtain ⟨_, eD6, _, _⟩ := S6.unand nf
                  have s7 := ((sG.trans s3).trans s5).trans s6
                  refine ⟨vacc, eD6, by rw [← ra.length]; exact small1000 (small_le hsm), ?_⟩
                  exact fin hw S6 s7 ((ra.mono ((s3.trans s5).trans s6)).append (.cons r6 .nil)) (Option.some.inj hst).symm _ (.inr rfl)
                · cases hst
              | er => rw [hfe] at hst; cases hst
              | no => rw [hfe] at hst; cases hst
            | false =>
              dsimp only at hst
              intro b' G1 G3 s5 S5 eb
              have eb : false = b' := eb
              subst eb
              exact iteF (fin hw S5 ((sG.trans s3).trans s5) (ra.mono (s3.trans s5)) (Option.some.inj hst).symm _ (.inl ⟨rfl, rfl⟩))
          | er => rw [hft] at hst; cases hst
          | no => rw [hft] at hst; cases hst
    · left
      have e0 : ds.drop i = [] := List.drop_eq_nil_of_le (by omega)
      rw [e0] at hl
      unfold loopC at hl
      cases hl
      refine ⟨J1.stop i G (sG.trans SG.s1) (by omega), ?_⟩
      have SB := S1.back hv SG sG
      refine qf _ G0 G sG SB ⟨D, vacc, rfl, n0, nE, nf, fun i h => ?_, eD, ra⟩
      -- slots of the end
      obtain ⟨c1, c2⟩ := h
      have hle : e.length = e1.length := by rw [← SG.len, wipe_length, S1.len]
      have : ∀ s, (backE e1 e vs)[i]? = some s → (∃ o, s = .ow o ∨ s = .rf o) → e[i]? = some s ∧ i ∉ vs := fun s es ho => by
        rcases backE_get hle es with ⟨z1, z2⟩ | z
        · have := hv i z1
          rw [z2] at this
          obtain ⟨o, rfl | rfl⟩ := ho <;> cases this
        · exact z
      rcases c2 with ⟨o, c2⟩ | ⟨o, c2⟩
      · obtain ⟨z1, z2⟩ := this _ c2 ⟨o, .inl rfl⟩
        exact nh i ⟨by rw [wipe_get, if_neg (fun z => z2 z.1)]; exact c1, .inl ⟨o, z1⟩⟩
      · obtain ⟨z1, z2⟩ := this _ c2 ⟨o, .inr rfl⟩
        exact nh i ⟨by rw [wipe_get, if_neg (fun z => z2 z.1)]; exact c1, .inr ⟨o, z1⟩⟩
theorem df_lc (B : Bd X W k) (hi : DI X W tg iter fi) (ok : BlkOk X.N X.env.scope scope own) (his : ∀ i ∈ is, i ∈ own.map (·.2))
    (hg : ∀ (s : Shared) (H : Hp) (C : Addr) (cl : List (Str × Addr)) (fp : List Addr), DG (X.blk s H scope (compEnvC scope cl C X.env) fp) tg is g)
    (ht : ∀ (s : Shared) (H : Hp) (C : Addr) (cl : List (Str × Addr)) (fp : List Addr), DTs (X.blk s H scope (compEnvC scope cl C X.env) fp) W0 ifs ft)
    (he : ∀ (s : Shared) (H : Hp) (C : Addr) (cl : List (Str × Addr)) (fp : List Addr), DE (X.blk s H scope (compEnvC scope cl C X.env) fp) W0 elt fe) (hs : ∀ x, foldedSetIterable iter X.env x = pure x := by intro _; rfl) :
    DF X W (.ListComp elt [⟨tg, iter, ifs, 0⟩] scope pos) (fLc (own.map (·.2)) fi g ft fe) :=
  pe_mono (pe_lc (g := tDG X.K is g) (tt := tDT X.K W0 ft) (te := tDE X.K W0 fe) B.hc B.nd hi ok hg ht he hs) fun σ H Q q => lc_read his q
/-- name = [..] -/
theorem ds_setLc {i : Nat} {y : Str} {py spos : Pos} (B : Bd X W k) (hi : DI X W tg iter fi) (ok : BlkOk X.N X.env.scope scope own) (his : ∀ i ∈ is, i ∈ own.map (·.2))
    (hg : ∀ (s : Shared) (H : Hp) (C : Addr) (cl : List (Str × Addr)) (fp : List Addr), DG (X.blk s H scope (compEnvC scope cl C X.env) fp) tg is g)
    (ht : ∀ (s : Shared) (H : Hp) (C : Addr) (cl : List (Str × Addr)) (fp : List Addr), DTs (X.blk s H scope (compEnvC scope cl C X.env) fp) W0 ifs ft)
    (he : ∀ (s : Shared) (H : Hp) (C : Addr) (cl : List (Str × Addr)) (fp : List Addr), DE (X.blk s H scope (compEnvC scope cl C X.env) fp) W0 elt fe)
    (hsw : swapsWith (.ListComp elt [⟨tg, iter, ifs, 0⟩] scope pos) (some (.Name y py)) spos.line X.env = pure true) (hy : X.N[i]? = some y := by rfl) (hyl : X.env.scope.names.lookup y = some .local := by rfl) (hs : ∀ x, foldedSetIterable iter X.env x = pure x := by intro _; rfl) :
    DS X W (.Assign [.Name y py] (.ListComp elt [⟨tg, iter, ifs, 0⟩] scope pos) spos) (fSet i (fSh (fLc (own.map (·.2)) fi g ft fe))) := by
  refine ps_mono (ps_setLc (i := i) (g := tDG X.K is g) (tt := tDT X.K W0 ft) (te := tDE X.K W0 fe) B.hc B.nd hy hyl hsw hi ok hg ht he hs) fun N σ H q => lc_read his ?_
  obtain ⟨E, H0, env, S, q⟩ := q
  have q' : PostS X.K W E H0 N ((fLc (own.map (·.2)) fi g ft fe env).bind fun e ds => match put e i (.sh (.lst ds)) with | some e' => .ok e' .nx | none => .no) := by
    cases h : fLc (own.map (·.2)) fi g ft fe env with
    | ok e x =>
      simp only [fSet, fSh, h] at q
      exact q
    | er =>
      simp only [fSet, fSh, h] at q
      exact q
    | no =>
      simp only [fSet, fSh, h] at q
      exact q
  refine WP.bindS S q' fun e1 ds v H1 H' S1 s1 r1 q1 => ?_
  by_cases hfr : free e1[i]? = true
  · simp only [put, if_pos hfr] at q1
    obtain ⟨G, s, S2, r⟩ := S1.share r1
    exact q1 _ G H' s (S2.putSh hfr r)
  · simp only [put, if_neg hfr] at q1
    exact (show False from q1).elim
/-- .. as a list of the slot's own -/
theorem ds_setLcO {i : Nat} {y : Str} {py spos : Pos} (B : Bd X W k) (hi : DI X W tg iter fi) (ok : BlkOk X.N X.env.scope scope own) (his : ∀ i ∈ is, i ∈ own.map (·.2))
    (hg : ∀ (s : Shared) (H : Hp) (C : Addr) (cl : List (Str × Addr)) (fp : List Addr), DG (X.blk s H scope (compEnvC scope cl C X.env) fp) tg is g)
    (ht : ∀ (s : Shared) (H : Hp) (C : Addr) (cl : List (Str × Addr)) (fp : List Addr), DTs (X.blk s H scope (compEnvC scope cl C X.env) fp) W0 ifs ft)
    (he : ∀ (s : Shared) (H : Hp) (C : Addr) (cl : List (Str × Addr)) (fp : List Addr), DE (X.blk s H scope (compEnvC scope cl C X.env) fp) W0 elt fe)
    (hsw : swapsWith (.ListComp elt [⟨tg, iter, ifs, 0⟩] scope pos) (some (.Name y py)) spos.line X.env = pure true) (hy : X.N[i]? = some y := by rfl) (hyl : X.env.scope.names.lookup y = some .local := by rfl) (hs : ∀ x, foldedSetIterable iter X.env x = pure x := by intro _; rfl) :
    DS X W (.Assign [.Name y py] (.ListComp elt [⟨tg, iter, ifs, 0⟩] scope pos) spos) (fSetO i (fLc (own.map (·.2)) fi g ft fe)) := by
  refine ps_mono (ps_setLc (i := i) (g := tDG X.K is g) (tt := tDT X.K W0 ft) (te := tDE X.K W0 fe) B.hc B.nd hy hyl hsw hi ok hg ht he hs) fun N σ H q => lc_read his ?_
  obtain ⟨E, H0, env, S, q⟩ := q
  refine WP.bindS S q fun e1 ds v H1 H' S1 s1 r1 q1 => ?_
  by_cases hfr : free e1[i]? = true
  · simp only [put, if_pos hfr] at q1
    exact q1 _ H1 H' (Same.refl _) (S1.putOw hfr r1)
  · simp only [put, if_neg hfr] at q1
    exact (show False from q1).elim
end

theorem Bd.blk {X : Cx} {W : WX} {k : Nat} (B : Bd X W k) {s : Shared} {H : Hp} {scope : Scope} {cenv : PySem.Env} {fp : List Addr} : Bd (X.blk s H scope cenv fp) W0 k :=
  ⟨takes0, PassesOwn.never, B.hc, B.nd, B.hr⟩
/-! ### defs and their promises -/
/-- the arguments: shared values, the caller's objects -/
structure ArgR (K : Frag) (H0 H : Hp) (as : List Sl) (vs : List V) : Prop where
  len : as.length = vs.length
  arg : ∀ (i : Nat) (s : Sl), as[i]? = some s → (∃ d v, s = .sh d ∧ vs[i]? = some v ∧ Rp K H0 d v) ∨ ∃ o a, s = .rf o ∧ vs[i]? = some (.ref a) ∧ H0 a = none ∧ ObR K H0 H a o
  apart : ∀ (i j : Nat) (a : Addr) (o o' : Ob), as[i]? = some (.rf o) → as[j]? = some (.rf o') → vs[i]? = some (.ref a) → vs[j]? = some (.ref a) → i = j
structure Aft (K : Frag) (H0 H : Hp) (as : List Sl) (vs : List V) (e : Ev) (H1 H' : Hp) : Prop where
  s0 : Same H0 H1
  s1 : Same H1 H'
  new : ∀ b, H b ≠ none → H1 b = H0 b
  kept : ∀ b u, H b = some u → (∀ (i : Nat) (o : Ob), as[i]? = some (.rf o) → vs[i]? ≠ some (.ref b)) → H' b = some u
  refs : ∀ (i : Nat) (o : Ob) (a : Addr), as[i]? = some (.rf o) → vs[i]? = some (.ref a) → ∃ o', e[i]? = some (.rf o') ∧ ObR K H1 H' a o'
/-- what is handed back, at the caller's -/
def RBack (K : Frag) (H H1 H' : Hp) (v : V) : Dr → Prop
  | .sh d => Rp K H1 d v
  | .fr ds => ∃ a vs, v = .ref a ∧ H1 a = none ∧ H a = none ∧ H' a = some (.lst vs) ∧ RpA K H1 ds vs
def PostD (K : Frag) (H0 H : Hp) (as : List Sl) (vs : List V) (Q : VK) (E : XK) : Rs Dr → Prop
  | .ok e r => ∀ v H1 H', Aft K H0 H as vs e H1 H' → RBack K H H1 H' v r → Q v H'
  | .er e C fl d => ∀ v dd H1 H', Aft K H0 H as vs e H1 H' → Rp K H1 d v → H1 dd = some (.xd [(fl, v)]) → E (.ref C) (some dd) H'
  | .no => False
def spD (K : Frag) (n : Nat) (g : List Sl → Rs Dr) : Sp := fun vs H Q E => vs.length = n ∧ ∃ H0 as, Same H0 H ∧ ArgR K H0 H as vs ∧ PostD K H0 H as vs Q E (g as)
/-- a body's function as a def's -/
def gOf (m : Nat) (f : Ev → Rs Fl) (as : List Sl) : Rs Dr := match f (as ++ List.replicate (m - as.length) .un) with
  | .ok e .nx => .ok e (.sh .non)
  | .ok e (.rt d) => .ok e d
  | .er e C fl d => .er e C fl d
  | _ => .no
def refsOf (as : List Sl) (vs : List V) : List (Nat × Addr) := (List.range as.length).filterMap fun (i : Nat) => match as[i]?, vs[i]? with
  | some (.rf _), some (.ref a) => some (i, a)
  | _, _ => none
theorem mem_refsOf {as : List Sl} {vs : List V} {i : Nat} {a : Addr} : (i, a) ∈ refsOf as vs ↔ (∃ o, as[i]? = some (.rf o)) ∧ vs[i]? = some (.ref a) := by
  unfold refsOf
  rw [List.mem_filterMap]
  constructor
  · rintro ⟨j, hj, e⟩
    split at e
    · rename_i o b h1 h2
      cases e
      exact ⟨⟨o, h1⟩, h2⟩
    · cases e
  · rintro ⟨⟨o, h1⟩, h2⟩
    refine ⟨i, List.mem_range.mpr (List.getElem?_eq_some_iff.mp h1).1, ?_⟩
    rw [h1, h2]
theorem start_get {N : List Str} {vs : List V} {i : Nat} {v : V} (h : vs[i]? = some v) : (L2.start N vs)[i]? = some (some v) := by
  unfold L2.start
  have hi := (List.getElem?_eq_some_iff.mp h).1
  rw [List.getElem?_append_left (by simpa using hi), List.getElem?_map, h]
  rfl
theorem entry {K : Frag} {H0 H : Hp} {as : List Sl} {vs : List V} {N : List Str} (A : ArgR K H0 H as vs) (s : Same H0 H) (hn : as.length ≤ N.length) :
    StR K ⟨H0, H, refsOf as vs, fun _ => none⟩ H0 H (L2.start N vs) (as ++ List.replicate (N.length - as.length) Sl.un) := by
  have get : ∀ (i : Nat) (t : Sl), (as ++ List.replicate (N.length - as.length) Sl.un)[i]? = some t → as[i]? = some t ∨ t = .un := fun i t e => by
    by_cases hi : i < as.length
    · rw [List.getElem?_append_left hi] at e; exact .inl e
    · rw [List.getElem?_append_right (by omega), List.getElem?_replicate] at e
      split at e
      · exact .inr (by cases e; rfl)
      · cases e
  have has : ∀ i a, Has (L2.start N vs) (as ++ List.replicate (N.length - as.length) Sl.un) i a → (∃ o, as[i]? = some (.rf o)) ∧ vs[i]? = some (.ref a) := fun i a ⟨e1, e2⟩ => by
    have key : ∀ (t : Sl), (as ++ List.replicate (N.length - as.length) Sl.un)[i]? = some t → t ≠ .un → as[i]? = some t := fun t e ne => (get i t e).resolve_right ne
    rcases e2 with ⟨o, e2⟩ | ⟨o, e2⟩
    · have q := key _ e2 (fun z => nomatch z)
      rcases A.arg i _ q with ⟨d, v, z, _⟩ | ⟨o', b, z, _⟩ <;> cases z
    · have q := key _ e2 (fun z => nomatch z)
      rcases A.arg i _ q with ⟨d, v, z, _⟩ | ⟨o', b, z, e3, _⟩
      · cases z
      · rw [start_get e3] at e1
        cases e1
        exact ⟨⟨o, q⟩, e3⟩
  refine ⟨Same.refl _, s, fun _ _ => rfl, fun _ _ e _ => e, ?_, fun i t e => ?_, fun i a h => ?_, fun i j a h1 h2 => ?_, fun _ _ h => nomatch h⟩
  · unfold L2.start
    have := A.len
    simp
    omega
  · rcases get i t e with q | rfl
    · rcases A.arg i t q with ⟨d, v, rfl, e1, r⟩ | ⟨o, a, rfl, e1, n, r⟩
      · exact ⟨v, start_get e1, r⟩
      · exact ⟨a, start_get e1, mem_refsOf.mpr ⟨⟨o, q⟩, e1⟩, n, r⟩
    · exact True.intro
  · obtain ⟨⟨o, e1⟩, e2⟩ := mem_refsOf.mp h
    exact ⟨o, by rw [List.getElem?_append_left (List.getElem?_eq_some_iff.mp e1).1]; exact e1, start_get e2⟩
  · obtain ⟨⟨o, q1⟩, q2⟩ := has i a h1
    obtain ⟨⟨o', q3⟩, q4⟩ := has j a h2
    exact A.apart i j a o o' q1 q3 q2 q4
theorem StR.aft {K : Frag} {H0 H H1 H' : Hp} {as : List Sl} {vs : List V} {σ : St} {e : Ev} (S : StR K ⟨H0, H, refsOf as vs, fun _ => none⟩ H1 H' σ e) : Aft K H0 H as vs e H1 H' where
  s0 := S.s0
  s1 := S.s1
  new := S.old
  kept := fun b u q h => S.kept b u q fun i hi => by
    obtain ⟨⟨o, e1⟩, e2⟩ := mem_refsOf.mp hi
    exact h i o e1 e2
  refs := fun i o a e1 e2 => by
    obtain ⟨o', q1, q2⟩ := S.refs i a (mem_refsOf.mpr ⟨⟨o, e1⟩, e2⟩)
    obtain ⟨b, q3, _, _, r⟩ := S.slot i _ q1
    rw [q2] at q3
    cases q3
    exact ⟨o', q1, r⟩
section
variable {P : Program} {w : World} {K : Frag} {mg : Str → Option Value} {base : Heap} {x qual : Str} {params : Arguments} {body : List Stmt} {scope : Scope} {dvs : List V} {kws : List (Str × V)} {f : Addr} {fd : FuncData} {N ps : List Str} {k : Nat}
/-- THE RULE for a def: its body's function -/
theorem def_ok {fb : Ev → Rs Fl} (F : FunD K x qual params body scope dvs kws f fd) (S : FnScope N ps scope)
    (hb : ∀ (cdv : Value) (A : Around) (outer : List Env) (s : Shared) (H : Hp) (E : XK), Bd (cxOf (L2.CX P w) P w K mg base N qual scope f cdv A outer s H E) (fun cls d _ H => E cls d H) k → DSs (cxOf (L2.CX P w) P w K mg base N qual scope f cdv A outer s H E) (fun cls d _ H => E cls d H) body fb) :
    FnOk P w K mg base (L2.CX P w) (k + 1) f fd ps (spD K ps.length (gOf N.length fb)) := by
  refine F.ok S (fun vs H Q E h => h.1) fun cdv A outer s H vs Q E hr h => ⟨tDS K (fun cls d _ H => E cls d H) fb, hb cdv A outer s H E ⟨takes_of rfl rfl rfl rfl, passes_of rfl, rfl, S.nd, hr⟩, ?_⟩
  obtain ⟨hl, H0, as, sm, A, h⟩ := h
  have hpl : ps.length ≤ N.length := by have := congrArg List.length S.pre; rw [List.length_take] at this; omega
  refine ⟨_, H0, _, entry (N := N) A sm (by rw [A.len, hl]; exact hpl), ?_⟩
  unfold gOf at h
  cases e : fb (as ++ List.replicate (N.length - as.length) .un) with
  | ok e' fl =>
    rw [e] at h
    cases fl with
    | nx => exact fun σ' H1 H' _ S' => h .non H1 H' S'.aft Rp.non
    | rt d =>
      intro v σ' H1 H' _ S' r
      refine h v H1 H' S'.aft ?_
      cases d with
      | sh d => exact r
      | fr ds =>
        obtain ⟨a, vs, rfl, n0, nE, nf, nh, e, r⟩ := r
        exact ⟨a, vs, rfl, n0, nE, e, r⟩
    | bk => exact (show False from h).elim
    | ct => exact (show False from h).elim
  | er e' C fl d =>
    rw [e] at h
    exact fun v dd σ' H1 H' _ S' r q => h v dd H1 H' S'.aft r q
  | no =>
    rw [e] at h
    exact (show False from h).elim
end
/-! ### calls -/
/-- a def of the text: its promise, how it is found, its defaults -/
def Dfn (P : Program) (w : World) (K : Frag) (mg : Str → Option Value) (base : Heap) (k : Nat) (x : Str) (n : Nat) (dv : List D) (g : List Sl → Rs Dr) : Prop :=
  ∃ f fd ps ds vs, FnOk P w K mg base (L2.CX P w) k f fd ps (spD K n g) ∧ mg x = some (.ref f) ∧ PySem.W.keepIn K (.ref f) = true ∧ Binds K fd ps ds ∧ Vals vs ds ∧ ∀ H, RpA K H dv vs
/-- a result at the caller's slots -/
@[reducible] def back (e : Ev) : Rs Dr → Rs Dr
  | .ok _ r => .ok e r
  | .er _ C fl d => .er e C fl d
  | .no => .no
@[reducible] def fCall (n : Nat) (g : List Sl → Rs Dr) (dv : List D) (fa : Ev → Rs (List D)) (env : Ev) : Rs Dr := (fa env).bind fun e ds => if Nat.beq (ds ++ dv).length n = true then back e (g ((ds ++ dv).map .sh)) else .no
/-- with slot i's object as the first argument -/
@[reducible] def backR (e : Ev) (i : Nat) : Rs Dr → Rs Dr
  | .ok e' r => (match (e'[0]? : Option Sl) with
    | some (Sl.rf o) => .ok (putOb e i o) r
    | _ => .no)
  | .er e' C fl d => (match (e'[0]? : Option Sl) with
    | some (Sl.rf o) => .er (putOb e i o) C fl d
    | _ => .no)
  | .no => .no
@[reducible] def fCallR (i n : Nat) (g : List Sl → Rs Dr) (dv : List D) (fa : Ev → Rs (List D)) (env : Ev) : Rs Dr := if (ob? env[i]?).isSome = true then (fa env).bind fun e ds => if Nat.beq ((ds ++ dv).length + 1) n = true then (match ob? e[i]? with
  | some o => backR e i (g (.rf o :: (ds ++ dv).map .sh))
  | none => .no) else .no
  else .no
abbrev DX (X : Cx) (W : WX) (e : Expr) (f : Ev → Rs Dr) : Prop := PE X e (WP X.K W (RDr X.K) f)
@[reducible] def fShR (f : Ev → Rs Dr) (env : Ev) : Rs D := (f env).bind fun e r => match r with
  | .sh d => .ok e d
  | .fr ds => .ok e (.lst ds)
@[reducible] def fFrR (f : Ev → Rs Dr) (env : Ev) : Rs (List D) := (f env).bind fun e r => match r with
  | .fr ds => .ok e ds
  | _ => .no
section
variable {X : Cx} {W : WX} {k j n : Nat} {a e : Expr} {es : List Expr} {f : Ev → Rs Dr} {fa : Ev → Rs (List D)} {g : List Sl → Rs Dr} {dv : List D} {x : Str} {p pos : Pos}
theorem DX.de (h : DX X W a f) : DE X W a (fShR f) := by
  refine pe_mono h fun σ H Q q => ?_
  obtain ⟨E, H0, env, S, q⟩ := q
  refine WP.bind S q fun e1 r v H1 H' S1 s1 r1 q1 => ?_
  cases r with
  | sh d => exact Post.here S1 q1 r1
  | fr ds =>
    obtain ⟨G, s, S2, r⟩ := S1.share r1
    exact q1 v G H' s S2 r
theorem DX.df (h : DX X W a f) : DF X W a (fFrR f) := by
  refine pe_mono h fun σ H Q q => ?_
  obtain ⟨E, H0, env, S, q⟩ := q
  refine WP.bind S q fun e1 r v H1 H' S1 s1 r1 q1 => ?_
  cases r with
  | sh d => exact (show False from q1).elim
  | fr ds => exact Post.here S1 q1 r1
theorem DE.ret {st : Stmt} (h : DX X W a f) : DS X W (.Return (some a) pos) (fun env => (f env).bind fun e r => .ok e (.rt r)) := by
  refine ps_mono (ps_ret h) fun N σ H q => ?_
  obtain ⟨E, H0, env, S, q⟩ := q
  exact WP.bindS S q fun e1 x v H1 H' S1 s1 r1 q1 => q1 v σ H1 H' (Same.refl _) S1 r1
theorem ds_retF {fl : Ev → Rs (List D)} (h : DF X W a fl) : DS X W (.Return (some a) pos) (fun env => (fl env).bind fun e ds => .ok e (.rt (.fr ds))) := by
  refine ps_mono (ps_ret h) fun N σ H q => ?_
  obtain ⟨E, H0, env, S, q⟩ := q
  exact WP.bindS S q fun e1 x v H1 H' S1 s1 r1 q1 => q1 v σ H1 H' (Same.refl _) S1 r1
theorem shArgs {K : Frag} {H0 H : Hp} {ds : List D} {vs : List V} (r : RpA K H0 ds vs) : ArgR K H0 H (ds.map .sh) vs where
  len := by rw [List.length_map]; exact r.length
  arg := fun i s e => by
    rw [List.getElem?_map] at e
    cases q : ds[i]? with
    | none => rw [q] at e; cases e
    | some d =>
      rw [q] at e
      obtain ⟨v, h1, h2⟩ := r.get q
      exact .inl ⟨d, v, (Option.some.inj e).symm, h1, h2⟩
  apart := fun i j a o o' e => by
    rw [List.getElem?_map] at e
    cases q : ds[i]? with
    | none => rw [q] at e; cases e
    | some d => rw [q] at e; cases e
theorem noRf {ds : List D} {i : Nat} {o : Ob} : (ds.map Sl.sh)[i]? ≠ some (.rf o) := fun e => by
  rw [List.getElem?_map] at e
  cases q : ds[i]? with
  | none => rw [q] at e; cases e
  | some d => rw [q] at e; cases e
theorem Aft.all {K : Frag} {H0 H H1 H' : Hp} {ds : List D} {vs : List V} {e : Ev} (A : Aft K H0 H (ds.map .sh) vs e H1 H') : Same H H' := fun b u q => A.kept b u q fun i o z => absurd z noRf
theorem backRD {K : Frag} {E : En} {H0 H H1 H' : Hp} {σ : St} {env env' : Ev} {v : V} {r : Dr} (S : StR K E H0 H σ env) (hh : ∀ i a, Has σ env' i a → Has σ env i a) (q : RBack K H H1 H' v r) : RDr K E σ env' H1 H' r v := by
  cases r with
  | sh d => exact q
  | fr ds =>
    obtain ⟨a, vs, rfl, n1, n, e, r⟩ := q
    refine ⟨a, vs, rfl, n1, S.live n, ?_, fun i h => ?_, e, r⟩
    · cases z : E.fr a with
      | none => rfl
      | some o => rw [(S.frk a o z).1] at n; cases n
    · obtain ⟨_, o, z⟩ := S.has (hh i a h)
      rw [z] at n; cases n
theorem StR.aftSh {K : Frag} {E : En} {H0 H H1 H' : Hp} {σ : St} {env e : Ev} {ds : List D} {vs : List V} (S : StR K E H0 H σ env) (A : Aft K H0 H (ds.map .sh) vs e H1 H') : StR K E H1 H' σ env := S.grow A.s0 A.s1 A.all A.new
theorem call_read {K : Frag} {E : En} {H0 H : Hp} {σ : St} {env : Ev} {ds : List D} {vs : List V} {Q : VK} {n : Nat} (S : StR K E H0 H σ env) (r : RpA K H0 ds vs) (hn : Nat.beq ds.length n = true) (q : Post K W (RDr K) E H0 σ Q (back env (g (ds.map .sh)))) : spD K n g vs H Q (WE W σ) := by
  refine ⟨by rw [← r.length]; exact Nat.eq_of_beq_eq_true hn, H0, ds.map .sh, S.s1, shArgs r, ?_⟩
  cases h : g (ds.map .sh) with
  | ok e' dr =>
    rw [h] at q
    exact fun v H1 H' A rb => q v H1 H' A.s0 (S.aftSh A) (backRD S (fun _ _ z => z) rb)
  | er e' C fl d =>
    rw [h] at q
    exact fun v dd H1 H' A rd hx => q v dd H1 H' A.s0 (S.aftSh A) rd hx
  | no =>
    rw [h] at q
    exact q
theorem dx_call (B : Bd X W k) (F : Dfn X.prog X.w X.K X.mg X.base j x n dv g) (hj : j ≤ k) (ha : DA X W (e :: es) fa) (hg : Gl X x := by rfl) (hdb : (x == ("__debug__" : Str)) = false := by decide)
    (he : starEach (e :: es) X.env = (false, eval e X.env) :: starEach es X.env := by rfl) (hpl : (backTo pos (starEach es X.env)).any (·.1) = false := by rfl) : DX X W (.Call (.Name x p) (e :: es) [] pos) (fCall n g dv fa) := by
  obtain ⟨f, fd, ps, dsv, dvs, F, hm, hk, hb, hd, hdv⟩ := F
  refine pe_mono (pe_callSD (E := WE W) F (B.hr.mono hj) hg hm hk hb hd (fun σ => passAt B.tk σ) ha hdb he hpl) fun σ H Q q => ?_
  obtain ⟨E, H0, env, S, q⟩ := q
  refine WP.bind S q fun e1 ds vs H1 H' S1 s1 r1 q1 => ?_
  by_cases hn : Nat.beq (ds ++ dv).length n = true
  · rw [if_pos hn] at q1
    exact call_read S1 (r1.append (hdv _)) hn q1
  · rw [if_neg hn] at q1
    exact (show False from q1).elim
/-- the first argument is slot i's own object -/
theorem refArgs {K : Frag} {E : En} {H0 H : Hp} {σ : St} {env : Ev} {ds : List D} {vs : List V} {a : Addr} {o : Ob} (n : H0 a = none) (ro : ObR K H0 H a o) (r : RpA K H0 ds vs) : ArgR K H0 H (.rf o :: ds.map .sh) (.ref a :: vs) where
  len := by simp [r.length]
  arg := fun i s e => by
    cases i with
    | zero => exact .inr ⟨o, a, by simpa using e.symm, rfl, n, ro⟩
    | succ i =>
      have := (shArgs (H := H) r).arg i s (by simpa using e)
      rcases this with ⟨d, v, h1, h2, h3⟩ | ⟨o', b, h1, h2, h3, h4⟩
      · exact .inl ⟨d, v, h1, by simpa using h2, h3⟩
      · exact .inr ⟨o', b, h1, by simpa using h2, h3, h4⟩
  apart := fun i j b o1 o2 e1 e2 _ _ => by
    cases i with
    | zero =>
      cases j with
      | zero => rfl
      | succ j => exact absurd (by simpa using e2) (noRf (ds := ds) (i := j) (o := o2))
    | succ i => exact absurd (by simpa using e1) (noRf (ds := ds) (i := i) (o := o1))
theorem has_putOb {σ : St} {env : Ev} {i j : Nat} {o : Ob} {b : Addr} (h : Has σ (putOb env i o) j b) : Has σ env j b := by
  unfold putOb at h
  cases q : env[i]? with
  | none => rw [q] at h; exact h
  | some s =>
    rw [q] at h
    have hi : i < env.length := (List.getElem?_eq_some_iff.mp q).1
    obtain ⟨e1, e2⟩ := h
    refine ⟨e1, ?_⟩
    dsimp only at e2
    rw [get_set hi] at e2
    by_cases z : j = i
    · subst z
      rw [if_pos rfl] at e2
      cases s with
      | ow o' => exact .inl ⟨o', q⟩
      | rf o' => exact .inr ⟨o', q⟩
      | un => rcases e2 with ⟨_, e2⟩ | ⟨_, e2⟩ <;> cases e2
      | sh d => rcases e2 with ⟨_, e2⟩ | ⟨_, e2⟩ <;> cases e2
    · rw [if_neg z] at e2
      exact e2
theorem callR_read {K : Frag} {E : En} {H0 H : Hp} {σ : St} {env : Ev} {ds : List D} {vs : List V} {Q : VK} {n i : Nat} {o : Ob} {v0 : V} (S : StR K E H0 H σ env) (e0 : σ[i]? = some (some v0)) (ho : ob? env[i]? = some o) (r : RpA K H0 ds vs) (hn : Nat.beq (ds.length + 1) n = true)
    (q : Post K W (RDr K) E H0 σ Q (backR env i (g (.rf o :: ds.map .sh)))) : spD K n g (v0 :: vs) H Q (WE W σ) := by
  obtain ⟨a, e1, n0, ro, hh⟩ := S.obj ho
  rw [e0] at e1
  cases e1
  refine ⟨by rw [List.length_cons, ← r.length]; exact Nat.eq_of_beq_eq_true hn, H0, .rf o :: ds.map .sh, S.s1, refArgs (E := E) (σ := σ) (env := env) n0 ro r, ?_⟩
  have key : ∀ {e' : Ev} {H1 H' : Hp}, Aft K H0 H (.rf o :: ds.map .sh) (.ref a :: vs) e' H1 H' → ∃ o', e'[0]? = some (.rf o') ∧ StR K E H1 H' σ (putOb env i o') := fun {e' H1 H'} A => by
    obtain ⟨o', q1, q2⟩ := A.refs 0 o a rfl rfl
    refine ⟨o', q1, S.chg hh A.s0 A.s1 (fun b u hb ne => A.kept b u hb fun j oj ej => ?_) A.new q2⟩
    cases j with
    | zero =>
      intro z
      have : a = b := by simpa using z
      exact ne this.symm
    | succ j => exact absurd (by simpa using ej) (noRf (ds := ds) (i := j) (o := oj))
  cases h : g (.rf o :: ds.map .sh) with
  | ok e' dr =>
    rw [h] at q
    intro v H1 H' A rb
    obtain ⟨o', q1, S'⟩ := key A
    simp only [backR, q1] at q
    exact q v H1 H' A.s0 S' (backRD S (fun _ _ z => has_putOb z) rb)
  | er e' C fl d =>
    rw [h] at q
    intro v dd H1 H' A rd hx
    obtain ⟨o', q1, S'⟩ := key A
    simp only [backR, q1] at q
    exact q v dd H1 H' A.s0 S' rd hx
  | no =>
    rw [h] at q
    exact q
theorem dx_callR {i : Nat} {y : Str} {py : Pos} (B : Bd X W k) (F : Dfn X.prog X.w X.K X.mg X.base j x n dv g) (hj : j ≤ k) (hN : X.N[i]? = some y) (ha : DA X W es fa) (hv : Vis X.env.scope y := by first | exact Or.inl rfl | exact Or.inr (Or.inl rfl) | exact Or.inr (Or.inr rfl)) (hg : Gl X x := by rfl) (hdb : (x == ("__debug__" : Str)) = false := by decide) (hdy : (y == ("__debug__" : Str)) = false := by decide)
    (hcd : (y == ("__classdict__" : Str)) = false := by decide) (he : starEach (.Name y py :: es) X.env = (false, eval (.Name y py) X.env) :: starEach es X.env := by rfl) (hpl : (backTo pos (starEach es X.env)).any (·.1) = false := by rfl) : DX X W (.Call (.Name x p) (.Name y py :: es) [] pos) (fCallR i n g dv fa) := by
  obtain ⟨f, fd, ps, dsv, dvs, F, hm, hk, hb, hd, hdv⟩ := F
  refine pe_mono (pe_callSD (E := WE W) F (B.hr.mono hj) hg hm hk hb hd (fun σ => passAt B.tk σ) (pa_cons (pe_var hN hv hdy hcd) ha he) hdb he hpl) fun σ H Q q => ?_
  obtain ⟨E, H0, env, S, q⟩ := q
  by_cases hi : (ob? env[i]?).isSome = true
  rotate_left
  · simp only [fCallR, if_neg hi] at q
    exact (show False from q).elim
  simp only [fCallR, if_pos hi] at q
  obtain ⟨o0, ho0⟩ := Option.isSome_iff_exists.mp hi
  obtain ⟨a0, e0, _⟩ := S.obj ho0
  refine ⟨.ref a0, e0, WP.bind S q fun e1 ds vs H1 H' S1 s1 r1 q1 => ?_⟩
  by_cases hn : Nat.beq ((ds ++ dv).length + 1) n = true
  · rw [if_pos hn] at q1
    cases ho : ob? e1[i]? with
    | none => rw [ho] at q1; exact (show False from q1).elim
    | some o =>
      rw [ho] at q1
      exact callR_read S1 e0 ho (r1.append (hdv _)) hn q1
  · rw [if_neg hn] at q1
    exact (show False from q1).elim
end
end DL

end

section
set_option Elab.async false
set_option linter.all false
set_option maxRecDepth 100000
set_option maxHeartbeats 2000000
/-! DO: operations on deep values. -/
namespace DL
open PySem L2
/-! ### a row of rules by cases -/
theorem V2.or {K : Frag} {r r' : R2} {g g' : D → D → Option D} (h : V2 K r g) (h' : V2 K r' g') : V2 K (fun x y H Q => r x y H Q ∨ r' x y H Q) (fun x y => (g x y).or (g' x y)) := by
  intro H0 H x y d v u Q s rx ry e k
  dsimp only at e
  cases q : g x y with
  | some d' =>
    rw [q] at e
    cases e
    exact .inl (h H0 H x y d v u Q s rx ry q k)
  | none =>
    rw [q] at e
    exact .inr (h' H0 H x y d v u Q s rx ry e k)
theorem VN.or {K : Frag} {r r' : List V → Hp → VK → Prop} {g g' : List D → Option D} (h : VN K r g) (h' : VN K r' g') : VN K (fun x H Q => r x H Q ∨ r' x H Q) (fun x => (g x).or (g' x)) := by
  intro H0 H x d v Q s rx e k
  dsimp only at e
  cases q : g x with
  | some d' =>
    rw [q] at e
    cases e
    exact .inl (h H0 H x d v Q s rx q k)
  | none =>
    rw [q] at e
    exact .inr (h' H0 H x d v Q s rx e k)
/-! ### ints -/
def dI (p : Int → Int → Bool) (f : Int → Int → D) : D → D → Option D
  | .int i, .int j => if p i j = true then some (f i j) else none
  | _, _ => none
def dI0 (f : Int → Int → D) : D → D → Option D
  | .int i, .int j => some (f i j)
  | _, _ => none
section
variable {K : Frag} {X : Cx}
theorem Gr.same0 {H0 H H1 H' : Hp} (g : Gr H0 H H1 H') (s : Same H0 H) : Same H0 H1 := by
  cases g with
  | refl => exact Same.refl _
  | new o n => exact same_upd (s.free n)
theorem v2_int {C : Int → Int → Prop} {p : Int → Int → Bool} {f : Int → Int → Int} (h : ∀ i j, p i j = true → C i j) : V2 K (rI C fun i j => .int (f i j)) (dI p fun i j => .int (f i j)) := by
  intro H0 H x y d v u Q s rx ry e k
  unfold dI at e
  split at e
  · split at e
    · rename_i i j hp
      cases e
      exact ⟨i, j, rp_int rx, rp_int ry, h i j hp, k _ _ _ .refl (.int _)⟩
    · cases e
  · cases e
theorem v2_int0 {f : Int → Int → Int} : V2 K (rI0 fun i j => .int (f i j)) (dI0 fun i j => .int (f i j)) := by
  intro H0 H x y d v u Q s rx ry e k
  unfold dI0 at e
  split at e
  · rename_i i j
    cases e
    exact ⟨i, j, rp_int rx, rp_int ry, k _ _ _ .refl (.int _)⟩
  · cases e
theorem v2_cmp0 {f : Int → Int → Bool} : V2 K (rI0 fun i j => .bl (f i j)) (dI0 fun i j => .bl (f i j)) := by
  intro H0 H x y d v u Q s rx ry e k
  unfold dI0 at e
  split at e
  · rename_i i j
    cases e
    exact ⟨i, j, rp_int rx, rp_int ry, k _ _ _ .refl (.bl _)⟩
  · cases e
/-- a + b -/
def dAddS : D → D → Option D
  | .str x, .str y => if Nat.ble (x.length + y.length) 100000 = true then some (.str (x ++ y)) else none
  | _, _ => none
def dAddL : D → D → Option D
  | .lst x, .lst y => if small (x.length + y.length) = true then some (.lst (x ++ y)) else none
  | _, _ => none
def dAddT : D → D → Option D
  | .tup x, .tup y => if x.isEmpty = false ∧ small (x.length + y.length) = true then some (.tup (x ++ y)) else none
  | _, _ => none
theorem v2_addS : V2 K (fun x y H Q => ∃ i j, x = .str i ∧ y = .str j ∧ i.length + j.length ≤ sizeLine ∧ Q (.str (i ++ j)) H) dAddS := by
  intro H0 H x y d v u Q s rx ry e k
  unfold dAddS at e
  split at e
  · split at e
    · rename_i i j hp
      cases e
      refine ⟨i, j, rp_str rx, rp_str ry, ?_, k _ _ _ .refl (.str _)⟩
      have := Nat.le_of_ble_eq_true hp
      rw [sizeLine_eq]
      omega
    · cases e
  · cases e
theorem v2_addL : V2 K rCat dAddL := by
  intro H0 H x y d v u Q s rx ry e k
  unfold dAddL at e
  split at e
  · split at e
    · rename_i i j hp
      cases e
      cases rx with
      | lst h1 r1 =>
        cases ry with
        | lst h2 r2 =>
          exact ⟨_, _, _, _, rfl, rfl, s _ _ h1, s _ _ h2, by rw [← r1.length, ← r2.length]; exact le_line (small_le hp), fun p n => k _ _ _ (.new (.lst _) n) (.lst upd_same ((r1.append r2).mono (same_upd (s.free n))))⟩
    · cases e
  · cases e
theorem v2_addT : V2 K (rCatT K) dAddT := by
  intro H0 H x y d v u Q s rx ry e k
  unfold dAddT at e
  split at e
  · split at e
    · rename_i i j hp
      cases e
      cases rx with
      | tup h1 r1 =>
        cases ry with
        | tup h2 r2 =>
          have ne : i ≠ [] := by rintro rfl; cases hp.1
          refine ⟨_, _, _, _, rfl, rfl, sqT_mono s h1, sqT_mono s h2, ?_, by rw [← r1.length, ← r2.length]; exact le_line (small_le hp.2), ?_, ?_⟩
          · rintro rfl
            cases r1
            exact ne rfl
          · rintro rfl
            cases r2
            exact k _ _ _ .refl (.tup h1 (by simpa using r1))
          · exact fun _ p n => k _ _ _ (.new (.tup _) n) (.tup (SqT.of upd_same) ((r1.append r2).mono (same_upd (s.free n))))
    · cases e
  · cases e
def dAdd (x y : D) : Option D := (dI0 (fun i j => .int (i + j)) x y).or ((dAddS x y).or ((dAddL x y).or (dAddT x y)))
theorem op_addD : OpR X (binaryOp .Add) (fun x y H Q => (rI0 (fun i j => .int (i + j)) x y H Q) ∨ (∃ i j, x = .str i ∧ y = .str j ∧ i.length + j.length ≤ sizeLine ∧ Q (.str (i ++ j)) H) ∨ rCat x y H Q ∨ rCatT X.K x y H Q) := op_add.or (op_add_str.or (op_cat.or op_catT))
theorem v2_add : V2 K (fun x y H Q => (rI0 (fun i j => .int (i + j)) x y H Q) ∨ (∃ i j, x = .str i ∧ y = .str j ∧ i.length + j.length ≤ sizeLine ∧ Q (.str (i ++ j)) H) ∨ rCat x y H Q ∨ rCatT K x y H Q) dAdd := v2_int0.or (v2_addS.or (v2_addL.or v2_addT))
def dSub : D → D → Option D := dI0 fun i j => .int (i - j)
def pMul (i j : Int) : Bool := decide ((-(2 ^ 64) < i ∧ i < 2 ^ 64) ∨ (-(2 ^ 64) < j ∧ j < 2 ^ 64))
def dMul : D → D → Option D := dI pMul fun i j => .int (i * j)
def dMod : D → D → Option D := dI (fun _ j => decide (0 < j)) fun i j => .int (i % j)
def dDiv : D → D → Option D := dI (fun _ j => decide (0 < j ∧ j < 1073741824)) fun i j => .int (i / j)
def dPow : D → D → Option D := dI (fun i j => decide (0 ≤ j ∧ j ≤ 1000000 ∧ i.natAbs < 2 ^ 64)) fun i j => .int (i ^ j.toNat)
variable {W : WX} {a b : Expr} {fa fb : Ev → Rs D} {pos : Pos}
theorem de_add (ha : DE X W a fa) (hb : DE X W b fb) : DE X W (.BinOp a .Add b pos) (f2 dAdd fa fb) := de_op op_addD v2_add ha hb
theorem de_sub (ha : DE X W a fa) (hb : DE X W b fb) : DE X W (.BinOp a .Sub b pos) (f2 dSub fa fb) := de_op op_sub v2_int0 ha hb
theorem de_mul (ha : DE X W a fa) (hb : DE X W b fb) : DE X W (.BinOp a .Mult b pos) (f2 dMul fa fb) := de_op op_mul (v2_int fun i j h => by have h := of_decide_eq_true h; exact h) ha hb
theorem de_mod (ha : DE X W a fa) (hb : DE X W b fb) : DE X W (.BinOp a .Mod b pos) (f2 dMod fa fb) := de_op op_mod (v2_int fun i j h => of_decide_eq_true h) ha hb
theorem de_div (ha : DE X W a fa) (hb : DE X W b fb) : DE X W (.BinOp a .FloorDiv b pos) (f2 dDiv fa fb) := de_op op_fdiv (v2_int fun i j h => by have h := of_decide_eq_true h; exact h) ha hb
theorem de_pow (ha : DE X W a fa) (hb : DE X W b fb) : DE X W (.BinOp a .Pow b pos) (f2 dPow fa fb) := de_op op_pow (v2_int fun i j h => by have h := of_decide_eq_true h; exact h) ha hb
def dNeg : D → Option D
  | .int i => some (.int (-i))
  | _ => none
theorem de_neg (ha : DE X W a fa) : DE X W (.UnaryOp .USub a pos) (f1 dNeg fa) := by
  refine pe_mono (pe_un un_neg ha) fun σ H Q q => ?_
  obtain ⟨E, H0, env, S, q⟩ := q
  refine WP.bind S q fun e1 x v H1 H' S1 s1 r1 q1 => ?_
  cases x with
  | int i => exact ⟨i, rp_int r1, Post.here S1 q1 (.int _)⟩
  | _ => exact (show False from q1).elim
/-! ### comparisons of ints -/
def dLt : D → D → Option D := dI0 fun i j => .bl (decide (i < j))
def dLe : D → D → Option D := dI0 fun i j => .bl (decide (i ≤ j))
def dGt : D → D → Option D := dI0 fun i j => .bl (decide (j < i))
def dGe : D → D → Option D := dI0 fun i j => .bl (decide (j ≤ i))
theorem v2_lt : V2 K (rI0 fun i j => .bl (decide (i < j))) dLt := v2_cmp0
theorem v2_le : V2 K (rI0 fun i j => .bl (decide (i ≤ j))) dLe := v2_cmp0
theorem v2_gt : V2 K (rI0 fun i j => .bl (decide (j < i))) dGt := v2_cmp0
theorem v2_ge : V2 K (rI0 fun i j => .bl (decide (j ≤ i))) dGe := v2_cmp0
/-! ### is None -/
def isNon : D → Bool
  | .non => true
  | _ => false
def dIsN : D → D → Option D
  | x, .non => some (.bl (isNon x))
  | _, _ => none
def dNotN : D → D → Option D
  | x, .non => some (.bl (!isNon x))
  | _, _ => none
theorem rp_nonB {H : Hp} {x : D} {v : V} (r : Rp K H x v) : decide (v = .non) = isNon x := by
  cases r <;> simp [isNon]
theorem v2_isN : V2 K (fun x y H Q => y = .non ∧ Q (.bl (decide (x = .non))) H) dIsN := by
  intro H0 H x y d v u Q s rx ry e k
  unfold dIsN at e
  split at e
  · cases e
    exact ⟨rp_non ry, k _ _ _ .refl (by rw [rp_nonB rx]; exact .bl _)⟩
  · cases e
theorem v2_notN : V2 K (fun x y H Q => y = .non ∧ Q (.bl (!decide (x = .non))) H) dNotN := by
  intro H0 H x y d v u Q s rx ry e k
  unfold dNotN at e
  split at e
  · cases e
    exact ⟨rp_non ry, k _ _ _ .refl (by rw [rp_nonB rx]; exact .bl _)⟩
  · cases e
/-! ### == of data -/
mutual
def toPy : D → Option PyData
  | .non => some .none
  | .bl b => some (.bool b)
  | .int i => some (.int i)
  | .str x => some (.str x)
  | .tup ds => (toPyA ds).map .tuple
  | .lst ds => (toPyA ds).map .list
  | .fz ds => (toPyA ds).map .list
  | .obj _ _ _ => none
  | .ref _ => none
  | .ty _ => none
def toPyA : List D → Option (List PyData)
  | [] => some []
  | d :: r => match toPy d, toPyA r with
    | some p, some ps => some (p :: ps)
    | _, _ => none
end
mutual
theorem dp_of {H : Hp} : ∀ {d : D} {v : V} {p : PyData}, Rp K H d v → toPy d = some p → Dp K H v p
  | _, _, _, .non, e => by cases e; exact .non
  | _, _, _, .bl b, e => by cases e; exact .bl b
  | _, _, _, .int i, e => by cases e; exact .int i
  | _, _, _, .str x, e => by cases e; exact .str x
  | _, _, _, .ref a, e => by cases e
  | _, _, _, .ty n, e => by cases e
  | _, _, _, .tup (ds := ds) h r, e => by
    unfold toPy at e
    cases q : toPyA ds with
    | none => rw [q] at e; cases e
    | some ps => rw [q] at e; cases e; exact .tup h (dpA_of r q)
  | _, _, _, .lst (ds := ds) h r, e => by
    unfold toPy at e
    cases q : toPyA ds with
    | none => rw [q] at e; cases e
    | some ps => rw [q] at e; cases e; exact .lst (.inl (.inl h)) (dpA_of r q)
  | _, _, _, .fz (ds := ds) h r, e => by
    unfold toPy at e
    cases q : toPyA ds with
    | none => rw [q] at e; cases e
    | some ps => rw [q] at e; cases e; exact .lst h (dpA_of r q)
  | _, _, _, .obj h r, e => by cases e
theorem dpA_of {H : Hp} : ∀ {ds : List D} {vs : List V} {ps : List PyData}, RpA K H ds vs → toPyA ds = some ps → DpAll K H vs ps
  | _, _, _, .nil, e => by cases e; exact .nil
  | _, _, _, .cons (d := d) (ds := ds) r t, e => by
    unfold toPyA at e
    cases q : toPy d with
    | none => rw [q] at e; cases e
    | some p =>
      cases q2 : toPyA ds with
      | none => rw [q, q2] at e; cases e
      | some ps => rw [q, q2] at e; cases e; exact .cons (dp_of r q) (dpA_of t q2)
end
def eqD (x y : D) : Option Bool := match x, y with
  | .str a, .str b => some (a == b)
  | x, y => match toPy x, toPy y with
    | some p, some q => if SeqAt.shaped p && SeqAt.shaped q then some (PyData.eqv p q) else none
    | _, _ => none
def dEq (x y : D) : Option D := (eqD x y).map .bl
def dNe (x y : D) : Option D := (eqD x y).map fun b => .bl (!b)
theorem eqD_cases {x y : D} {b : Bool} (h : eqD x y = some b) : (∃ s t, x = .str s ∧ y = .str t ∧ b = (s == t)) ∨ ∃ p q, toPy x = some p ∧ toPy y = some q ∧ SeqAt.shaped p = true ∧ SeqAt.shaped q = true ∧ b = PyData.eqv p q := by
  unfold eqD at h
  split at h
  · cases h; exact .inl ⟨_, _, rfl, rfl, rfl⟩
  · split at h
    · rename_i p q e1 e2
      split at h
      · rename_i hs
        cases h
        obtain ⟨h1, h2⟩ := Bool.and_eq_true_iff.mp hs
        exact .inr ⟨p, q, e1, e2, h1, h2, rfl⟩
      · cases h
    · cases h
theorem v2_eq : V2 K (fun x y H Q => rEq x y H Q ∨ rEqD K x y H Q) dEq := by
  intro H0 H x y d v u Q s rx ry e k
  unfold dEq at e
  cases q : eqD x y with
  | none => rw [q] at e; cases e
  | some b =>
    rw [q] at e
    cases e
    rcases eqD_cases q with ⟨a, c, rfl, rfl, rfl⟩ | ⟨p, p', h1, h2, h3, h4, rfl⟩
    · cases rx
      cases ry
      refine .inl ⟨rfl, ?_⟩
      rw [dec_str]
      exact k _ _ _ .refl (.bl _)
    · exact .inr ⟨p, p', dp_of (rx.mono s) h1, dp_of (ry.mono s) h2, h3, h4, k _ _ _ .refl (.bl _)⟩
theorem v2_ne : V2 K (fun x y H Q => rNe x y H Q ∨ rNeD K x y H Q) dNe := by
  intro H0 H x y d v u Q s rx ry e k
  unfold dNe at e
  cases q : eqD x y with
  | none => rw [q] at e; cases e
  | some b =>
    rw [q] at e
    cases e
    rcases eqD_cases q with ⟨a, c, rfl, rfl, rfl⟩ | ⟨p, p', h1, h2, h3, h4, rfl⟩
    · cases rx
      cases ry
      refine .inl ⟨rfl, ?_⟩
      rw [dec_str]
      exact k _ _ _ .refl (.bl _)
    · exact .inr ⟨p, p', dp_of (rx.mono s) h1, dp_of (ry.mono s) h2, h3, h4, k _ _ _ .refl (.bl _)⟩
theorem Room.u64 {k : Nat} {A : Around} (r : Room k A) : A.units + 65 < cLine := by have := r.un; omega
theorem or_eqD {k : Nat} (B : Bd X W k) : OpR X (compareOp .Eq) (fun x y H Q => rEq x y H Q ∨ rEqD X.K x y H Q) := op_eq.or (op_eqD B.hr.units)
theorem or_neD {k : Nat} (B : Bd X W k) : OpR X (compareOp .NotEq) (fun x y H Q => rNe x y H Q ∨ rNeD X.K x y H Q) := op_ne.or (op_neD B.hr.units)
/-! ### in -/
def flatD : D → Bool
  | .non => true
  | .bl _ => true
  | .int _ => true
  | .str _ => true
  | _ => false
def eqF : D → D → Bool
  | .non, .non => true
  | .bl a, .bl b => a == b
  | .bl a, .int b => (if a then 1 else 0) == b
  | .int a, .bl b => a == (if b then 1 else 0)
  | .int a, .int b => a == b
  | .str a, .str b => a == b
  | _, _ => false
theorem flat_rp {H : Hp} {x : D} {v : V} (r : Rp K H x v) (h : flatD x = true) : flatV v = true := by
  cases r <;> first | rfl | cases h
theorem eqF_rp {H : Hp} {x y : D} {v u : V} (r : Rp K H x v) (r' : Rp K H y u) (h : flatD x = true) (h' : flatD y = true) : eqV v u = eqF x y := by
  cases r <;> first | (cases h; done) | (cases r' <;> first | rfl | (cases h'; done))
theorem flatA_rp {H : Hp} : ∀ {ds : List D} {vs : List V}, RpA K H ds vs → ds.all flatD = true → vs.all flatV = true
  | _, _, .nil, _ => rfl
  | _, _, .cons r t, h => by
    simp only [List.all_cons, Bool.and_eq_true] at h ⊢
    exact ⟨flat_rp r h.1, flatA_rp t h.2⟩
theorem inV_rp {H : Hp} {x : D} {v : V} (r : Rp K H x v) (h : flatD x = true) : ∀ {ds : List D} {vs : List V}, RpA K H ds vs → ds.all flatD = true → inV v vs = ds.any fun d => eqF d x
  | _, _, .nil, _ => rfl
  | _, _, .cons r1 t, h1 => by
    simp only [List.all_cons, Bool.and_eq_true] at h1
    have := inV_rp r h t h1.2
    unfold inV at this ⊢
    simp only [List.any_cons]
    rw [this, eqF_rp r1 r h1.1 h]
def itemsD : D → Option (List D)
  | .lst ds => some ds
  | .fz ds => some ds
  | .tup ds => some ds
  | _ => none
theorem items_rp {H : Hp} {x : D} {v : V} {ds : List D} (r : Rp K H x v) (h : itemsD x = some ds) : ∃ a vs, v = .ref a ∧ (SqL K H a vs ∨ SqT K H a vs) ∧ RpA K H ds vs := by
  cases r with
  | lst e r => cases h; exact ⟨_, _, rfl, .inl (.inl (.inl e)), r⟩
  | fz e r => cases h; exact ⟨_, _, rfl, .inl e, r⟩
  | tup e r => cases h; exact ⟨_, _, rfl, .inr e, r⟩
  | _ => cases h
def dInF (neg : Bool) (x y : D) : Option D := match itemsD y with
  | some ds => if flatD x = true ∧ ds.all flatD = true then some (.bl (if neg then !(ds.any fun d => eqF d x) else ds.any fun d => eqF d x)) else none
  | none => none
theorem v2_inF {neg : Bool} : V2 K (rIn K neg) (dInF neg) := by
  intro H0 H x y d v u Q s rx ry e k
  unfold dInF at e
  cases q : itemsD y with
  | none => rw [q] at e; cases e
  | some ds =>
    rw [q] at e
    dsimp only at e
    split at e
    · rename_i hf
      cases e
      obtain ⟨a, vs, rfl, h, r⟩ := items_rp ry q
      refine ⟨a, vs, rfl, h.elim (fun z => .inl (s.seq z)) (fun z => .inr (sqT_mono s z)), flat_rp rx hf.1, flatA_rp r hf.2, ?_⟩
      rw [inV_rp rx hf.1 r hf.2]
      exact k _ _ _ .refl (.bl _)
    · cases e
def dInS (neg : Bool) : D → D → Option D
  | .str x, .str z => match x.cps with
    | ⟨[c]⟩ => some (.bl (if neg then !decide (c ∈ z.cps.toList) else decide (c ∈ z.cps.toList)))
    | _ => none
  | _, _ => none
theorem v2_inS : V2 K (fun x y H Q => ∃ (c : Nat) (z : Str), x = .str ⟨#[c]⟩ ∧ y = .str z ∧ Q (.bl (decide (c ∈ z.cps.toList))) H) (dInS false) := by
  intro H0 H x y d v u Q s rx ry e k
  unfold dInS at e
  split at e
  · rename_i x z
    split at e
    · rename_i c hc
      cases e
      have : x = ⟨#[c]⟩ := by cases x; simp at hc; subst hc; rfl
      subst this
      exact ⟨c, z, rp_str rx, rp_str ry, k _ _ _ .refl (.bl _)⟩
    · cases e
  · cases e
theorem v2_notInS : V2 K (fun x y H Q => ∃ (c : Nat) (z : Str), x = .str ⟨#[c]⟩ ∧ y = .str z ∧ Q (.bl (!decide (c ∈ z.cps.toList))) H) (dInS true) := by
  intro H0 H x y d v u Q s rx ry e k
  unfold dInS at e
  split at e
  · rename_i x z
    split at e
    · rename_i c hc
      cases e
      have : x = ⟨#[c]⟩ := by cases x; simp at hc; subst hc; rfl
      subst this
      exact ⟨c, z, rp_str rx, rp_str ry, k _ _ _ .refl (.bl _)⟩
    · cases e
  · cases e
def dInD (neg : Bool) (x y : D) : Option D := match y with
  | .lst ds => (match toPy x, toPyA ds with
    | some p, some ps => if SeqAt.shaped p && SeqAt.shaped (.list ps) then some (.bl (if neg then !(ps.any fun z => PyData.eqv z p) else ps.any fun z => PyData.eqv z p)) else none
    | _, _ => none)
  | _ => none
theorem dInD_cases {neg : Bool} {x y d : D} (e : dInD neg x y = some d) : ∃ ds p ps, y = .lst ds ∧ toPy x = some p ∧ toPyA ds = some ps ∧ SeqAt.shaped p = true ∧ SeqAt.shaped (.list ps) = true ∧ d = .bl (if neg then !(ps.any fun z => PyData.eqv z p) else ps.any fun z => PyData.eqv z p) := by
  unfold dInD at e
  split at e
  · rename_i ds
    split at e
    · rename_i p ps e1 e2
      split at e
      · rename_i hs
        cases e
        obtain ⟨h1, h2⟩ := Bool.and_eq_true_iff.mp hs
        exact ⟨ds, p, ps, rfl, e1, e2, h1, h2, rfl⟩
      · cases e
    · cases e
  · cases e
theorem toPy_lst {ds : List D} {ps : List PyData} (h : toPyA ds = some ps) : toPy (.lst ds) = some (.list ps) := by
  unfold toPy
  rw [h]
  rfl
theorem v2_inD : V2 K (rInD K) (dInD false) := by
  intro H0 H x y d v u Q s rx ry e k
  obtain ⟨ds, p, ps, rfl, h1, h2, h3, h4, rfl⟩ := dInD_cases e
  exact ⟨p, ps, dp_of (rx.mono s) h1, dp_of (ry.mono s) (toPy_lst h2), h3, h4, k _ _ _ .refl (.bl _)⟩
theorem v2_notInD : V2 K (rNotInD K) (dInD true) := by
  intro H0 H x y d v u Q s rx ry e k
  obtain ⟨ds, p, ps, rfl, h1, h2, h3, h4, rfl⟩ := dInD_cases e
  exact ⟨p, ps, dp_of (rx.mono s) h1, dp_of (ry.mono s) (toPy_lst h2), h3, h4, k _ _ _ .refl (.bl _)⟩
def dIn (x y : D) : Option D := (dInF false x y).or ((dInS false x y).or (dInD false x y))
def dNotIn (x y : D) : Option D := (dInF true x y).or ((dInS true x y).or (dInD true x y))
abbrev rInA (K : Frag) : R2 := fun x y H Q => rIn K false x y H Q ∨ (∃ (c : Nat) (z : Str), x = .str ⟨#[c]⟩ ∧ y = .str z ∧ Q (.bl (decide (c ∈ z.cps.toList))) H) ∨ rInD K x y H Q
abbrev rNotInA (K : Frag) : R2 := fun x y H Q => rIn K true x y H Q ∨ (∃ (c : Nat) (z : Str), x = .str ⟨#[c]⟩ ∧ y = .str z ∧ Q (.bl (!decide (c ∈ z.cps.toList))) H) ∨ rNotInD K x y H Q
theorem or_in {k : Nat} (B : Bd X W k) : OpR X (compareOp .In) (rInA X.K) := op_in_seq.or (op_in_sign.or (op_inD (Room.u64 B.hr)))
theorem v2_in : V2 K (rInA K) dIn := v2_inF.or (v2_inS.or v2_inD)
theorem or_notIn {k : Nat} (B : Bd X W k) : OpR X (compareOp .NotIn) (rNotInA X.K) := op_notIn_seq.or (op_notIn_sign.or (op_notInD (Room.u64 B.hr)))
theorem v2_notIn : V2 K (rNotInA K) dNotIn := v2_inF.or (v2_notInS.or v2_notInD)
/-! ### items, lengths -/
def dIxQ : D → D → Option D
  | x, .int i => match itemsD x with
    | some ds => atI ds i
    | none => none
  | _, _ => none
def dIxS : D → D → Option D
  | .str x, .int i => if Nat.ble x.length 100000 = true then (atI x.cps.toList i).map fun c => .str ⟨#[c]⟩ else none
  | _, _ => none
theorem atI_rp {H : Hp} {ds : List D} {vs : List V} {i : Int} {d : D} (r : RpA K H ds vs) (h : atI ds i = some d) : ∃ v, atI vs i = some v ∧ Rp K H d v := by
  unfold atI at h ⊢
  rw [← r.length]
  cases q : ixN ds.length i with
  | none => rw [q] at h; cases h
  | some j =>
    rw [q] at h
    exact r.get h
theorem v2_ixQ : V2 K (fun x y H Q => rIxL K x y H Q ∨ rIxT K x y H Q) dIxQ := by
  intro H0 H x y d v u Q s rx ry e k
  unfold dIxQ at e
  split at e
  · rename_i i
    cases q : itemsD x with
    | none => rw [q] at e; cases e
    | some ds =>
      rw [q] at e
      obtain ⟨a, vs, rfl, h, r⟩ := items_rp rx q
      obtain ⟨v', e1, r1⟩ := atI_rp r e
      rcases h with h | h
      · exact .inl ⟨a, vs, i, v', rfl, rp_int ry, s.seq h, e1, k _ _ _ .refl r1⟩
      · exact .inr ⟨a, vs, i, v', rfl, rp_int ry, sqT_mono s h, e1, k _ _ _ .refl r1⟩
  · cases e
theorem v2_ixS : V2 K rIxS dIxS := by
  intro H0 H x y d v u Q s rx ry e k
  unfold dIxS at e
  split at e
  · rename_i x i
    split at e
    · rename_i hl
      obtain ⟨c, e1, rfl⟩ := Option.map_eq_some_iff.mp e
      refine ⟨x, i, c, rp_str rx, rp_int ry, ?_, e1, k _ _ _ .refl (.str _)⟩
      have := Nat.le_of_ble_eq_true hl
      rw [sizeLine_eq]
      omega
    · cases e
  · cases e
def dIx (x y : D) : Option D := (dIxQ x y).or (dIxS x y)
theorem v2_ix : V2 K (fun x y H Q => (rIxL K x y H Q ∨ rIxT K x y H Q) ∨ rIxS x y H Q) dIx := v2_ixQ.or v2_ixS
theorem or_ix : IxR X (fun x y H Q => (rIxL X.K x y H Q ∨ rIxT X.K x y H Q) ∨ rIxS x y H Q) := (ix_list.or ix_tup).or ix_str
theorem de_item (ha : DE X W a fa) (hb : DE X W b fb) (hs : PlainIx b := by exact fun _ _ => rfl) : DE X W (.Subscript a b pos) (f2 dIx fa fb) := de_ix or_ix v2_ix ha hb hs
def gLen : List D → Option D
  | [.str x] => if Nat.ble x.length 100000 = true then some (.int x.length) else none
  | [x] => (itemsD x).map fun ds => .int ds.length
  | _ => none
theorem vn_len : VN K (fun xs H Q => ∃ x n, xs = [x] ∧ LenV K x H n ∧ Q (.int n) H) gLen := by
  intro H0 H xs d vs Q s r e k
  unfold gLen at e
  split at e
  · rename_i x
    split at e
    · rename_i hl
      cases e
      obtain ⟨v, rfl, rv⟩ := rpa1 r
      refine ⟨v, x.length, rfl, ?_, k _ _ _ .refl (.int _)⟩
      rw [rp_str rv]
      refine ⟨?_, rfl⟩
      have := Nat.le_of_ble_eq_true hl
      rw [sizeLine_eq]
      omega
    · cases e
  · rename_i x _
    obtain ⟨ds, e1, rfl⟩ := Option.map_eq_some_iff.mp e
    obtain ⟨v, rfl, rv⟩ := rpa1 r
    obtain ⟨a, vs, rfl, h, ra⟩ := items_rp rv e1
    refine ⟨_, ds.length, rfl, ?_, k _ _ _ .refl (.int _)⟩
    rcases h with h | h
    · exact .inl ⟨vs, s.seq h, by rw [ra.length]⟩
    · exact .inr ⟨vs, sqT_mono s h, by rw [ra.length]⟩
  · cases e
end
end DL

end

section
set_option Elab.async false
set_option linter.all false
set_option maxRecDepth 100000
set_option maxHeartbeats 2000000
/-! DP: built-ins, texts, lists of a slot's own, looks at what slots have. -/
namespace DL
open PySem L2
section
variable {K : Frag} {X : Cx} {W : WX} {a b o e : Expr} {es : List Expr} {fa fb : Ev → Rs D} {fs : Ev → Rs (List D)} {pos p apos : Pos}
/-! ### methods of texts -/
def isStr : D → Bool
  | .str _ => true
  | _ => false
theorem de_m1 {id : String} {name : Str} {r : V → List V → Hp → VK → Prop} {g : D → D → Option D} (slot : Slot "str" name id) (ty : typeOf (.builtin id) = pure (.type "method_descriptor")) (rule : MtR X id r) (hv : V2 X.K (fun x y H Q => r x [y] H Q) g) (ho : DE X W o fa) (he : DE X W e fb)
    (hs : starEach [e] X.env = [(false, eval e X.env)] := by rfl) (hbase : attributeBase o name X.env (eval o X.env) = eval o X.env := by rfl) (hline : (apos.endLine == pos.line) = true := by rfl) :
    DE X W (.Call (.Attribute o name apos) [e] [] pos) (fun env => (fa env).bind fun e1 x => if isStr x = true then (fb e1).bind fun e2 y => lift e2 (g x y) else .no) := by
  refine pe_mono (pe_m1 slot ty rule ho he hs hbase hline) fun σ H Q q => ?_
  obtain ⟨E, H0, env, S, q⟩ := q
  refine WP.bind S q fun e1 x v H1 H' S1 s1 r1 q1 => ?_
  cases x with
  | str z =>
    refine ⟨⟨z, rp_str r1⟩, ?_⟩
    simp only [isStr, if_true] at q1
    exact WP.bind S1 q1 fun e2 y u H2 H'' S2 s2 r2 q2 => q2.fin S2 fun d ed k => hv H2 H'' _ y d v u Q S2.s1 (r1.mono s2) r2 ed k
  | _ => exact (show False from q1).elim
@[reducible] def fM1 (g : D → D → Option D) (fa fb : Ev → Rs D) (env : Ev) : Rs D := (fa env).bind fun e1 x => if isStr x = true then (fb e1).bind fun e2 y => lift e2 (g x y) else .no
def szS (x : Str) : Bool := Nat.ble x.length 100000
theorem szS_le {x : Str} (h : szS x = true) : x.length ≤ 100000 := Nat.le_of_ble_eq_true h
def strsD : List D → Option (List Str)
  | [] => some []
  | .str x :: r => (strsD r).map (x :: ·)
  | _ => none
theorem strs_rp {H : Hp} : ∀ {ds : List D} {vs : List V} {xs : List Str}, RpA K H ds vs → strsD ds = some xs → vs = xs.map V.str
  | _, _, _, .nil, e => by cases e; rfl
  | _, _, _, .cons (d := d) r t, e => by
    cases d with
    | str x =>
      obtain ⟨ys, e1, rfl⟩ := Option.map_eq_some_iff.mp e
      rw [rp_str r, strs_rp t e1]
      rfl
    | _ => cases e
def dJoin (x y : D) : Option D := match x, itemsD y with
  | .str a, some ds => (match strsD ds with
    | some ys => if Nat.ble ((ys.map (·.length)).sum + ys.length * a.length) 100000 = true then some (.str (Txt.join a ys)) else none
    | none => none)
  | _, _ => none
theorem v2_join : V2 K (fun x y H Q => ∃ a p, ∃ ys : List Str, x = .str a ∧ [y] = [.ref p] ∧ (SqL K H p (ys.map V.str) ∨ SqT K H p (ys.map V.str)) ∧ (ys.map (·.length)).sum + ys.length * a.length ≤ 16777216 ∧ Q (.str (Txt.join a ys)) H) dJoin := by
  intro H0 H x y d v u Q s rx ry e k
  unfold dJoin at e
  split at e
  · rename_i a ds e1
    split at e
    · rename_i ys e2
      split at e
      · rename_i hz
        cases e
        obtain ⟨p, vs, rfl, h, r⟩ := items_rp ry e1
        have := strs_rp r e2
        subst this
        have := Nat.le_of_ble_eq_true hz
        exact ⟨a, p, ys, rp_str rx, rfl, h.elim (fun z => .inl (s.seq z)) (fun z => .inr (sqT_mono s z)), by omega, k _ _ _ .refl (.str _)⟩
      · cases e
    · cases e
  · cases e
theorem de_join (ho : DE X W o fa) (he : DE X W e fb) (hs : starEach [e] X.env = [(false, eval e X.env)] := by rfl) (hbase : attributeBase o "join" X.env (eval o X.env) = eval o X.env := by rfl) (hline : (apos.endLine == pos.line) = true := by rfl) :
    DE X W (.Call (.Attribute o "join" apos) [e] [] pos) (fM1 dJoin fa fb) := de_m1 F.slot_str_join F.type_str_join mt_join v2_join ho he hs hbase hline
def dPart (x y : D) : Option D := match x, y with
  | .str a, .str b => if szS a = true ∧ (b.length == 0) = false then some (.tup [.str (Txt.partition a b).1, .str (Txt.partition a b).2.1, .str (Txt.partition a b).2.2]) else none
  | _, _ => none
theorem v2_part : V2 K (fun x y H Q => ∃ a b, x = .str a ∧ [y] = [.str b] ∧ (b.length == 0) = false ∧ a.length ≤ sizeLine ∧
    ∀ p, H p = none → Q (.ref p) (upd H p (.tup [.str (Txt.partition a b).1, .str (Txt.partition a b).2.1, .str (Txt.partition a b).2.2]))) dPart := by
  intro H0 H x y d v u Q s rx ry e k
  unfold dPart at e
  split at e
  · rename_i a b
    split at e
    · rename_i hz
      cases e
      have := szS_le hz.1
      refine ⟨a, b, rp_str rx, by rw [rp_str ry], hz.2, by rw [sizeLine_eq]; omega, fun p n => k _ _ _ (.new _ n) (.tup (SqT.of upd_same) (.cons (.str _) (.cons (.str _) (.cons (.str _) .nil))))⟩
    · cases e
  · cases e
theorem de_partition (ho : DE X W o fa) (he : DE X W e fb) (hs : starEach [e] X.env = [(false, eval e X.env)] := by rfl) (hbase : attributeBase o "partition" X.env (eval o X.env) = eval o X.env := by rfl) (hline : (apos.endLine == pos.line) = true := by rfl) :
    DE X W (.Call (.Attribute o "partition" apos) [e] [] pos) (fM1 dPart fa fb) := de_m1 F.slot_str_partition F.type_str_partition mt_partition v2_part ho he hs hbase hline
def dStarts (x y : D) : Option D := match x, y with
  | .str a, .str b => some (.bl (Txt.startswith a b))
  | _, _ => none
theorem v2_starts : V2 K (fun x y H Q => ∃ a b, x = .str a ∧ [y] = [.str b] ∧ Q (.bl (Txt.startswith a b)) H) dStarts := by
  intro H0 H x y d v u Q s rx ry e k
  unfold dStarts at e
  split at e
  · rename_i a b
    cases e
    exact ⟨a, b, rp_str rx, by rw [rp_str ry], k _ _ _ .refl (.bl _)⟩
  · cases e
theorem de_startswith (ho : DE X W o fa) (he : DE X W e fb) (hs : starEach [e] X.env = [(false, eval e X.env)] := by rfl) (hbase : attributeBase o "startswith" X.env (eval o X.env) = eval o X.env := by rfl) (hline : (apos.endLine == pos.line) = true := by rfl) :
    DE X W (.Call (.Attribute o "startswith" apos) [e] [] pos) (fM1 dStarts fa fb) := de_m1 F.slot_str_startswith F.type_str_startswith mt_startswith v2_starts ho he hs hbase hline
/-- s.split(sep): a new list -/
@[reducible] def fSplit (fa fb : Ev → Rs D) (env : Ev) : Rs (List D) := (fa env).bind fun e1 x => match x with
  | .str a => (fb e1).bind fun e2 y => (match y with
    | .str b => if szS a = true ∧ (b.length == 0) = false then .ok e2 ((Txt.split a b).map .str) else .no
    | _ => .no)
  | _ => .no
theorem rpa_strs {H : Hp} : ∀ (xs : List Str), RpA K H (xs.map .str) (xs.map V.str)
  | [] => .nil
  | x :: r => .cons (.str x) (rpa_strs r)
theorem df_split (ho : DE X W o fa) (he : DE X W e fb) (hs : starEach [e] X.env = [(false, eval e X.env)] := by rfl) (hbase : attributeBase o "split" X.env (eval o X.env) = eval o X.env := by rfl) (hline : (apos.endLine == pos.line) = true := by rfl) :
    DF X W (.Call (.Attribute o "split" apos) [e] [] pos) (fSplit fa fb) := by
  refine pe_mono (pe_split ho he hs hbase hline) fun σ H Q q => ?_
  obtain ⟨E, H0, env, S, q⟩ := q
  refine WP.bind S q fun e1 x v H1 H' S1 s1 r1 q1 => ?_
  cases x with
  | str z =>
    refine ⟨⟨z, rp_str r1⟩, WP.bind S1 q1 fun e2 y u H2 H'' S2 s2 r2 q2 => ?_⟩
    cases y with
    | str b =>
      dsimp only at q2
      by_cases hz : szS z = true ∧ (b.length == 0) = false
      · rw [if_pos hz] at q2
        have := szS_le hz.1
        refine ⟨z, b, rp_str r1, by rw [rp_str r2], hz.2, by rw [sizeLine_eq]; omega, fun p n => ?_⟩
        obtain ⟨S3, r3⟩ := S2.laid (rpa_strs (Txt.split z b)) n
        exact q2 _ H2 _ (Same.refl _) S3 r3
      · rw [if_neg hz] at q2
        exact (show False from q2).elim
    | _ => exact (show False from q2).elim
  | _ => exact (show False from q1).elim
/-! ### built-ins -/
def gInt : List D → Option D
  | [.int i] => some (.int i)
  | [.bl k] => some (.int (if k then 1 else 0))
  | _ => none
theorem vn_int : VN K (fun xs H Q => (∃ i, xs = [.int i] ∧ Q (.int i) H) ∨ ∃ k, xs = [.bl k] ∧ Q (.int (if k then 1 else 0)) H) gInt := by
  intro H0 H xs d vs Q s r e k
  unfold gInt at e
  split at e
  · cases e
    obtain ⟨v, rfl, rv⟩ := rpa1 r
    exact .inl ⟨_, by rw [rp_int rv], k _ _ _ .refl (.int _)⟩
  · cases e
    obtain ⟨v, rfl, rv⟩ := rpa1 r
    exact .inr ⟨_, by rw [rp_bl rv], k _ _ _ .refl (.int _)⟩
  · cases e
def gIntS : List D → Option D
  | [.str a] => if Nat.ble a.length 640 = true then (PySem.intText? a).map .int else none
  | _ => none
theorem vn_intS : VN K (fun xs H Q => ∃ a n, xs = [.str a] ∧ PySem.intText? a = some n ∧ a.length ≤ 640 ∧ Q (.int n) H) gIntS := by
  intro H0 H xs d vs Q s r e k
  unfold gIntS at e
  split at e
  · rename_i a
    split at e
    · rename_i hl
      obtain ⟨n, e1, rfl⟩ := Option.map_eq_some_iff.mp e
      obtain ⟨v, rfl, rv⟩ := rpa1 r
      exact ⟨a, n, by rw [rp_str rv], e1, Nat.le_of_ble_eq_true hl, k _ _ _ .refl (.int _)⟩
    · cases e
  · cases e
def gAbs : List D → Option D
  | [.int i] => some (.int (if i < 0 then -i else i))
  | _ => none
theorem vn_abs : VN K (fun xs H Q => ∃ i, xs = [.int i] ∧ Q (.int (if i < 0 then -i else i)) H) gAbs := by
  intro H0 H xs d vs Q s r e k
  unfold gAbs at e
  split at e
  · cases e
    obtain ⟨v, rfl, rv⟩ := rpa1 r
    exact ⟨_, by rw [rp_int rv], k _ _ _ .refl (.int _)⟩
  · cases e
def gMax : List D → Option D
  | [.int i, .int j] => some (.int (if j > i then j else i))
  | _ => none
theorem vn_max : VN K (fun xs H Q => ∃ i j, xs = [.int i, .int j] ∧ Q (.int (if j > i then j else i)) H) gMax := by
  intro H0 H xs d vs Q s r e k
  unfold gMax at e
  split at e
  · cases e
    obtain ⟨v, u, rfl, rv, ru⟩ := rpa2 r
    exact ⟨_, _, by rw [rp_int rv, rp_int ru], k _ _ _ .refl (.int _)⟩
  · cases e
def gMin : List D → Option D
  | [.int i, .int j] => some (.int (if j < i then j else i))
  | _ => none
theorem vn_min : VN K (fun xs H Q => ∃ i j, xs = [.int i, .int j] ∧ Q (.int (if j < i then j else i)) H) gMin := by
  intro H0 H xs d vs Q s r e k
  unfold gMin at e
  split at e
  · cases e
    obtain ⟨v, u, rfl, rv, ru⟩ := rpa2 r
    exact ⟨_, _, by rw [rp_int rv, rp_int ru], k _ _ _ .refl (.int _)⟩
  · cases e
/-- str(int), below 10^18 -/
def okI (i : Int) : Bool := decide (-1000000000000000000 < i ∧ i < 1000000000000000000)
theorem okI_log {i : Int} (h : okI i = true) : i.natAbs.log2 < 1920 := by
  have h := of_decide_eq_true h
  by_cases z : i.natAbs = 0
  · rw [z]; decide
  · rw [Nat.log2_lt z]
    have : i.natAbs < 1000000000000000000 := by omega
    exact Nat.lt_trans this (by decide)
def gStr : List D → Option D
  | [.int i] => if okI i = true then some (.str (toString i)) else none
  | _ => none
theorem vn_str : VN K (fun xs H Q => ∃ i : Int, xs = [.int i] ∧ i.natAbs.log2 < 1920 ∧ Q (.str (toString i)) H) gStr := by
  intro H0 H xs d vs Q s r e k
  unfold gStr at e
  split at e
  · split at e
    · rename_i hi
      cases e
      obtain ⟨v, rfl, rv⟩ := rpa1 r
      exact ⟨_, by rw [rp_int rv], okI_log hi, k _ _ _ .refl (.str _)⟩
    · cases e
  · cases e
/-- tuple(xs) -/
def gTuple : List D → Option D
  | [.lst ds] => some (.tup ds)
  | [.fz ds] => some (.tup ds)
  | [.tup ds] => some (.tup ds)
  | _ => none
theorem vn_tuple : VN K (fun xs H Q => ∃ p ys, xs = [.ref p] ∧ ((SqL K H p ys ∧ ∀ l, H l = none → Q (.ref l) (upd H l (.tup ys))) ∨ (SqT K H p ys ∧ Q (.ref p) H))) gTuple := by
  intro H0 H xs d vs Q s r e k
  unfold gTuple at e
  split at e
  · cases e
    obtain ⟨v, rfl, rv⟩ := rpa1 r
    cases rv with
    | lst h ra => exact ⟨_, _, rfl, .inl ⟨.inl (.inl (s _ _ h)), fun p n => k _ _ _ (.new (.tup _) n) (.tup (SqT.of upd_same) (ra.mono (same_upd (s.free n))))⟩⟩
  · cases e
    obtain ⟨v, rfl, rv⟩ := rpa1 r
    cases rv with
    | fz h ra => exact ⟨_, _, rfl, .inl ⟨s.seq h, fun p n => k _ _ _ (.new (.tup _) n) (.tup (SqT.of upd_same) (ra.mono (same_upd (s.free n))))⟩⟩
  · cases e
    obtain ⟨v, rfl, rv⟩ := rpa1 r
    cases rv with
    | tup h ra => exact ⟨_, _, rfl, .inr ⟨sqT_mono s h, k _ _ _ .refl (.tup h ra)⟩⟩
  · cases e
/-- list(xs): a new list -/
@[reducible] def fNewL (g : List D → Option (List D)) (fa : Ev → Rs (List D)) (env : Ev) : Rs (List D) := (fa env).bind fun e xs => lift e (g xs)
def gList : List D → Option (List D)
  | [x] => itemsD x
  | _ => none
theorem df_list {x : Str} (hm : X.mg x = none) (hb : bootBuiltins x = some (.type "list")) (ha : DA X W (e :: es) fs) (hg : Gl X x := by rfl) (hn : x ≠ "__name__" := by decide) (hdb : (x == ("__debug__" : Str)) = false := by decide)
    (he : starEach (e :: es) X.env = (false, eval e X.env) :: starEach es X.env := by rfl) (hpl : (backTo pos (starEach es X.env)).any (·.1) = false := by rfl) : DF X W (.Call (.Name x p) (e :: es) [] pos) (fNewL gList fs) := by
  refine pe_mono (pe_callTy call_list_of hg hm hb ha hn hdb he hpl) fun σ H Q q => ?_
  obtain ⟨E, H0, env, S, q⟩ := q
  refine WP.bind S q fun e1 xs vs H1 H' S1 s1 r1 q1 => ?_
  cases h : gList xs with
  | none => rw [h] at q1; exact (show False from q1).elim
  | some ds =>
    rw [h] at q1
    unfold gList at h
    split at h
    · obtain ⟨v, rfl, rv⟩ := rpa1 r1
      obtain ⟨p, vs, rfl, hs, r⟩ := items_rp rv h
      refine ⟨p, vs, rfl, hs.elim (fun z => .inl (S1.s1.seq z)) (fun z => .inr (sqT_mono S1.s1 z)), fun l n => ?_⟩
      obtain ⟨S3, r3⟩ := S1.laid r n
      exact q1 _ H1 _ (Same.refl _) S3 r3
    · cases h
/-! ### slices -/
abbrev DP (X : Cx) (W : WX) (e : Option Expr) (f : Ev → Rs (Option Int)) : Prop := PO X e (WP X.K W (fun _ _ _ _ _ (x y : Option Int) => x = y) f)
@[reducible] def fNoP (env : Ev) : Rs (Option Int) := .ok env none
@[reducible] def fP (fa : Ev → Rs D) (env : Ev) : Rs (Option Int) := (fa env).bind fun e x => match x with
  | .int i => .ok e (some i)
  | _ => .no
theorem po_mono {e : Option Expr} {t t' : TO} (h : PO X e t) (m : ∀ σ H Q, t' σ H Q → t σ H Q) : PO X e t' := ⟨fun pins s σ H Q I q => h.run pins s σ H Q I (m σ H Q q)⟩
theorem dp_none : DP X W none fNoP := po_mono po_none fun σ H Q q => by
  obtain ⟨E, H0, env, S, q⟩ := q
  exact Post.here S q rfl
theorem dp_some (h : DE X W a fa) : DP X W (some a) (fP fa) := po_mono (po_some h) fun σ H Q q => by
  obtain ⟨E, H0, env, S, q⟩ := q
  refine WP.bind S q fun e1 x v H1 H' S1 s1 r1 q1 => ?_
  cases x with
  | int i => exact ⟨i, rp_int r1, Post.here S1 q1 rfl⟩
  | _ => exact (show False from q1).elim
def cutD {α : Type} (xs : List α) (lo hi : Option Int) : List α := (xs.drop (HT.sIx xs.length 0 lo)).take (HT.sIx xs.length xs.length hi - HT.sIx xs.length 0 lo)
theorem cut_rp {H : Hp} {ds : List D} {vs : List V} (r : RpA K H ds vs) (lo hi : Option Int) : RpA K H (cutD ds lo hi) (cutV vs lo hi) := by
  unfold cutD cutV
  rw [r.length]
  exact (r.drop _).take _
/-- a slice of a list: a new list -/
@[reducible] def fCutL (fa : Ev → Rs D) (fl fh : Ev → Rs (Option Int)) (env : Ev) : Rs (List D) := (fa env).bind fun e x => (fl e).bind fun e l => (fh e).bind fun e h => match x with
  | .lst ds => .ok e (cutD ds l h)
  | .fz ds => .ok e (cutD ds l h)
  | _ => .no
variable {lo hi : Option Expr} {fl fh : Ev → Rs (Option Int)} {p2 : Pos}
theorem df_cut (ha : DE X W a fa) (hl : DP X W lo fl) (hh : DP X W hi fh) : DF X W (.Subscript a (.Slice lo hi none p2) pos) (fCutL fa fl fh) := by
  refine pe_mono (pe_slice sl_list ha hl hh) fun σ H Q q => ?_
  obtain ⟨E, H0, env, S, q⟩ := q
  refine WP.bind S q fun e1 x v H1 H' S1 s1 r1 q1 => WP.bind S1 q1 fun e2 l l' H2 H'' S2 s2 r2 q2 => WP.bind S2 q2 fun e3 h h' H3 H4 S3 s3 r3 q3 => ?_
  have r2 : l = l' := r2
  have r3 : h = h' := r3
  subst r2 r3
  have rx := (r1.mono s2).mono s3
  have fin : ∀ {ds : List D} {a : Addr} {vs : List V}, SqL X.K H3 a vs → RpA X.K H3 ds vs → Post X.K W (RF X.K) E H3 σ Q (.ok e3 (cutD ds l h)) → rSlL X.K (.ref a) l h H4 Q := fun {ds a vs} hs r q => by
    refine ⟨a, vs, rfl, S3.s1.seq hs, fun p n => ?_⟩
    obtain ⟨S5, r5⟩ := S3.laid (cut_rp r l h) n
    exact q _ H3 _ (Same.refl _) S5 r5
  cases rx with
  | lst e r => exact fin (.inl (.inl e)) r q3
  | fz e r => exact fin e r q3
  | _ => exact (show False from q3).elim
/-- a slice of a tuple or of a text -/
def dCutT (x : D) (l h : Option Int) : Option D := match x with
  | .tup ds => some (.tup (cutD ds l h))
  | _ => none
end
/-! ### what a slot has -/
def szL (n : Nat) : Bool := Nat.ble n 1000
section
variable {K : Frag} {X : Cx} {W : WX} {k : Nat} {a b e : Expr} {es : List Expr} {fa fb : Ev → Rs D} {fs : Ev → Rs (List D)} {pos p apos : Pos}
/-- x[j] of slot i's own list -/
@[reducible] def fIxO (i : Nat) (fb : Ev → Rs D) (env : Ev) : Rs D := if (ob? env[i]?).isSome = true then (fb env).bind fun e y => match ob? e[i]?, y with
  | some (.lst ds), .int j => lift e (atI ds j)
  | _, _ => .no
  else .no
theorem de_ixO {i : Nat} {y : Str} {py : Pos} (hN : X.N[i]? = some y) (hb : DE X W b fb) (hv : Vis X.env.scope y := by first | exact Or.inl rfl | exact Or.inr (Or.inl rfl) | exact Or.inr (Or.inr rfl)) (hdy : (y == ("__debug__" : Str)) = false := by decide) (hcd : (y == ("__classdict__" : Str)) = false := by decide) (hs : PlainIx b := by exact fun _ _ => rfl) :
    DE X W (.Subscript (.Name y py) b pos) (fIxO i fb) := by
  refine pe_mono (pe_ix ix_list (pe_var hN hv hdy hcd) hb hs) fun σ H Q q => ?_
  obtain ⟨E, H0, env, S, q⟩ := q
  by_cases hi : (ob? env[i]?).isSome = true
  rotate_left
  · simp only [fIxO, if_neg hi] at q
    exact (show False from q).elim
  simp only [fIxO, if_pos hi] at q
  obtain ⟨o0, ho0⟩ := Option.isSome_iff_exists.mp hi
  obtain ⟨a0, e0, _⟩ := S.obj ho0
  refine ⟨.ref a0, e0, WP.bind S q fun e1 y v H1 H' S1 s1 r1 q1 => ?_⟩
  cases ho : ob? e1[i]? with
  | none => rw [ho] at q1; exact (show False from q1).elim
  | some o =>
    rw [ho] at q1
    cases o with
    | ins C ns ds => exact (show False from q1).elim
    | lst ds =>
      cases y with
      | int j =>
        obtain ⟨a1, e2, _, ⟨vs, hL, ra⟩, _⟩ := S1.obj ho
        rw [e0] at e2
        cases e2
        dsimp only at q1
        cases h : atI ds j with
        | none => rw [h] at q1; exact (show False from q1).elim
        | some d =>
          rw [h] at q1
          obtain ⟨v', h1, h2⟩ := atI_rp ra h
          exact ⟨a0, vs, j, v', rfl, rp_int r1, .inl (.inl hL), h1, Post.here S1 q1 h2⟩
      | _ => exact (show False from q1).elim
/-- x[j] = e at slot i's own list -/
@[reducible] def fSetIx (i : Nat) (fa fb : Ev → Rs D) (env : Ev) : Rs Fl := (fa env).bind fun e d => if (ob? e[i]?).isSome = true then (fb e).bind fun e y => match ob? e[i]?, y with
  | some (.lst ds), .int j => (match ixN ds.length j with
    | some n => .ok (putOb e i (.lst (ds.set n d))) .nx
    | none => .no)
  | _, _ => .no
  else .no
theorem StR.chgL {E : En} {H0 H : Hp} {σ : St} {env : Ev} {i : Nat} {a : Addr} {ds : List D} {vs : List V} (S : StR K E H0 H σ env) (h : Has σ env i a) (r : RpA K H0 ds vs) : StR K E H0 (upd H a (.lst vs)) σ (putOb env i (.lst ds)) :=
  S.chg h (Same.refl _) (fun b u q => by rw [upd_ne (ne_of_none q (S.has h).1)]; exact S.s1 _ _ q) (fun b u q ne => by rw [upd_ne ne]; exact q) (fun _ _ => rfl) ⟨vs, upd_same, r⟩
theorem ds_setIx {i : Nat} {y : Str} {py tpos : Pos} (hN : X.N[i]? = some y) (ha : DE X W a fa) (hb : DE X W b fb) (hv : Vis X.env.scope y := by first | exact Or.inl rfl | exact Or.inr (Or.inl rfl) | exact Or.inr (Or.inr rfl)) (hdy : (y == ("__debug__" : Str)) = false := by decide) (hcd : (y == ("__classdict__" : Str)) = false := by decide)
    (hs : swapsWithSole [.Subscript (.Name y py) b tpos] a pos.line X.env = pure false := by rfl) (hw : swappedStores [.Subscript (.Name y py) b tpos] a X.env = pure none := by rfl) (h1 : (assignEach [.Subscript (.Name y py) b tpos] X.env).map (·.2) = [assign (.Subscript (.Name y py) b tpos) X.env] := by rfl)
    (hasg : ∀ v, assign (.Subscript (.Name y py) b tpos) X.env v = (do
      let ov ← holding [v] (eval (.Name y py) X.env)
      let iv ← holding [v, ov] (eval b X.env)
      standAt tpos
      holding [v, ov, iv] (setItem ov iv v)
      release [v, ov, iv] []) := by intro _; rfl) : DS X W (.Assign [.Subscript (.Name y py) b tpos] a pos) (fSetIx i fa fb) := by
  refine ps_mono (ps_asg ha (pg_sub (pe_var hN hv hdy hcd) hb set_list hasg) hs hw h1) fun N σ H q => ?_
  obtain ⟨E, H0, env, S, q⟩ := q
  refine WP.bindS S q fun e1 d v H1 H' S1 s1 r1 q1 => ?_
  by_cases hi : (ob? e1[i]?).isSome = true
  rotate_left
  · rw [if_neg hi] at q1
    exact (show False from q1).elim
  rw [if_pos hi] at q1
  obtain ⟨o0, ho0⟩ := Option.isSome_iff_exists.mp hi
  obtain ⟨a0, e0, _⟩ := S1.obj ho0
  refine ⟨.ref a0, e0, WP.bindS S1 q1 fun e2 yv u H2 H'' S2 s2 r2 q2 => ?_⟩
  cases ho : ob? e2[i]? with
  | none => rw [ho] at q2; exact (show False from q2).elim
  | some o =>
    rw [ho] at q2
    cases o with
    | ins C ns ds => exact (show False from q2).elim
    | lst ds =>
      cases yv with
      | int j =>
        obtain ⟨a1, e3, _, ⟨vs, hL, ra⟩, hh⟩ := S2.obj ho
        rw [e0] at e3
        cases e3
        dsimp only at q2
        cases h : ixN ds.length j with
        | none => rw [h] at q2; exact (show False from q2).elim
        | some n =>
          rw [h] at q2
          exact ⟨a0, vs, j, n, rfl, rp_int r2, hL, by rw [← ra.length]; exact h, q2 σ H2 _ (Same.refl _) (S2.chgL hh (ra.set (r1.mono s2) n))⟩
      | _ => exact (show False from q2).elim
/-- a method of slot i's own list -/
def isL : Option Ob → Bool
  | some (.lst _) => true
  | _ => false
@[reducible] def fOM (i : Nat) (g : List D → List D → Option (List D × D)) (fs : Ev → Rs (List D)) (env : Ev) : Rs D := if isL (ob? env[i]?) = true then (fs env).bind fun e xs => match ob? e[i]? with
  | some (.lst ds) => (match g ds xs with
    | some (ds', d) => .ok (putOb e i (.lst ds')) d
    | none => .no)
  | _ => .no
  else .no
def OM (K : Frag) (r : V → List V → Hp → VK → Prop) (g : List D → List D → Option (List D × D)) : Prop := ∀ (H0 H : Hp) (a : Addr) (ds xs ds' : List D) (vs us : List V) (d : D) (Q : VK), Same H0 H → H0 a = none → H a = some (.lst vs) → RpA K H0 ds vs → RpA K H0 xs us → g ds xs = some (ds', d) →
  (∀ v vs', RpA K H0 ds' vs' → Rp K H0 d v → Q v (upd H a (.lst vs'))) → r (.ref a) us H Q
theorem own_read {r : V → List V → Hp → VK → Prop} {g : List D → List D → Option (List D × D)} (hr : OM K r g) {i : Nat} {σ : St} {H : Hp} {Q : VK} (q : tDE K W (fOM i g fs) σ H Q) : tBM K "list" r (tVar i) (tDA K W fs) σ H Q := by
  obtain ⟨E, H0, env, S, q⟩ := q
  by_cases hi : isL (ob? env[i]?) = true
  rotate_left
  · simp only [fOM, if_neg hi] at q
    exact (show False from q).elim
  simp only [fOM, if_pos hi] at q
  cases ho0 : ob? env[i]? with
  | none => rw [ho0] at hi; cases hi
  | some o0 =>
    cases o0 with
    | ins C ns ds => rw [ho0] at hi; cases hi
    | lst ds0 =>
      obtain ⟨a0, e0, _, ⟨vs0, hL0, _⟩, _⟩ := S.obj ho0
      refine ⟨.ref a0, e0, .inl ⟨rfl, _, .inl (.inl hL0)⟩, WP.bind S q fun e1 xs us H1 H' S1 s1 r1 q1 => ?_⟩
      cases ho : ob? e1[i]? with
      | none => rw [ho] at q1; exact (show False from q1).elim
      | some o =>
        rw [ho] at q1
        cases o with
        | ins C ns ds => exact (show False from q1).elim
        | lst ds =>
          obtain ⟨a1, e2, n0, ⟨vs, hL, ra⟩, hh⟩ := S1.obj ho
          rw [e0] at e2
          cases e2
          dsimp only at q1
          cases hg : g ds xs with
          | none => rw [hg] at q1; exact (show False from q1).elim
          | some z =>
            obtain ⟨ds', d⟩ := z
            rw [hg] at q1
            exact hr H1 H' a0 ds xs ds' vs us d Q S1.s1 n0 hL ra r1 hg fun v vs' r' rd => q1 v H1 _ (Same.refl _) (S1.chgL hh r') rd
theorem de_own {id : String} {name y : Str} {i : Nat} {py : Pos} {r : V → List V → Hp → VK → Prop} {g : List D → List D → Option (List D × D)} (slot : Slot "list" name id) (hty : typeOf (.builtin id) = pure (.type "method_descriptor")) (hm : MtR X id r) (hr : OM X.K r g) (hN : X.N[i]? = some y) (ha : DA X W (e :: es) fs)
    (hv : Vis X.env.scope y := by first | exact Or.inl rfl | exact Or.inr (Or.inl rfl) | exact Or.inr (Or.inr rfl)) (hdy : (y == ("__debug__" : Str)) = false := by decide) (hcd : (y == ("__classdict__" : Str)) = false := by decide)
    (hbase : attributeBase (.Name y py) name X.env (eval (.Name y py) X.env) = eval (.Name y py) X.env := by rfl)
    (hfew : ((backTo pos (starEach (e :: es) X.env)).all (fun x => !x.1) && (backToKw pos (keywordEach [] X.env)).all (fun x => x.1.isSome)
      && decide ((e :: es).length + ([] : List Keyword).length + (if ([] : List Keyword).isEmpty then 0 else 1) < 30)) = true := by rfl)
    (hline : (apos.endLine == pos.line) = true := by rfl) (hs : starEach (e :: es) X.env = (false, eval e X.env) :: starEach es X.env := by rfl) (hplain : (backTo pos (starEach es X.env)).any (·.1) = false := by rfl) :
    DE X W (.Call (.Attribute (.Name y py) name apos) (e :: es) [] pos) (fOM i g fs) :=
  pe_mono (pe_bm PySem.F.plainAttrs_list slot hty hm (pe_var hN hv hdy hcd) ha hbase hfew hline hs hplain) fun σ H Q q => own_read hr q
theorem de_own0 {id : String} {name y : Str} {i : Nat} {py : Pos} {r : V → List V → Hp → VK → Prop} {g : List D → List D → Option (List D × D)} (slot : Slot "list" name id) (hty : typeOf (.builtin id) = pure (.type "method_descriptor")) (hm : MtR X id r) (hr : OM X.K r g) (hN : X.N[i]? = some y)
    (hv : Vis X.env.scope y := by first | exact Or.inl rfl | exact Or.inr (Or.inl rfl) | exact Or.inr (Or.inr rfl)) (hdy : (y == ("__debug__" : Str)) = false := by decide) (hcd : (y == ("__classdict__" : Str)) = false := by decide)
    (hbase : attributeBase (.Name y py) name X.env (eval (.Name y py) X.env) = eval (.Name y py) X.env := by rfl) (hline : (apos.endLine == pos.line) = true := by rfl) :
    DE X W (.Call (.Attribute (.Name y py) name apos) [] [] pos) (fOM i g fNil) :=
  pe_mono (pe_bm0 PySem.F.plainAttrs_list slot hty hm (pe_var hN hv hdy hcd) hbase hline) fun σ H Q q => by
    obtain ⟨v, e, ty, ⟨E, H0, env, S, p⟩⟩ := own_read hr q
    exact ⟨v, e, ty, Post.here S p .nil⟩
def gApp (ds xs : List D) : Option (List D × D) := match xs with
  | [d] => if szL ds.length = true then some (ds ++ [d], .non) else none
  | _ => none
theorem om_append : OM K rAppend gApp := by
  intro H0 H a ds xs ds' vs us d Q s n hL ra rx e k
  unfold gApp at e
  split at e
  · split at e
    · rename_i hz
      cases e
      obtain ⟨v, rfl, rv⟩ := rpa1 rx
      exact ⟨a, vs, v, rfl, rfl, hL, by rw [← ra.length]; exact small1000 (Nat.le_of_ble_eq_true hz), k _ _ (ra.append (.cons rv .nil)) .non⟩
    · cases e
  · cases e
def gExt (ds xs : List D) : Option (List D × D) := match xs with
  | [.lst zs] => if szL (ds.length + zs.length) = true then some (ds ++ zs, .non) else none
  | _ => none
theorem om_extend : OM K rExtend gExt := by
  intro H0 H a ds xs ds' vs us d Q s n hL ra rx e k
  unfold gExt at e
  split at e
  · split at e
    · rename_i hz
      cases e
      obtain ⟨v, rfl, rv⟩ := rpa1 rx
      cases rv with
      | lst h r => exact ⟨a, _, vs, _, rfl, rfl, hL, s _ _ h, by rw [← ra.length, ← r.length]; exact le_line (Nat.le_of_ble_eq_true hz), k _ _ (ra.append r) .non⟩
    · cases e
  · cases e
def gIns (ds xs : List D) : Option (List D × D) := match xs with
  | [.int i, d] => if szL ds.length = true ∧ 0 ≤ i ∧ i < 2 ^ 62 then some (ds.take i.toNat ++ [d] ++ ds.drop i.toNat, .non) else none
  | _ => none
theorem om_insert : OM K (fun x vs H Q => ∃ (l : Addr) (xs : List V) (i : Int) (y : V), x = .ref l ∧ vs = [.int i, y] ∧ H l = some (.lst xs) ∧ xs.length < sizeLine ∧ 0 ≤ i ∧ i < 2 ^ 63 ∧
    Q .non (upd H l (.lst (xs.take i.toNat ++ [y] ++ xs.drop i.toNat)))) gIns := by
  intro H0 H a ds xs ds' vs us d Q s n hL ra rx e k
  unfold gIns at e
  split at e
  · split at e
    · rename_i hz
      cases e
      obtain ⟨v, u, rfl, rv, ru⟩ := rpa2 rx
      exact ⟨a, vs, _, u, rfl, by rw [rp_int rv], hL, by rw [← ra.length]; exact small1000 (Nat.le_of_ble_eq_true hz.1), hz.2.1, by omega, k _ _ (((ra.take _).append (.cons ru .nil)).append (ra.drop _)) .non⟩
    · cases e
  · cases e
def gPopAt (ds xs : List D) : Option (List D × D) := match xs with
  | [.int i] => if -(2 ^ 62) ≤ i ∧ i < 2 ^ 62 then (match seqIndex? i ds.length with
    | some k => (ds[k]?).map fun d => (ds.eraseIdx k, d)
    | none => none) else none
  | _ => none
theorem RpA.eraseIdx {H : Hp} : ∀ {ds : List D} {vs : List V} (i : Nat), RpA K H ds vs → RpA K H (ds.eraseIdx i) (vs.eraseIdx i)
  | _, _, _, .nil => by simpa using (RpA.nil : RpA K H [] [])
  | _, _, 0, .cons _ t => by simpa using t
  | _, _, i + 1, .cons r t => by simpa using RpA.cons r (RpA.eraseIdx i t)
theorem om_popAt : OM K rPopAt gPopAt := by
  intro H0 H a ds xs ds' vs us d Q s n hL ra rx e k
  unfold gPopAt at e
  split at e
  · split at e
    · rename_i hz
      split at e
      · rename_i j hj
        obtain ⟨d0, e1, e2⟩ := Option.map_eq_some_iff.mp e
        cases e2
        obtain ⟨v, rfl, rv⟩ := rpa1 rx
        obtain ⟨y, h1, h2⟩ := ra.get e1
        exact ⟨a, vs, _, j, y, rfl, by rw [rp_int rv], hL, by omega, by omega, by rw [← ra.length]; exact hj, h1, k _ _ (ra.eraseIdx j) h2⟩
      · cases e
    · cases e
  · cases e
/-- return x, x slot i's own list -/
@[reducible] def fRetO (i : Nat) (env : Ev) : Rs Fl := match env[i]? with
  | some (.ow (.lst ds)) => .ok (env.set i .un) (.rt (.fr ds))
  | _ => .no
theorem StR.drop {E : En} {H0 H : Hp} {σ : St} {env : Ev} (S : StR K E H0 H σ env) {i : Nat} {o : Ob} (h : env[i]? = some (.ow o)) : StR K E H0 H σ (env.set i .un) := by
  have hi : i < env.length := (List.getElem?_eq_some_iff.mp h).1
  have has : ∀ j b, Has σ (env.set i .un) j b → Has σ env j b := fun j b ⟨e1, e2⟩ => by
    refine ⟨e1, ?_⟩
    rw [get_set hi] at e2
    by_cases z : j = i
    · rw [if_pos z] at e2
      rcases e2 with ⟨_, e2⟩ | ⟨_, e2⟩ <;> cases e2
    · rw [if_neg z] at e2
      exact e2
  refine ⟨S.s0, S.s1, S.old, S.kept, by simp [S.len], fun j s e => ?_, fun j b q => ?_, fun j l b h1 h2 => S.apart j l b (has j b h1) (has l b h2), fun b u q => ?_⟩
  · rw [get_set hi] at e
    by_cases z : j = i
    · rw [if_pos z] at e; cases e; exact True.intro
    · rw [if_neg z] at e; exact S.slot j s e
  · obtain ⟨o', e1, e2⟩ := S.refs j b q
    have z : j ≠ i := by rintro rfl; rw [h] at e1; cases e1
    exact ⟨o', by rw [get_set hi, if_neg z]; exact e1, e2⟩
  · obtain ⟨h1, h2, h3⟩ := S.frk b u q
    exact ⟨h1, h2, fun j hj => h3 j (has j b hj)⟩
theorem ds_retO {i : Nat} {y : Str} {py : Pos} (hN : X.N[i]? = some y) (hv : Vis X.env.scope y := by first | exact Or.inl rfl | exact Or.inr (Or.inl rfl) | exact Or.inr (Or.inr rfl)) (hdy : (y == ("__debug__" : Str)) = false := by decide) (hcd : (y == ("__classdict__" : Str)) = false := by decide) :
    DS X W (.Return (some (.Name y py)) pos) (fRetO i) := by
  refine ps_mono (ps_ret (pe_var hN hv hdy hcd)) fun N σ H q => ?_
  obtain ⟨E, H0, env, S, q⟩ := q
  unfold fRetO at q
  split at q
  · rename_i ds e
    obtain ⟨a, e1, nE, n0, vs, hL, r⟩ := S.slot i _ e
    have hi : i < env.length := (List.getElem?_eq_some_iff.mp e).1
    have hh : Has σ env i a := ⟨e1, .inl ⟨_, e⟩⟩
    refine ⟨.ref a, e1, q _ σ H0 H (Same.refl _) (S.drop e) ⟨a, vs, rfl, n0, nE, ?_, fun j hj => ?_, hL, r⟩⟩
    · cases z : E.fr a with
      | none => rfl
      | some o => exact absurd hh ((S.frk a o z).2.2 i)
    · obtain ⟨c1, c2⟩ := hj
      have z : j = i := S.apart j i a ⟨c1, by
        rw [get_set hi] at c2
        by_cases z : j = i
        · rw [if_pos z] at c2; rcases c2 with ⟨_, c2⟩ | ⟨_, c2⟩ <;> cases c2
        · rw [if_neg z] at c2; exact c2⟩ hh
      subst z
      rw [get_set hi, if_pos rfl] at c2
      rcases c2 with ⟨_, c2⟩ | ⟨_, c2⟩ <;> cases c2
  · exact (show False from q).elim
/-! ### a look at what slots have -/
/-- data without lists and objects -/
def shObj : Ob → D
  | .lst ds => .lst ds
  | .ins C ns ds => .obj C ns ds
def shSl : Sl → Sl
  | .ow o => .sh (shObj o)
  | .rf o => .sh (shObj o)
  | s => s
end
mutual
def imm : D → Bool
  | .non => true
  | .bl _ => true
  | .int _ => true
  | .str _ => true
  | .tup ds => immA ds
  | .lst _ => false
  | .fz _ => false
  | .obj _ _ _ => false
  | .ref _ => true
  | .ty _ => true
def immA : List D → Bool
  | [] => true
  | d :: r => imm d && immA r
end
section
variable {K : Frag}
/-- the shared heap less what stands at some places that are no tuples -/
def less (H : Hp) (p : Addr → Bool) : Hp := fun b => if p b = true then none else H b
mutual
theorem imm_less {H : Hp} {p : Addr → Bool} (hp : ∀ b xs, p b = true → ¬ Rd H b (.tup xs)) : ∀ {d : D} {v : V}, Rp K H d v → imm d = true → Rp K (less H p) d v
  | _, _, .non, _ => .non
  | _, _, .bl b, _ => .bl b
  | _, _, .int i, _ => .int i
  | _, _, .str x, _ => .str x
  | _, _, .ref a, _ => .ref a
  | _, _, .ty n, _ => .ty n
  | _, _, .tup (a := a) (xs := xs) h r, e => by
    refine .tup ?_ (immA_less hp r (by simpa [imm] using e))
    rcases h with h | h
    · have hn : p a = false := by
        cases z : p a with
        | false => rfl
        | true => exact absurd h (hp a _ z)
      left
      rcases h with h | ⟨o, h⟩
      · exact .inl (by unfold less; rw [hn, if_neg Bool.false_ne_true]; exact h)
      · exact .inr ⟨o, by unfold less; rw [hn, if_neg Bool.false_ne_true]; exact h⟩
    · exact .inr h
  | _, _, .lst h r, e => by simp [imm] at e
  | _, _, .fz h r, e => by simp [imm] at e
  | _, _, .obj h r, e => by simp [imm] at e
theorem immA_less {H : Hp} {p : Addr → Bool} (hp : ∀ b xs, p b = true → ¬ Rd H b (.tup xs)) : ∀ {ds : List D} {vs : List V}, RpA K H ds vs → immA ds = true → RpA K (less H p) ds vs
  | _, _, .nil, _ => .nil
  | _, _, .cons (d := d) (ds := ds) h r, e => by
    have e : (imm d && immA ds) = true := by simpa [immA] using e
    obtain ⟨e1, e2⟩ := Bool.and_eq_true_iff.mp e
    exact .cons (imm_less hp h e1) (immA_less hp r e2)
end
open Classical in
/-- all that slots have is open to be read -/
theorem StR.look {E : En} {H0 H : Hp} {σ : St} {env : Ev} (S : StR K E H0 H σ env) : ∃ Hs, StR K ⟨Hs, H, [], fun _ => none⟩ Hs H σ (env.map shSl) ∧ ∀ {H1 H' : Hp} {e2 : Ev}, StR K ⟨Hs, H, [], fun _ => none⟩ H1 H' σ e2 →
    ∃ Hn, Same H0 Hn ∧ StR K E Hn H' σ env ∧ (∀ d v, imm d = true → Rp K H1 d v → Rp K Hn d v) ∧ (∀ ds vs, immA ds = true → RpA K H1 ds vs → RpA K Hn ds vs) ∧ (∀ a, H1 a = none → Hn a = none) ∧ ∀ a fs, H1 a = some (.xd fs) → Hn a = some (.xd fs) := by
  let p : Addr → Bool := fun b => decide (∃ i, Has σ env i b)
  have hp : ∀ {b}, p b = true ↔ ∃ i, Has σ env i b := fun {b} => decide_eq_true_iff
  have hp0 : ∀ {b}, p b = true → H0 b = none := fun {b} h => by obtain ⟨i, hi⟩ := hp.mp h; exact (S.has hi).1
  refine ⟨fun b => if p b = true then H b else H0 b, ?_, ?_⟩
  · have s : Same H0 (fun b => if p b = true then H b else H0 b) := fun b o e => by
      dsimp only
      by_cases z : p b = true
      · rw [hp0 z] at e; cases e
      · rw [if_neg z]; exact e
    refine ⟨Same.refl _, fun b o e => ?_, fun _ _ => rfl, fun _ _ e _ => e, by simp [S.len], fun i t e => ?_, (fun i a h => nomatch h), fun i j a h1 h2 => ?_, (fun a o h => nomatch h)⟩
    · by_cases z : p b = true
      · rw [if_pos z] at e; exact e
      · rw [if_neg z] at e; exact S.s1 _ _ e
    · rw [List.getElem?_map] at e
      cases q : env[i]? with
      | none => rw [q] at e; cases e
      | some t0 =>
        rw [q] at e
        cases e
        have x := S.slot i t0 q
        have own : ∀ a o, σ[i]? = some (some (.ref a)) → Has σ env i a → ObR K H0 H a o → SlR K ⟨fun b => if p b = true then H b else H0 b, H, [], fun _ => none⟩ (fun b => if p b = true then H b else H0 b) H i σ[i]? (.sh (shObj o)) := fun a o e1 hh ro => by
          refine ⟨.ref a, e1, ?_⟩
          have hpa : p a = true := hp.mpr ⟨i, hh⟩
          cases o with
          | lst ds =>
            obtain ⟨vs, hL, r⟩ := ro
            exact .lst (by rw [if_pos hpa]; exact hL) (r.mono s)
          | ins C ns ds =>
            obtain ⟨dx, fs, hL, hn, r⟩ := ro
            subst hn
            exact .obj (dx := dx) (by rw [if_pos hpa]; exact hL) (r.mono s)
        cases t0 with
        | un => exact True.intro
        | sh d => obtain ⟨v, e1, r⟩ := x; exact ⟨v, e1, r.mono s⟩
        | ow o => obtain ⟨a, e1, _, _, ro⟩ := x; exact own a o e1 ⟨e1, .inl ⟨o, q⟩⟩ ro
        | rf o => obtain ⟨a, e1, _, _, ro⟩ := x; exact own a o e1 ⟨e1, .inr ⟨o, q⟩⟩ ro
    · obtain ⟨_, ⟨o, c⟩ | ⟨o, c⟩⟩ := h1
      · rw [List.getElem?_map] at c
        cases q : env[i]? with
        | none => rw [q] at c; cases c
        | some t0 => rw [q] at c; cases t0 <;> cases c
      · rw [List.getElem?_map] at c
        cases q : env[i]? with
        | none => rw [q] at c; cases c
        | some t0 => rw [q] at c; cases t0 <;> cases c
  · intro H1 H' e2 T
    have sH : Same H H' := fun b o e => T.kept b o e fun i h => nomatch h
    have old : ∀ b, H b ≠ none → H1 b = if p b = true then H b else H0 b := T.old
    have notup : ∀ b xs, p b = true → ¬ Rd H1 b (.tup xs) := fun b xs z r => by
      obtain ⟨i, hi⟩ := hp.mp z
      obtain ⟨_, u, hu⟩ := S.has hi
      have e1 := old b (by rw [hu]; simp)
      rw [if_pos z, hu] at e1
      have nt : ∀ o : Ob, ObR K H0 H b o → ∀ xs, u ≠ .tup xs ∧ ∀ ob, u ≠ .frz ob (.tup xs) := fun o ro xs => by
        cases o with
        | lst ds => obtain ⟨vs, hL, _⟩ := ro; rw [hu] at hL; cases hL; exact ⟨(fun z => nomatch z), (fun _ z => nomatch z)⟩
        | ins C ns ds => obtain ⟨dx, fs, hL, _⟩ := ro; rw [hu] at hL; cases hL; exact ⟨(fun z => nomatch z), (fun _ z => nomatch z)⟩
      have ex : ∃ o, ObR K H0 H b o := by
        obtain ⟨c1, ⟨o, c2⟩ | ⟨o, c2⟩⟩ := hi
        · obtain ⟨a, q1, _, _, ro⟩ := S.slot i _ c2
          rw [c1] at q1; cases q1; exact ⟨o, ro⟩
        · obtain ⟨a, q1, _, _, ro⟩ := S.slot i _ c2
          rw [c1] at q1; cases q1; exact ⟨o, ro⟩
      obtain ⟨o, ro⟩ := ex
      rcases r with r | ⟨ob, r⟩
      · rw [e1] at r; exact (nt o ro xs).1 (Option.some.inj r)
      · rw [e1] at r; exact (nt o ro xs).2 ob (Option.some.inj r)
    have noxd : ∀ b fs, p b = true → H1 b ≠ some (.xd fs) := fun b fs z r => by
      obtain ⟨i, hi⟩ := hp.mp z
      obtain ⟨_, u, hu⟩ := S.has hi
      have e1 := old b (by rw [hu]; simp)
      rw [if_pos z, hu, r] at e1
      cases e1
      obtain ⟨c1, ⟨o, c2⟩ | ⟨o, c2⟩⟩ := hi
      · obtain ⟨a, q1, _, _, ro⟩ := S.slot i _ c2
        rw [c1] at q1; cases q1
        cases o with
        | lst ds => obtain ⟨vs, hL, _⟩ := ro; rw [hu] at hL; cases hL
        | ins C ns ds => obtain ⟨dx, fs, hL, _⟩ := ro; rw [hu] at hL; cases hL
      · obtain ⟨a, q1, _, _, ro⟩ := S.slot i _ c2
        rw [c1] at q1; cases q1
        cases o with
        | lst ds => obtain ⟨vs, hL, _⟩ := ro; rw [hu] at hL; cases hL
        | ins C ns ds => obtain ⟨dx, fs, hL, _⟩ := ro; rw [hu] at hL; cases hL
    have new : ∀ b, H b ≠ none → less H1 p b = H0 b := fun b hb => by
      unfold less
      by_cases z : p b = true
      · rw [if_pos z, hp0 z]
      · rw [if_neg z, old b hb, if_neg z]
    have s0 : Same H0 (less H1 p) := fun b o e => by rw [new b (by rw [S.s1 _ _ e]; simp)]; exact e
    refine ⟨less H1 p, s0, S.grow s0 (fun b o e => ?_) sH new, fun d v hd r => imm_less notup r hd, fun ds vs hd r => immA_less notup r hd, fun a e => ?_, fun a fs e => ?_⟩
    · unfold less at e
      split at e
      · cases e
      · exact T.s1 _ _ e
    · unfold less
      split
      · rfl
      · exact e
    · unfold less
      split
      · rename_i z; exact absurd e (noxd a fs z)
      · exact e
@[reducible] def fBor (f : Ev → Rs D) (env : Ev) : Rs D := match f (env.map shSl) with
  | .ok _ d => if imm d = true then .ok env d else .no
  | .er _ C fl d => if imm d = true then .er env C fl d else .no
  | .no => .no
@[reducible] def fBorT (f : Ev → Rs Bool) (env : Ev) : Rs Bool := match f (env.map shSl) with
  | .ok _ b => .ok env b
  | .er _ C fl d => if imm d = true then .er env C fl d else .no
  | .no => .no
@[reducible] def fBorF (f : Ev → Rs (List D)) (env : Ev) : Rs (List D) := match f (env.map shSl) with
  | .ok _ ds => if immA ds = true then .ok env ds else .no
  | .er _ C fl d => if imm d = true then .er env C fl d else .no
  | .no => .no
variable {X : Cx} {W : WX} {e : Expr}
theorem de_bor {f : Ev → Rs D} (h : DE X W e f) : DE X W e (fBor f) := by
  refine pe_mono h fun σ H Q q => ?_
  obtain ⟨E, H0, env, S, q⟩ := q
  obtain ⟨Hs, T, back⟩ := S.look
  refine ⟨_, Hs, _, T, ?_⟩
  unfold fBor at q
  cases hf : f (env.map shSl) with
  | ok e2 d =>
    rw [hf] at q
    dsimp only at q
    split at q
    · rename_i hi
      intro v H1 H' s1 T1 r1
      obtain ⟨Hn, s, S', im, _, _⟩ := back T1
      exact q v Hn H' s S' (im d v hi r1)
    · exact (show False from q).elim
  | er e2 C fl d =>
    rw [hf] at q
    dsimp only at q
    split at q
    · rename_i hi
      intro v dd H1 H' s1 T1 r1 hx
      obtain ⟨Hn, s, S', im, _, _, xd⟩ := back T1
      exact q v dd Hn H' s S' (im d v hi r1) (xd _ _ hx)
    · exact (show False from q).elim
  | no => rw [hf] at q; exact q
theorem dt_bor {f : Ev → Rs Bool} (h : DT X W e f) : DT X W e (fBorT f) := by
  refine pt_mono h fun σ H Q q => ?_
  obtain ⟨E, H0, env, S, q⟩ := q
  obtain ⟨Hs, T, back⟩ := S.look
  refine ⟨_, Hs, _, T, ?_⟩
  unfold fBorT at q
  cases hf : f (env.map shSl) with
  | ok e2 d =>
    rw [hf] at q
    intro v H1 H' s1 T1 r1
    obtain ⟨Hn, s, S', im, _, _⟩ := back T1
    exact q v Hn H' s S' r1
  | er e2 C fl d =>
    rw [hf] at q
    dsimp only at q
    split at q
    · rename_i hi
      intro v dd H1 H' s1 T1 r1 hx
      obtain ⟨Hn, s, S', im, _, _, xd⟩ := back T1
      exact q v dd Hn H' s S' (im d v hi r1) (xd _ _ hx)
    · exact (show False from q).elim
  | no => rw [hf] at q; exact q
theorem df_bor {f : Ev → Rs (List D)} (h : DF X W e f) : DF X W e (fBorF f) := by
  refine pe_mono h fun σ H Q q => ?_
  obtain ⟨E, H0, env, S, q⟩ := q
  obtain ⟨Hs, T, back⟩ := S.look
  refine ⟨_, Hs, _, T, ?_⟩
  unfold fBorF at q
  cases hf : f (env.map shSl) with
  | ok e2 ds =>
    rw [hf] at q
    dsimp only at q
    split at q
    · rename_i hi
      intro v H1 H' s1 T1 r1
      obtain ⟨Hn, s, S', _, im, nn, _⟩ := back T1
      obtain ⟨a, vs, rfl, n0, nE, nf, nh, hL, r⟩ := r1
      have nE : H a = none := nE
      refine q _ Hn H' s S' ⟨a, vs, rfl, nn a n0, S.live nE, ?_, fun i hi => ?_, hL, im ds vs hi r⟩
      · cases z : E.fr a with
        | none => rfl
        | some o => rw [(S.frk a o z).1] at nE; cases nE
      · obtain ⟨_, o, z⟩ := S.has hi
        rw [z] at nE; cases nE
    · exact (show False from q).elim
  | er e2 C fl d =>
    rw [hf] at q
    dsimp only at q
    split at q
    · rename_i hi
      intro v dd H1 H' s1 T1 r1 hx
      obtain ⟨Hn, s, S', im, _, _, xd⟩ := back T1
      exact q v dd Hn H' s S' (im d v hi r1) (xd _ _ hx)
    · exact (show False from q).elim
  | no => rw [hf] at q; exact q
end
end DL

end

section
set_option Elab.async false
set_option linter.all false
set_option maxRecDepth 100000
set_option maxHeartbeats 2000000
/-! DQ: isinstance, formatted texts, globals, what is never reached. -/
namespace DL
open PySem L2
section
variable {K : Frag} {X : Cx} {W : WX} {a b c o e : Expr} {es : List Expr} {fa fb fc : Ev → Rs D} {fs : Ev → Rs (List D)} {pos p apos : Pos}
theorem ds_never {st : Stmt} : DS X W st (fun _ => .no) := ps_mono ps_never fun N σ H q => by
  obtain ⟨E, H0, env, S, q⟩ := q
  exact q
theorem dss_never {st : List Stmt} : DSs X W st (fun _ => .no) := pss_mono pss_never fun N σ H q => by
  obtain ⟨E, H0, env, S, q⟩ := q
  exact q
/-! ### globals -/
/-- a tuple of the module's own -/
def GlT (K : Frag) (mg : Str → Option Value) (x : Str) (ds : List D) : Prop := ∃ (a : Addr) (vs : List V), mg x = some (.ref a) ∧ (∀ H, SqT K H a vs) ∧ ∀ H, RpA K H ds vs
theorem de_globT {x : Str} {ds : List D} (G : GlT X.K X.mg x ds) (hg : Gl X x := by rfl) (hd : (x == ("__debug__" : Str)) = false := by decide) : DE X W (.Name x pos) (fC (.tup ds)) := by
  obtain ⟨a, vs, hm, hs, hr⟩ := G
  exact de_c (pe_glob (v := .ref a) hg hm rfl hd) fun H => .tup (hs H) (hr H)
theorem de_globI {x : Str} {i : Int} {t : Tok} (hm : X.mg x = some (.int i t)) (hg : Gl X x := by rfl) (hd : (x == ("__debug__" : Str)) = false := by decide) : DE X W (.Name x pos) (fC (.int i)) := de_c (pe_glob (v := .int i) hg hm ⟨t, rfl⟩ hd) fun H => .int i
theorem de_globS {x z : Str} {t : Tok} (hm : X.mg x = some (.str z t)) (hg : Gl X x := by rfl) (hd : (x == ("__debug__" : Str)) = false := by decide) : DE X W (.Name x pos) (fC (.str z)) := de_c (pe_glob (v := .str z) hg hm ⟨t, rfl⟩ hd) fun H => .str z
theorem de_globR {x : Str} {C : Addr} (hm : X.mg x = some (.ref C)) (hg : Gl X x := by rfl) (hd : (x == ("__debug__" : Str)) = false := by decide) : DE X W (.Name x pos) (fC (.ref C)) := de_c (pe_glob (v := .ref C) hg hm rfl hd) fun H => .ref C
theorem de_ty {x : Str} {T : String} (hm : X.mg x = none) (hb : bootBuiltins x = some (.type T)) (hg : Gl X x := by rfl) (hn : x ≠ "__name__" := by decide) (hd : (x == ("__debug__" : Str)) = false := by decide) : DE X W (.Name x pos) (fC (.ty T)) := de_c (pe_bltn (v := .ty T) hg hm hb rfl hn hd) fun H => .ty T
/-! ### isinstance of built-in types -/
inductive Ty where
  | non | bl | int | str | tup | lst
def Ty.nm : Ty → String
  | .non => "NoneType"
  | .bl => "bool"
  | .int => "int"
  | .str => "str"
  | .tup => "tuple"
  | .lst => "list"
def tyD : D → Option Ty
  | .non => some .non
  | .bl _ => some .bl
  | .int _ => some .int
  | .str _ => some .str
  | .tup _ => some .tup
  | .lst _ => some .lst
  | .fz _ => some .lst
  | _ => none
def isTy (t : Ty) (T : String) : Option Bool :=
  if T = "int" then some (match t with | .int => true | .bl => true | _ => false)
  else if T = "str" then some (match t with | .str => true | _ => false)
  else if T = "tuple" then some (match t with | .tup => true | _ => false)
  else if T = "list" then some (match t with | .lst => true | _ => false)
  else if T = "bool" then some (match t with | .bl => true | _ => false)
  else none
theorem isTy_kit {t : Ty} {T : String} {r : Bool} (h : isTy t T = some r) : PySem.W.kitOne K (.type t.nm) (.type T) = some r := by
  refine kit_ty ?_
  unfold isTy at h
  split at h
  · rename_i e; subst e; cases t <;> cases h <;> decide +kernel
  · split at h
    · rename_i e; subst e; cases t <;> cases h <;> decide +kernel
    · split at h
      · rename_i e; subst e; cases t <;> cases h <;> decide +kernel
      · split at h
        · rename_i e; subst e; cases t <;> cases h <;> decide +kernel
        · split at h
          · rename_i e; subst e; cases t <;> cases h <;> decide +kernel
          · cases h
theorem tyX_of {H0 H : Hp} {d : D} {v : V} {t : Ty} (s : Same H0 H) (r : Rp K H0 d v) (h : tyD d = some t) : TyX K H v (.type t.nm) := by
  cases r with
  | non => cases h; exact .base .non
  | bl b => cases h; exact .base (.bl b)
  | int i => cases h; exact .base (.int i)
  | str x => cases h; exact .base (.str x)
  | tup q _ =>
    cases h
    rcases q with (q | ⟨o, q⟩) | ⟨o, its, n, hk, hc, _⟩
    · exact .base (.tup (s _ _ q))
    · exact .fTuple (s _ _ q)
    · exact .kTuple hk hc
  | lst q _ => cases h; exact .base (.lst (s _ _ q))
  | fz q _ =>
    cases h
    rcases q with (q | ⟨o, q⟩) | ⟨o, its, n, hk, hc, _⟩
    · exact .base (.lst (s _ _ q))
    · exact .base (.frz (s _ _ q))
    · exact .kList hk hc
  | ref _ => cases h
  | ty _ => cases h
  | obj _ _ => cases h
def gIsi : List D → Option D
  | [x, .ty T] => (match tyD x with
    | some t => (isTy t T).map .bl
    | none => none)
  | _ => none
theorem vn_isi : VN K (rIsi K) gIsi := by
  intro H0 H xs d vs Q s r e k
  unfold gIsi at e
  split at e
  · rename_i x T
    split at e
    · rename_i t ht
      obtain ⟨b, hb, rfl⟩ := Option.map_eq_some_iff.mp e
      obtain ⟨v, u, rfl, rv, ru⟩ := rpa2 r
      cases ru
      exact ⟨v, .ty T, _, _, b, rfl, .ty T, tyX_of s rv ht, isTy_kit hb, k _ _ _ .refl (.bl _)⟩
    · cases e
  · cases e
/-! ### formatted texts -/
def gFmt : D → Option D
  | .str x => if szS x = true then some (.str x) else none
  | .int i => if okI i = true then some (.str (toString i)) else none
  | _ => none
theorem de_fmt (h : DE X W a fa) : DE X W (.FormattedValue a (-1) none pos) (f1 gFmt fa) := by
  refine pe_mono (pe_fmt h) fun σ H Q q => ?_
  obtain ⟨E, H0, env, S, q⟩ := q
  refine WP.bind S q fun e1 x v H1 H' S1 s1 r1 q1 => ?_
  cases x with
  | str z =>
    by_cases hz : szS z = true
    · simp only [gFmt, if_pos hz] at q1
      have := szS_le hz
      exact .inl ⟨z, rp_str r1, by rw [sizeLine_eq]; omega, Post.here S1 q1 (.str _)⟩
    · simp only [gFmt, if_neg hz] at q1
      exact (show False from q1).elim
  | int i =>
    by_cases hz : okI i = true
    · simp only [gFmt, if_pos hz] at q1
      exact .inr ⟨i, rp_int r1, okI_log hz, Post.here S1 q1 (.str _)⟩
    · simp only [gFmt, if_neg hz] at q1
      exact (show False from q1).elim
  | _ => exact (show False from q1).elim
/-- the parts, one behind the other -/
abbrev DJ (X : Cx) (W : WX) (es : List Expr) (fs : List (Ev → Rs D)) : Prop := PJ X es (fs.map fun f => tDE X.K W f)
theorem dj_nil : DJ X W [] [] := .nil
theorem dj_cons {fs : List (Ev → Rs D)} (h : DE X W a fa) (r : DJ X W es fs) : DJ X W (a :: es) (fa :: fs) := .cons h r
def joinF : List (Ev → Rs D) → Str → Ev → Rs D
  | [], acc, env => .ok env (.str acc)
  | f :: r, acc, env => (f env).bind fun e x => match x with
    | .str y => if szS (acc ++ y) = true then joinF r (acc ++ y) e else .no
    | _ => .no
theorem joinF_read {K : Frag} {E : En} {σ : St} {Q : VK} : ∀ {fs : List (Ev → Rs D)} {acc : Str} {H0 H : Hp} {env : Ev}, StR K E H0 H σ env → Post K W (RD K) E H0 σ Q (joinF fs acc env) → tJs (fs.map fun f => tDE K W f) acc σ H fun out H1 => Q (.str out) H1
  | [], acc, H0, H, env, S, q => Post.here S q (.str acc)
  | f :: r, acc, H0, H, env, S, q => by
    refine WP.bind S q fun e1 x v H1 H' S1 s1 r1 q1 => ?_
    cases x with
    | str y =>
      dsimp only at q1
      by_cases hz : szS (acc ++ y) = true
      · rw [if_pos hz] at q1
        have := szS_le hz
        exact ⟨y, rp_str r1, by rw [sizeLine_eq]; omega, joinF_read S1 q1⟩
      · rw [if_neg hz] at q1
        exact (show False from q1).elim
    | _ => exact (show False from q1).elim
theorem de_joined {v1 v2 : Expr} {rest : List Expr} {fs : List (Ev → Rs D)} (h : DJ X W (v1 :: v2 :: rest) fs) : DE X W (.JoinedStr (v1 :: v2 :: rest) pos) (joinF fs Str.empty) := by
  refine pe_mono (pe_joined h) fun σ H Q q => ?_
  obtain ⟨E, H0, env, S, q⟩ := q
  exact joinF_read S q
theorem de_joined1 (h : DE X W a fa) : DE X W (.JoinedStr [a] pos) fa := pe_joined1 h
/-! ### a < b < c -/
@[reducible] def fChain (g g' : D → D → Option D) (fa fb fc : Ev → Rs D) (env : Ev) : Rs D := (fa env).bind fun e x => (fb e).bind fun e y => match g x y with
  | some (.bl true) => (fc e).bind fun e z => lift e (g' y z)
  | some (.bl false) => .ok e (.bl false)
  | _ => .no
theorem chain_read {r r' : R2} {g g' : D → D → Option D} (hv : V2 K r g) (hv' : V2 K r' g') {σ : St} {H : Hp} {Q : VK} (q : tDE K W (fChain g g' fa fb fc) σ H Q) : tChain r r' (tDE K W fa) (tDE K W fb) (tDE K W fc) σ H Q := by
  obtain ⟨E, H0, env, S, q⟩ := q
  refine WP.bind S q fun e1 x v H1 H' S1 s1 r1 q1 => WP.bind S1 q1 fun e2 y u H2 H'' S2 s2 r2 q2 => ?_
  cases hg : g x y with
  | none => rw [hg] at q2; exact (show False from q2).elim
  | some d =>
    rw [hg] at q2
    refine hv H2 H'' x y d v u _ S2.s1 (r1.mono s2) r2 hg fun v' G G' gr rd => ?_
    obtain ⟨s3, S3⟩ := S2.gr gr
    cases d with
    | bl kk =>
      refine ⟨kk, rp_bl rd, ?_⟩
      cases kk with
      | true =>
        refine iteT (WP.bind S3 (Post.up s3 q2) fun e3 z t H3 H4 S4 s4 r4 q4 => ?_)
        exact q4.fin S4 fun d ed k => hv' H3 H4 y z d u t Q S4.s1 ((r2.mono s3).mono s4) r4 ed k
      | false => exact iteF (Post.here S3 (Post.up s3 q2) (.bl false))
    | _ => exact (show False from q2).elim
theorem de_chain {op op' : CmpOp} {r r' : R2} {g g' : D → D → Option D} (ho : OpR X (compareOp op) r) (hv : V2 X.K r g) (ho' : OpR X (compareOp op') r') (hv' : V2 X.K r' g') (ha : DE X W a fa) (hb : DE X W b fb) (hc : DE X W c fc)
    (hm : lastMarks [op, op'] [b, c] = false := by with_unfolding_all rfl) : DE X W (.Compare a [op, op'] [b, c] pos) (fChain g g' fa fb fc) := pe_mono (pe_chain ho ho' ha hb hc hm) fun σ H Q q => chain_read hv hv' q
theorem dt_chain {op op' : CmpOp} {r r' : R2} {g g' : D → D → Option D} (ho : OpR X (compareOp op) r) (hv : V2 X.K r g) (ho' : OpR X (compareOp op') r') (hv' : V2 X.K r' g') (ha : DE X W a fa) (hb : DE X W b fb) (hc : DE X W c fc)
    (hm : lastMarks [op, op'] [b, c] = false := by with_unfolding_all rfl) : DT X W (.Compare a [op, op'] [b, c] pos) (fTest (fChain g g' fa fb fc)) := by
  refine pt_mono (pt_chain ho ho' ha hb hc hm) fun σ H Q q => ?_
  refine chain_read (Q := fun x H' => ∃ k, x = .bl k ∧ Q k H') hv hv' ?_
  obtain ⟨E, H0, env, S, q⟩ := q
  refine ⟨E, H0, env, S, ?_⟩
  unfold fTest at q
  cases h : fChain g g' fa fb fc env with
  | ok e2 d =>
    rw [h] at q
    intro v H1 H' s1 S1 r1
    cases d with
    | bl kk => exact ⟨kk, rp_bl r1, q kk H1 H' s1 S1 rfl⟩
    | _ => exact (show False from q).elim
  | er => rw [h] at q; exact q
  | no => rw [h] at q; exact q
end
end DL

end

section
set_option Elab.async false
set_option linter.all false
set_option maxRecDepth 100000
set_option maxHeartbeats 2000000
/-! DR: further rules. -/
namespace DL
open PySem L2
section
variable {K : Frag} {X : Cx} {W : WX} {k : Nat} {a b c o e tg : Expr} {es : List Expr} {fa fb fc : Ev → Rs D} {fs : Ev → Rs (List D)} {pos p apos : Pos}
/-- what is walked is a list or a tuple, as it comes -/
@[reducible] def fiQ (fa : Ev → Rs D) (env : Ev) : Rs (List D) := (fa env).bind fun e d => lift e (itemsD d)
theorem PI.or {wi : TI} {w1 w2 : TI} (h1 : PI X tg e w1) (h2 : PI X tg e w2) (m : ∀ σ H R, wi σ H R → w1 σ H R ∨ w2 σ H R) : PI X tg e wi := ⟨fun pins s σ H R I q => (m σ H R q).elim (fun z => h1.run pins s σ H R I z) fun z => h2.run pins s σ H R I z⟩
theorem di_seq (h : DE X W e fa) : DI X W tg e (fiQ fa) := by
  refine PI.or (di_list h) (di_tup h) fun σ H R q => ?_
  obtain ⟨E, H0, env, S, q⟩ := q
  cases hf : fa env with
  | ok e1 d =>
    have q : Post X.K W (RI X.K) E H0 σ R (lift e1 (itemsD d)) := by simpa only [fiQ, hf] using q
    have key : (∃ ds, itemsD d = some ds ∧ fiL fa env = .ok e1 ds) ∨ (∃ ds, itemsD d = some ds ∧ fiT fa env = .ok e1 ds) ∨ itemsD d = none := by
      cases d with
      | lst ds => exact .inl ⟨ds, rfl, by simp only [fiL, hf]⟩
      | fz ds => exact .inl ⟨ds, rfl, by simp only [fiL, hf]⟩
      | tup ds => exact .inr (.inl ⟨ds, rfl, by simp only [fiT, hf]⟩)
      | _ => exact .inr (.inr rfl)
    rcases key with ⟨ds, h1, h2⟩ | ⟨ds, h1, h2⟩ | h1
    · refine .inl ⟨E, H0, env, S, ?_⟩
      rw [h2]
      rw [h1] at q
      exact q
    · refine .inr ⟨E, H0, env, S, ?_⟩
      rw [h2]
      rw [h1] at q
      exact q
    · rw [h1] at q
      exact (show False from q).elim
  | er e1 C fl d =>
    refine .inl ⟨E, H0, env, S, ?_⟩
    simp only [fiQ, hf] at q
    simp only [fiL, hf]
    exact q
  | no =>
    simp only [fiQ, hf] at q
    exact (show False from q).elim
/-- str of an int or of a text -/
def gStrB (xs : List D) : Option D := (gStr xs).or (match xs with
  | [.str a] => some (.str a)
  | _ => none)
theorem call_strB : CallR X (.type "str") (fun xs H Q => (∃ i : Int, xs = [.int i] ∧ i.natAbs.log2 < 1920 ∧ Q (.str (toString i)) H) ∨ ∃ a, xs = [.str a] ∧ Q (.str a) H) := call_str_int.or SkE.call_str_str
theorem vn_strB : VN K (fun xs H Q => (∃ i : Int, xs = [.int i] ∧ i.natAbs.log2 < 1920 ∧ Q (.str (toString i)) H) ∨ ∃ a, xs = [.str a] ∧ Q (.str a) H) gStrB := by
  refine VN.or vn_str ?_
  intro H0 H xs d vs Q s r e k
  dsimp only at e
  split at e
  · cases e
    obtain ⟨v, rfl, rv⟩ := rpa1 r
    exact ⟨_, by rw [rp_str rv], k _ _ _ .refl (.str _)⟩
  · cases e
/-! ### a, b = x, y -/
@[reducible] def fPar2 (i j : Nat) (fa fb : Ev → Rs D) (env : Ev) : Rs Fl := (fa env).bind fun e x => (fb e).bind fun e y => match put e i (.sh x) with
  | some e1 => (match put e1 j (.sh y) with
    | some e2 => .ok e2 .nx
    | none => .no)
  | none => .no
@[reducible] def fPar2O (i j : Nat) (fa : Ev → Rs D) (fb : Ev → Rs (List D)) (env : Ev) : Rs Fl := (fa env).bind fun e x => (fb e).bind fun e ys => match put e j (.ow (.lst ys)) with
  | some e1 => (match put e1 i (.sh x) with
    | some e2 => .ok e2 .nx
    | none => .no)
  | none => .no
@[reducible] def fPar3 (i j l : Nat) (fa fb fc : Ev → Rs D) (env : Ev) : Rs Fl := (fa env).bind fun e x => (fb e).bind fun e y => (fc e).bind fun e z => match put e i (.sh x) with
  | some e1 => (match put e1 j (.sh y) with
    | some e2 => (match put e2 l (.sh z) with
      | some e3 => .ok e3 .nx
      | none => .no)
    | none => .no)
  | none => .no
theorem ds_par2 {i j : Nat} {x y : Str} {px py pt : Pos} {kt k2 pt2} (B : Bd X W k) (ha : DE X W a fa) (hb : DE X W b fb) (hi : X.N[i]? = some x := by rfl) (hj : X.N[j]? = some y := by rfl) (hij : i ≠ j := by decide)
    (hx : X.env.scope.names.lookup x = some .local := by rfl) (hy : X.env.scope.names.lookup y = some .local := by rfl) (hse : starEach [a, b] X.env = (false, eval a X.env) :: starEach [b] X.env := by rfl) (hse2 : starEach [b] X.env = (false, eval b X.env) :: starEach [] X.env := by rfl)
    (hw : swappedStores [.Tuple [.Name x px, .Name y py] kt pt] (.Tuple [a, b] k2 pt2) X.env = pure (some [x, y]) := by rfl)
    (hs : swapsWithSole [.Tuple [.Name x px, .Name y py] kt pt] (.Tuple [a, b] k2 pt2) pos.line X.env = pure false := by rfl) : DS X W (.Assign [.Tuple [.Name x px, .Name y py] kt pt] (.Tuple [a, b] k2 pt2) pos) (fPar2 i j fa fb) := by
  refine ps_mono (ps_par (i := i) (j := j) B.hc B.nd hi hj hij hx hy (pa_cons ha (pa_cons hb pa_nil hse2) hse) hw hs) fun N σ H q => ?_
  obtain ⟨E, H0, env, S, q⟩ := q
  refine WP.bindS S q fun e1 d v H1 H' S1 s1 r1 q1 => WP.bindS S1 q1 fun e2 d2 u H2 H'' S2 s2 r2 q2 => ⟨v, u, rfl, ?_⟩
  cases h1 : put e2 i (.sh d) with
  | none => rw [h1] at q2; exact (show False from q2).elim
  | some e3 =>
    rw [h1] at q2
    dsimp only at q2
    cases h2 : put e3 j (.sh d2) with
    | none => rw [h2] at q2; exact (show False from q2).elim
    | some e4 =>
      rw [h2] at q2
      obtain ⟨f1, rfl⟩ := put_some h1
      obtain ⟨f2, rfl⟩ := put_some h2
      exact q2 _ H2 H'' (Same.refl _) ((S2.putSh f1 (r1.mono s2)).putSh f2 r2)
theorem ds_par2O {i j : Nat} {x y : Str} {px py pt : Pos} {kt k2 pt2} {fl : Ev → Rs (List D)} (B : Bd X W k) (ha : DE X W a fa) (hb : DF X W b fl) (hi : X.N[i]? = some x := by rfl) (hj : X.N[j]? = some y := by rfl) (hij : i ≠ j := by decide)
    (hx : X.env.scope.names.lookup x = some .local := by rfl) (hy : X.env.scope.names.lookup y = some .local := by rfl) (hse : starEach [a, b] X.env = (false, eval a X.env) :: starEach [b] X.env := by rfl) (hse2 : starEach [b] X.env = (false, eval b X.env) :: starEach [] X.env := by rfl)
    (hw : swappedStores [.Tuple [.Name x px, .Name y py] kt pt] (.Tuple [a, b] k2 pt2) X.env = pure (some [x, y]) := by rfl)
    (hs : swapsWithSole [.Tuple [.Name x px, .Name y py] kt pt] (.Tuple [a, b] k2 pt2) pos.line X.env = pure false := by rfl) : DS X W (.Assign [.Tuple [.Name x px, .Name y py] kt pt] (.Tuple [a, b] k2 pt2) pos) (fPar2O i j fa fl) := by
  refine ps_mono (ps_par (i := i) (j := j) B.hc B.nd hi hj hij hx hy (pa_cons ha (pa_cons hb pa_nil hse2) hse) hw hs) fun N σ H q => ?_
  obtain ⟨E, H0, env, S, q⟩ := q
  refine WP.bindS S q fun e1 d v H1 H' S1 s1 r1 q1 => WP.bindS S1 q1 fun e2 d2 u H2 H'' S2 s2 r2 q2 => ⟨v, u, rfl, ?_⟩
  cases h1 : put e2 j (.ow (.lst d2)) with
  | none => rw [h1] at q2; exact (show False from q2).elim
  | some e3 =>
    rw [h1] at q2
    dsimp only at q2
    cases h2 : put e3 i (.sh d) with
    | none => rw [h2] at q2; exact (show False from q2).elim
    | some e4 =>
      rw [h2] at q2
      obtain ⟨f1, rfl⟩ := put_some h1
      obtain ⟨f2, rfl⟩ := put_some h2
      have S3 := (S2.putOw f1 r2).putSh f2 (r1.mono s2)
      rw [List.set_comm _ _ (Ne.symm hij)] at S3
      exact q2 _ H2 H'' (Same.refl _) S3
theorem ds_par3 {i j l : Nat} {x y z : Str} {px py pz pt : Pos} {kt k2 pt2} (B : Bd X W k) (ha : DE X W a fa) (hb : DE X W b fb) (hc : DE X W c fc) (hi : X.N[i]? = some x := by rfl) (hj : X.N[j]? = some y := by rfl) (hl : X.N[l]? = some z := by rfl) (hij : i ≠ j := by decide) (hil : i ≠ l := by decide) (hjl : j ≠ l := by decide)
    (hx : X.env.scope.names.lookup x = some .local := by rfl) (hy : X.env.scope.names.lookup y = some .local := by rfl) (hz : X.env.scope.names.lookup z = some .local := by rfl) (hse : starEach [a, b, c] X.env = (false, eval a X.env) :: starEach [b, c] X.env := by rfl) (hse2 : starEach [b, c] X.env = (false, eval b X.env) :: starEach [c] X.env := by rfl) (hse3 : starEach [c] X.env = (false, eval c X.env) :: starEach [] X.env := by rfl)
    (hw : swappedStores [.Tuple [.Name x px, .Name y py, .Name z pz] kt pt] (.Tuple [a, b, c] k2 pt2) X.env = pure (some [x, y, z]) := by rfl)
    (hs : swapsWithSole [.Tuple [.Name x px, .Name y py, .Name z pz] kt pt] (.Tuple [a, b, c] k2 pt2) pos.line X.env = pure false := by rfl) : DS X W (.Assign [.Tuple [.Name x px, .Name y py, .Name z pz] kt pt] (.Tuple [a, b, c] k2 pt2) pos) (fPar3 i j l fa fb fc) := by
  refine ps_mono (ps_par3 (i := i) (j := j) (l := l) B.hc B.nd hi hj hl hij hil hjl hx hy hz (pa_cons ha (pa_cons hb (pa_cons hc pa_nil hse3) hse2) hse) hw hs) fun N σ H q => ?_
  obtain ⟨E, H0, env, S, q⟩ := q
  refine WP.bindS S q fun e1 d v H1 H' S1 s1 r1 q1 => WP.bindS S1 q1 fun e2 d2 u H2 H'' S2 s2 r2 q2 => WP.bindS S2 q2 fun e3 d3 t H3 H4 S3 s3 r3 q3 => ⟨v, u, t, rfl, ?_⟩
  cases h1 : put e3 i (.sh d) with
  | none => rw [h1] at q3; exact (show False from q3).elim
  | some e4 =>
    rw [h1] at q3
    dsimp only at q3
    cases h2 : put e4 j (.sh d2) with
    | none => rw [h2] at q3; exact (show False from q3).elim
    | some e5 =>
      rw [h2] at q3
      dsimp only at q3
      cases h3 : put e5 l (.sh d3) with
      | none => rw [h3] at q3; exact (show False from q3).elim
      | some e6 =>
        rw [h3] at q3
        obtain ⟨f1, rfl⟩ := put_some h1
        obtain ⟨f2, rfl⟩ := put_some h2
        obtain ⟨f3, rfl⟩ := put_some h3
        exact q3 _ H3 H4 (Same.refl _) (((S3.putSh f1 ((r1.mono s2).mono s3)).putSh f2 (r2.mono s3)).putSh f3 r3)
end
end DL

end

section
set_option Elab.async false
set_option linter.all false
set_option maxRecDepth 100000
set_option maxHeartbeats 2000000
/-! DH: the head's facts by a look of one's own; the law's call. -/
namespace DL
open PySem L2
def obsM (chk : Frag → Bool) (fn : List He.DefD) (K : Frag) : He.AlD := (chk K && fn.all fun d => d.ok K, fn.map fun d => He.fnW K d.at_)
def SaysM (chk : Frag → Bool) (fn : List He.DefD) (K : Frag) : Prop := obsM chk fn K = He.valD fn
def obsMG (n : Nat) (chk : Frag → Bool) (fn : List He.DefD) (g : Addr → Option Obj) : He.AlD := obsM chk fn (He.frG g (He.asD g n))
def hookM (n : Nat) (chk : Frag → Bool) (fn : List He.DefD) : PySem.W.Hook where
  α := He.AlD
  obs := fun s => obsMG n chk fn s.heap.get?
  val := fun _ => He.valD fn
  says := fun _ h => ∃ K : Frag, K.In h ∧ SaysM chk fn K
  of := fun _ _ e => ⟨_, He.frG_in, e⟩
  keeps := fun _ _ _ ⟨K, hK, c⟩ k => ⟨K, PySem.W.Frag.In.keeps hK k, c⟩
theorem obsMG_eq {n : Nat} {chk : Frag → Bool} {fn : List He.DefD} {g : Addr → Option Obj} {s : Shared} (h : ∀ a, g a = s.heap.get? a) : obsMG n chk fn g = (hookM n chk fn).obs s := by
  have e : g = s.heap.get? := funext h
  rw [e] <;> rfl
section
variable {ck : Frag → Bool} {fn : List He.DefD} {K : Frag}
theorem SaysM.chk (c : SaysM ck fn K) : ck K = true := (He.ba (show (ck K && fn.all fun d => d.ok K) = true from congrArg (fun z : He.AlD => z.1) c)).1
theorem SaysM.def_ (c : SaysM ck fn K) (i : Nat) {d : He.DefD} (h : fn[i]? = some d := by rfl) : ∃ fd, FunD K d.name d.qual d.params d.body d.scope (d.dvs K) (d.kws K) (He.fAd K d.at_) fd := by
  have c2 := (He.ba (show (ck K && fn.all fun d => d.ok K) = true from congrArg (fun z : He.AlD => z.1) c)).2
  have e : fn.map (fun d => He.fnW K d.at_) = fn.map He.DefD.val := congrArg (fun z : He.AlD => z.2) c
  have e2 : (fn.map fun d => He.fnW K d.at_)[i]? = (fn.map He.DefD.val)[i]? := by rw [e]
  rw [List.getElem?_map, List.getElem?_map, h] at e2
  exact He.DefD.funD (Option.some.inj e2) (List.all_eq_true.mp c2 d (List.mem_of_getElem? h))
end
/-- a tuple's items as they are written -/
def dvD : He.Dv → D
  | .non => .non
  | .bl b => .bl b
  | .int i => .int i
  | .str x => .str x
  | .ty n => .ty n
  | _ => .non
def dvF : He.Dv → Bool
  | .non => true
  | .bl _ => true
  | .int _ => true
  | .str _ => true
  | .ty _ => true
  | _ => false
theorem dv_rp {K : Frag} {H : Hp} : ∀ (vs : List He.Dv), vs.all dvF = true → RpA K H (vs.map dvD) (vs.map (He.Dv.v K))
  | [], _ => .nil
  | d :: r, h => by
    simp only [List.all_cons, Bool.and_eq_true] at h
    refine .cons ?_ (dv_rp r h.2)
    cases d <;> first | exact .non | exact .bl _ | exact .int _ | exact .str _ | exact .ty _ | exact absurd h.1 Bool.false_ne_true
def tupM (K : Frag) (x : Str) (vs : List He.Dv) : Bool := (He.Fa.glo x).ok K && (He.tupB K x vs && vs.all dvF)
theorem tupM_ok {K : Frag} {h : Heap} {mg : Str → Option Value} {x : Str} {vs : List He.Dv} (X : K.In h) (G : h.Ns mainGlobals mg) (c : tupM K x vs = true) : GlT K mg x (vs.map dvD) := by
  obtain ⟨c1, c2⟩ := He.ba c
  obtain ⟨c2, c3⟩ := He.ba c2
  exact ⟨_, _, He.glo_ok X G c1, fun H => He.tupB_ok c2 H, fun H => dv_rp vs c3⟩
/-- the law's call -/
theorem walkM {l : PySem.W.OpenLaw} {n k : Nat} {q : Program} {loose : List Str} {XP : (Str → Option Value) → Heap → Prop} {YP : World → Heap → Prop} {d : DefRec} {x : Str}
    (hn : l.most = some n) (hn2 : n ≤ sizeLine) (hdf : d.params.defaults = []) (hr : Room k callerA)
    (F : ∀ (w : World) (mg : Str → Option Value) (fa : Addr) (h : Heap), YP w h → h.Ns mainGlobals mg → mg d.name = some (.ref fa) →
      ∃ (K : Frag) (fd : FuncData) (g : List Sl → Rs Dr), K.In h ∧ (∀ (s : Shared) (u : Value), BindsTo s fd ⟨[u], []⟩ [(x, u)]) ∧
        (∀ ns : List Int, ns.length ≤ n → ∃ e, g [.sh (.fz (ns.map .int))] = .ok e (.sh (.bl true))) ∧
        ∀ base : Heap, K.In base → base.Ns mainGlobals mg → FnOk l.prog w K mg base (L2.CX l.prog w) k fa fd [x] (spD K 1 g)) :
    PySem.W.WalkO q loose XP YP l.row.toRowW d [] (fun f vs => PySem.call f vs) := by
  refine Att.attach_call hn hdf fun w s₀ s₁ mg mb fa o pm cd doc a vs ns G Y ho hd hcd hmg hobj hints hlen hg => ?_
  obtain ⟨K, fd, g, KX, hb, hsp, hF⟩ := F w mg fa _ Y G.T.g hmg
  refine law_call KX G.T.g G.T.b G.T.builtins G.T.nolimit hg hobj hints (Nat.le_trans hlen hn2) hr hF hb (fun H hO hS => ?_) fun H e s' c => ?_
  · obtain ⟨e, eg⟩ := hsp ns hlen
    refine ⟨rfl, H, [.sh (.fz (ns.map .int))], Same.refl _, shArgs (ds := [.fz (ns.map .int)]) (.cons (.fz hS (ints_rp ns)) .nil), ?_⟩
    rw [eg]
    intro v H1 H' A r
    exact rp_bl r
  · obtain ⟨_, _, _, _, _, _, _, _, _, _, _, _, z⟩ := c
    exact z.elim
where
  ints_rp {K : Frag} {H : Hp} : ∀ ns : List Int, RpA K H (ns.map .int) (ns.map V.int)
    | [] => .nil
    | n :: r => .cons (.int n) (ints_rp r)
end DL

end

section
set_option Elab.async false
set_option linter.all false
set_option maxRecDepth 100000
set_option maxHeartbeats 2000000
/-! DM: plain lemmas about loops, data, texts. -/
namespace DL
open PySem L2
/-- a loop whose turns all come through -/
theorem loopF_ind {g : D → Ev → Option Ev} {fb : Ev → Rs Fl} {I : Nat → Ev → Prop} : ∀ (ds : List D) (k : Nat) (env : Ev), I k env →
    (∀ (j : Nat) (d : D) (e : Ev), ds[j]? = some d → I (k + j) e → ∃ e1 e2, g d e = some e1 ∧ (fb e1 = .ok e2 .nx ∨ fb e1 = .ok e2 .ct) ∧ I (k + j + 1) e2) → ∃ e', loopF g fb ds env = .ok e' .nx ∧ I (k + ds.length) e'
  | [], k, env, h, _ => ⟨env, rfl, h⟩
  | d :: r, k, env, h, st => by
    obtain ⟨e1, e2, h1, h2, h3⟩ := st 0 d env rfl h
    obtain ⟨e', h4, h5⟩ := loopF_ind (I := I) r (k + 1) e2 h3 fun j d e q i => by
      have := st (j + 1) d e (by simpa using q) (by rw [show k + (j + 1) = k + 1 + j by omega]; exact i)
      rw [show k + (j + 1) + 1 = k + 1 + j + 1 by omega] at this
      exact this
    refine ⟨e', ?_, by rw [List.length_cons, show k + (r.length + 1) = k + 1 + r.length by omega]; exact h5⟩
    unfold loopF
    rw [h1]
    rcases h2 with h2 | h2 <;> simp only [h2, h4]
/-- a comprehension that leaves the slots as they are -/
theorem loopC_pure {vs : List Nat} {g : D → Ev → Option Ev} {ft : Ev → Rs Bool} {fe : Ev → Rs D} {e : Ev} {p : D → Bool} {F : D → D} : ∀ (ds acc : List D), acc.length + ds.length ≤ 1000 →
    (∀ d ∈ ds, ∃ e1 e2, g d e = some e1 ∧ ft e1 = .ok e2 (p d) ∧ (p d = true → ∃ e3, fe e2 = .ok e3 (F d) ∧ wipeE e3 vs = e) ∧ (p d = false → wipeE e2 vs = e)) → loopC vs g ft fe ds acc e = some (e, acc ++ (ds.filter p).map F)
  | [], acc, _, _ => by simp [loopC]
  | d :: r, acc, hl, h => by
    obtain ⟨e1, e2, h1, h2, h3, h4⟩ := h d List.mem_cons_self
    have hs : small acc.length = true := Nat.ble_eq_true_of_le (by simp at hl; omega)
    unfold loopC
    cases hp : p d with
    | true =>
      obtain ⟨e3, h5, h6⟩ := h3 hp
      have : stepC vs g ft fe d acc e = some (e, acc ++ [F d]) := by
        unfold stepC
        simp only [h1, h2, hp, h5, if_pos hs, h6]
      rw [this]
      dsimp only
      rw [loopC_pure r (acc ++ [F d]) (by simp at hl ⊢; omega) fun x hx => h x (List.mem_cons_of_mem _ hx)]
      simp [List.filter_cons, hp]
    | false =>
      have : stepC vs g ft fe d acc e = some (e, acc) := by
        unfold stepC
        simp only [h1, h2, hp, h4 hp]
      rw [this]
      dsimp only
      rw [loopC_pure r acc (by simp at hl ⊢; omega) fun x hx => h x (List.mem_cons_of_mem _ hx)]
      simp [List.filter_cons, hp]
/-! ### data that can be compared -/
def okP (n : Nat) (d : D) (p : PyData) : Prop := toPy d = some p ∧ p.canLay0 = true ∧ p.depth ≤ n
theorem okPA {n : Nat} : ∀ {ds : List D}, (∀ d ∈ ds, ∃ p, okP n d p) → ∃ ps, toPyA ds = some ps ∧ PyData.canLayAll0 ps = true ∧ PyData.depthAll ps ≤ n ∧ ∀ p ∈ ps, ∃ d ∈ ds, toPy d = some p
  | [], _ => ⟨[], by simp [toPyA], by simp [PyData.canLayAll0], by simp [PyData.depthAll], by simp⟩
  | d :: r, h => by
    obtain ⟨p, h1, h2, h3⟩ := h d List.mem_cons_self
    obtain ⟨ps, h4, h5, h6, h7⟩ := okPA (ds := r) fun x hx => h x (List.mem_cons_of_mem _ hx)
    refine ⟨p :: ps, by simp [toPyA, h1, h4], by simp [PyData.canLayAll0, h2, h5], by simp [PyData.depthAll]; omega, fun q hq => ?_⟩
    rcases List.mem_cons.mp hq with rfl | hq
    · exact ⟨d, List.mem_cons_self, h1⟩
    · obtain ⟨x, hx, e⟩ := h7 q hq
      exact ⟨x, List.mem_cons_of_mem _ hx, e⟩
theorem okP.lst {n : Nat} {ds : List D} (h : ∀ d ∈ ds, ∃ p, okP n d p) : ∃ ps, okP (n + 1) (.lst ds) (.list ps) ∧ toPyA ds = some ps ∧ ∀ p ∈ ps, ∃ d ∈ ds, toPy d = some p := by
  obtain ⟨ps, h1, h2, h3, h4⟩ := okPA h
  exact ⟨ps, ⟨by simp [toPy, h1], by simp [PyData.canLay0, h2], by simp [PyData.depth]; omega⟩, h1, h4⟩
theorem okP.tup {n : Nat} {ds : List D} (h : ∀ d ∈ ds, ∃ p, okP n d p) : ∃ ps, okP (n + 1) (.tup ds) (.tuple ps) ∧ toPyA ds = some ps := by
  obtain ⟨ps, h1, h2, h3, h4⟩ := okPA h
  exact ⟨ps, ⟨by simp [toPy, h1], by simp [PyData.canLay0, h2], by simp [PyData.depth]; omega⟩, h1⟩
theorem okP.shaped {n : Nat} {d : D} {p : PyData} (h : okP n d p) (hn : n ≤ 64) : SeqAt.shaped p = true := by
  unfold SeqAt.shaped
  simp [h.2.1]
  have := h.2.2
  omega
theorem okP.mono {n m : Nat} {d : D} {p : PyData} (h : okP n d p) (hn : n ≤ m) : okP m d p := ⟨h.1, h.2.1, by have := h.2.2; omega⟩
theorem eqD_of {x y : D} {n m : Nat} {p q : PyData} (hx : okP n x p) (hy : okP m y q) (hn : n ≤ 64) (hm : m ≤ 64) (ns : ∀ s, x ≠ .str s) : eqD x y = some (PyData.eqv p q) := by
  unfold eqD
  split
  · exact absurd rfl (ns _)
  · rw [hx.1, hy.1]
    simp [hx.shaped hn, hy.shaped hm]
theorem eqD_same {x : D} {n : Nat} {p : PyData} (hx : okP n x p) (hn : n ≤ 64) : eqD x x = some true := by
  cases x with
  | str s => simp [eqD]
  | _ => rw [eqD_of hx hx hn hn (by intro s; simp), SeqAt.eqv_refl _ hx.2.1]
/-! ### one behind another -/
section
variable {f g : Ev → Rs Fl} {fa fb : Ev → Rs D} {fc : Ev → Rs Bool} {fl : Ev → Rs (List D)} {env e : Ev} {d : D} {r : Dr} {b : Bool} {ds : List D} {i : Nat}
theorem seq_nx (h : f env = .ok e .nx) : fSeq f g env = g e := by simp only [fSeq, h]
theorem seq_rt (h : f env = .ok e (.rt r)) : fSeq f g env = .ok e (.rt r) := by simp only [fSeq, h]
theorem set_ok (h : fa env = .ok e d) (hf : free e[i]? = true) : fSet i fa env = .ok (e.set i (.sh d)) .nx := by simp only [fSet, Rs.bind, h, put, if_pos hf]
theorem setO_ok (h : fl env = .ok e ds) (hf : free e[i]? = true) : fSetO i fl env = .ok (e.set i (.ow (.lst ds))) .nx := by simp only [fSetO, Rs.bind, h, put, if_pos hf]
theorem for_ok {fi : Ev → Rs (List D)} {gt : D → Ev → Option Ev} (h : fi env = .ok e ds) : fFor fi gt f env = loopF gt f ds e := by simp only [fFor, h]
theorem ifS_t (h : fc env = .ok e true) : fIfS fc f g env = f e := by simp only [fIfS, Rs.bind, h, if_true]
theorem ifS_f (h : fc env = .ok e false) : fIfS fc f g env = g e := by simp only [fIfS, Rs.bind, h, Bool.false_eq_true, if_false]
theorem if_t (h : fc env = .ok e true) : fIf fc fa fb env = fa e := by simp only [fIf, Rs.bind, h, if_true]
theorem if_f (h : fc env = .ok e false) : fIf fc fa fb env = fb e := by simp only [fIf, Rs.bind, h, Bool.false_eq_true, if_false]
theorem ret_ok (h : fa env = .ok e d) : fRet fa env = .ok e (.rt (.sh d)) := by simp only [fRet, h]
theorem cons_ok {xs : List D} {e2 : Ev} (h : fa env = .ok e d) (h2 : fl e = .ok e2 xs) : fCons fa fl env = .ok e2 (d :: xs) := by simp only [fCons, Rs.bind, h, h2]
theorem sh_ok (h : fl env = .ok e ds) : fSh fl env = .ok e (.lst ds) := by simp only [fSh, h]
theorem gOf_rt {m : Nat} {as : List Sl} (h : f (as ++ List.replicate (m - as.length) .un) = .ok e (.rt r)) : gOf m f as = .ok e r := by unfold gOf; rw [h]
theorem lc_ok {vs : List Nat} {fi : Ev → Rs (List D)} {gt : D → Ev → Option Ev} {ft : Ev → Rs Bool} {fe : Ev → Rs D} {e' : Ev} {acc : List D} (h : fi env = .ok e ds) (hp : (vs.all fun v => plainSl e[v]?) = true) (hl : loopC vs gt ft fe ds [] (wipeE e vs) = some (e', acc)) : fLc vs fi gt ft fe env = .ok (backE e e' vs) acc := by
  simp only [fLc, h, if_pos hp, hl]
end
/-- what is handed back -/
def shv : Rs Dr → Option D
  | .ok _ (.sh d) => some d
  | _ => none
theorem shv_ok {r : Rs Dr} {d : D} (h : shv r = some d) : ∃ e, r = .ok e (.sh d) := by
  unfold shv at h
  split at h
  · cases h; exact ⟨_, rfl⟩
  · cases h
def okB (n : Nat) (d : D) : Bool := match toPy d with
  | some p => p.canLay0 && decide (p.depth ≤ n)
  | none => false
theorem okB_ok {n : Nat} {d : D} (h : okB n d = true) : ∃ p, okP n d p := by
  unfold okB at h
  split at h
  · rename_i p e
    obtain ⟨h1, h2⟩ := Bool.and_eq_true_iff.mp h
    exact ⟨p, e, h1, of_decide_eq_true h2⟩
  · cases h
end DL

end

section
set_option Elab.async false
set_option linter.all false
set_option maxRecDepth 100000
set_option maxHeartbeats 2000000
/-! DN: calls, read as plain facts. -/
namespace DL
open PySem L2
section
variable {g : List Sl → Rs Dr} {dv ds : List D} {fa : Ev → Rs (List D)} {fd : Ev → Rs D} {f : Ev → Rs Dr} {env e e' : Ev} {o0 o o' : Ob} {i n : Nat} {r : Dr} {d : D} {ft ft2 : Ev → Rs Bool} {b : Bool}
theorem callR_ok (ho0 : ob? env[i]? = some o0) (ha : fa env = .ok e ds) (hn : Nat.beq ((ds ++ dv).length + 1) n = true) (ho : ob? e[i]? = some o) (hg : g (.rf o :: (ds ++ dv).map .sh) = .ok (.rf o' :: e') r) : fCallR i n g dv fa env = .ok (putOb e i o') r := by
  have h0 : (ob? env[i]?).isSome = true := by rw [ho0]; rfl
  simp only [fCallR, h0, if_true, ha, Rs.bind, hn, ho, hg, backR, List.getElem?_cons_zero]
theorem call_ok (ha : fa env = .ok e ds) (hn : Nat.beq (ds ++ dv).length n = true) (hg : g ((ds ++ dv).map .sh) = .ok e' r) : fCall n g dv fa env = .ok e r := by
  simp only [fCall, ha, Rs.bind, hn, if_true, hg, back]
theorem shR_sh (h : f env = .ok e (.sh d)) : fShR f env = .ok e d := by simp only [fShR, h, Rs.bind]
theorem shR_fr (h : f env = .ok e (.fr ds)) : fShR f env = .ok e (.lst ds) := by simp only [fShR, h, Rs.bind]
theorem frR_fr (h : f env = .ok e (.fr ds)) : fFrR f env = .ok e ds := by simp only [fFrR, h, Rs.bind]
theorem app_ok {xs : List D} (ho0 : ob? env[i]? = some o0) (hl : isL (some o0) = true) (ha : fa env = .ok e [d]) (ho : ob? e[i]? = some (.lst xs)) (hz : xs.length ≤ 1000) : fExp (fOM i gApp fa) env = .ok (putOb e i (.lst (xs ++ [d]))) .nx := by
  have hz' : szL xs.length = true := Nat.ble_eq_true_of_le hz
  simp only [fExp, fOM, ho0, hl, if_true, ha, Rs.bind, ho, gApp, hz']
theorem or_ff (h : ft env = .ok e false) (h2 : ft2 e = .ok e' b) : fOr ft ft2 env = .ok e' b := by
  simp only [fOr, h, Rs.bind, Bool.false_eq_true, if_false, h2]
theorem borT_ok (h : ft (env.map shSl) = .ok e b) : fBorT ft env = .ok env b := by simp only [fBorT, h]
theorem var_ok (h : env[i]? = some (.sh d)) : fVar i env = .ok env d := by simp only [fVar, h]
theorem test_ok (h : fd env = .ok e (.bl b)) : fTest fd env = .ok e b := by simp only [fTest, h, Rs.bind]
theorem two_ok {fb : Ev → Rs D} {g2 : D → D → Option D} {x y z : D} (h : fd env = .ok e x) (h2 : fb e = .ok e' y) (h3 : g2 x y = some z) : f2 g2 fd fb env = .ok e' z := by simp only [f2, h, h2, h3, Rs.bind, lift]
theorem N_ok {gn : List D → Option D} (h : fa env = .ok e ds) (h3 : gn ds = some d) : fN gn fa env = .ok e d := by simp only [fN, h, h3, Rs.bind, lift]
end
/-- a comprehension over named items, the slots left as they are -/
theorem loopC_map {α : Type} {vs : List Nat} {g : D → Ev → Option Ev} {fe : Ev → Rs D} {e : Ev} {inp out : α → D} : ∀ (xs : List α) (acc : List D), acc.length + xs.length ≤ 1000 →
    (∀ x ∈ xs, ∃ e1 e3, g (inp x) e = some e1 ∧ fe e1 = .ok e3 (out x) ∧ wipeE e3 vs = e) → loopC vs g fYes fe (xs.map inp) acc e = some (e, acc ++ xs.map out)
  | [], acc, _, _ => by simp [loopC]
  | x :: r, acc, hl, h => by
    obtain ⟨e1, e3, h1, h2, h3⟩ := h x List.mem_cons_self
    have hs : small acc.length = true := Nat.ble_eq_true_of_le (by simp at hl; omega)
    have st : stepC vs g fYes fe (inp x) acc e = some (e, acc ++ [out x]) := by
      unfold stepC
      simp only [h1, fYes, h2, if_pos hs, h3]
    rw [List.map_cons]
    unfold loopC
    rw [st]
    dsimp only
    rw [loopC_map r (acc ++ [out x]) (by simp at hl ⊢; omega) fun y hy => h y (List.mem_cons_of_mem _ hy)]
    simp
theorem strsD_map : ∀ (ts : List Str), strsD (ts.map .str) = some ts
  | [] => rfl
  | t :: r => by simp [strsD, strsD_map r]
theorem dJoin_ok {sep : Str} {ts : List Str} (hs : sep.length ≤ 10) (hc : ts.length ≤ 1000) (hl : ∀ t ∈ ts, t.length ≤ 80) : dJoin (.str sep) (.lst (ts.map .str)) = some (.str (PySem.Txt.join sep ts)) := by
  have h1 : ∀ (l : List Str), (∀ t ∈ l, t.length ≤ 80) → (l.map (·.length)).sum ≤ 80 * l.length := by
    intro l
    induction l with
    | nil => intro _; simp
    | cons a r ih => intro h; have := ih fun t ht => h t (List.mem_cons_of_mem _ ht); have := h a List.mem_cons_self; simp; omega
  have h2 := h1 ts hl
  have h3 : ts.length * sep.length ≤ ts.length * 10 := Nat.mul_le_mul_left _ hs
  have : Nat.ble ((ts.map (·.length)).sum + ts.length * sep.length) 100000 = true := Nat.ble_eq_true_of_le (by omega)
  simp only [dJoin, itemsD, strsD_map, this, if_true]
theorem rg1_ok {fa : Ev → Rs (List D)} {env e : Ev} {n : Int} (h : fa env = .ok e [.int n]) (hn : okR n = true) : fiR1 fa env = .ok e (rangeD 0 n.toNat) := by
  simp only [fiR1, h, Rs.bind, hn, if_true]
theorem okR_small {n : Int} (h0 : 0 ≤ n) (h : n ≤ 1000000) : okR n = true := by
  unfold okR
  rw [decide_eq_true_iff]
  constructor <;> omega
end DL

end

section
set_option Elab.async false
set_option linter.all false
set_option maxRecDepth 100000
set_option maxHeartbeats 2000000
/-! DTx: texts split and cut. -/
namespace DL
open PySem L2 TL
theorem split_app {y : Str} {s : Nat} {S : List Nat} (ey : tl y = s :: S) (hk : y.cps.all (· < 256) = true) {a b : Str} (h : s ∉ tl a) : Txt.split (a ++ y ++ b) y = a :: Txt.split b y := by
  refine map_tl_inj ?_
  rw [split_spl _ y (by rw [ey]; simp) (kind_ok hk), List.map_cons, split_spl _ y (by rw [ey]; simp) (kind_ok hk), tl_append, tl_append, List.append_assoc, ey, spl_part1 h, List.nil_append]
theorem split_none {y : Str} {s : Nat} {S : List Nat} (ey : tl y = s :: S) (hk : y.cps.all (· < 256) = true) {a : Str} (h : s ∉ tl a) : Txt.split a y = [a] := by
  refine map_tl_inj ?_
  rw [split_spl _ y (by rw [ey]; simp) (kind_ok hk), ey, spl_last1 h, List.nil_append, List.map_cons, List.map_nil]
/-- a text at its first s -/
theorem first_of (s : Nat) : ∀ l : List Nat, s ∉ l ∨ ∃ a b, l = a ++ s :: b ∧ s ∉ a
  | [] => .inl (by simp)
  | c :: r => by
    by_cases h : c = s
    · exact .inr ⟨[], r, by rw [h]; rfl, by simp⟩
    · rcases first_of s r with q | ⟨a, b, e, q⟩
      · exact .inl (by simp [q, Ne.symm h])
      · exact .inr ⟨c :: a, b, by rw [e]; rfl, by simp [q, Ne.symm h]⟩
theorem text_first (s : Nat) (x : Str) : s ∉ tl x ∨ ∃ a b : Str, x = a ++ (⟨#[s]⟩ : Str) ++ b ∧ s ∉ tl a := by
  rcases first_of s (tl x) with h | ⟨a, b, e, h⟩
  · exact .inl h
  · refine .inr ⟨⟨a.toArray⟩, ⟨b.toArray⟩, ext_tl ?_, h⟩
    rw [e, tl_append, tl_append]
    simp [tl]
def sumL (ls : List (List Nat)) : Nat := (ls.map List.length).sum
theorem spl_sum (S : List Nat) : ∀ (l : List Nat) (k : Nat) (acc : List Nat), sumL (spl S k acc l) ≤ acc.length + l.length ∧ (spl S k acc l).length ≤ l.length + 1
  | [], k, acc => by rw [spl_nil]; simp [sumL]
  | c :: r, 0, acc => by
    cases h : pre S (c :: r) with
    | true =>
      rw [spl_hit h]
      have := spl_sum S r (S.length - 1) []
      simp [sumL] at this ⊢
      omega
    | false =>
      rw [spl_miss h]
      have := spl_sum S r 0 (acc ++ [c])
      simp [sumL] at this ⊢
      omega
  | c :: r, k + 1, acc => by
    have := spl_sum S r k acc
    show sumL (spl S k acc r) ≤ _ ∧ (spl S k acc r).length ≤ _
    simp [sumL] at this ⊢
    omega
theorem split_sum {x y : Str} (hy : tl y ≠ []) (hk : y.cps.all (· < 256) = true) : ((Txt.split x y).map (·.length)).sum ≤ x.length ∧ (Txt.split x y).length ≤ x.length + 1 := by
  have h := spl_sum (tl y) (tl x) 0 []
  rw [← split_spl x y hy (kind_ok hk)] at h
  have e : (Txt.split x y).map (·.length) = ((Txt.split x y).map tl).map List.length := by
    rw [List.map_map]
    exact List.map_congr_left fun z _ => len_tl z
  rw [e, len_tl x]
  simp [sumL] at h ⊢
  exact h
end DL

end

section
set_option Elab.async false
set_option linter.all false
set_option maxRecDepth 100000
set_option maxHeartbeats 2000000
/-! DTy: texts that stay small and plain. -/
namespace DL
open PySem L2 TL
def Tok (n : Nat) (t : Str) : Prop := t.length ≤ n ∧ ∀ c ∈ tl t, c < 1114112
theorem Tok.mono {n m : Nat} {t : Str} (h : Tok n t) (hn : n ≤ m) : Tok m t := ⟨Nat.le_trans h.1 hn, h.2⟩
theorem Tok.app {n m : Nat} {a b : Str} (h : Tok n a) (k : Tok m b) : Tok (n + m) (a ++ b) := by
  refine ⟨?_, fun c hc => ?_⟩
  · rw [len_tl, tl_append, List.length_append, ← len_tl, ← len_tl]
    have := h.1
    have := k.1
    omega
  · rw [tl_append] at hc
    rcases List.mem_append.mp hc with q | q
    · exact h.2 c q
    · exact k.2 c q
theorem Tok.cut {n : Nat} {a : Str} (h : Tok n a) (l u : Option Int) : Tok n (cutS a l u) := by
  have e : tl (cutS a l u) = ((tl a).drop (HT.sIx a.length 0 l)).take (HT.sIx a.length a.length u - HT.sIx a.length 0 l) := rfl
  refine ⟨?_, fun c hc => ?_⟩
  · rw [len_tl, e, List.length_take, List.length_drop, ← len_tl]
    have := h.1
    omega
  · rw [e] at hc
    exact h.2 c (List.mem_of_mem_drop (List.mem_of_mem_take hc))
theorem Tok.ok {n : Nat} {t : Str} (h : Tok n t) : PyData.strOk t = true := by
  unfold PyData.strOk
  rw [Array.all_eq_true']
  intro c hc
  exact decide_eq_true (h.2 c (by simpa [tl] using hc))
theorem Tok.okP {n : Nat} {t : Str} (h : Tok n t) : okP 1 (.str t) (.str t) := ⟨rfl, by simp [PyData.canLay0, h.ok], by simp [PyData.depth]⟩
theorem Tok.sz {n : Nat} {t : Str} (h : Tok n t) (hn : n ≤ 100000) : szS t = true := Nat.ble_eq_true_of_le (Nat.le_trans h.1 hn)
theorem spl_mem (S : List Nat) {p : Nat → Prop} : ∀ (l : List Nat) (k : Nat) (acc : List Nat), (∀ c ∈ acc, p c) → (∀ c ∈ l, p c) → ∀ q ∈ spl S k acc l, ∀ c ∈ q, p c
  | [], k, acc, h, _ => by rw [spl_nil]; intro q hq; cases List.mem_singleton.mp hq; exact h
  | c :: r, 0, acc, h, hl => by
    cases e : pre S (c :: r) with
    | true =>
      rw [spl_hit e]
      intro q hq
      rcases List.mem_cons.mp hq with rfl | hq
      · exact h
      · exact spl_mem S r _ [] (by simp) (fun x hx => hl x (List.mem_cons_of_mem _ hx)) q hq
    | false =>
      rw [spl_miss e]
      refine spl_mem S r 0 (acc ++ [c]) (fun x hx => ?_) fun x hx => hl x (List.mem_cons_of_mem _ hx)
      rcases List.mem_append.mp hx with hx | hx
      · exact h x hx
      · cases List.mem_singleton.mp hx; exact hl _ List.mem_cons_self
  | c :: r, k + 1, acc, h, hl => spl_mem S r k acc h fun x hx => hl x (List.mem_cons_of_mem _ hx)
theorem len_le_sum : ∀ {l : List Nat} {a : Nat}, a ∈ l → a ≤ l.sum
  | b :: r, a, h => by
    rcases List.mem_cons.mp h with rfl | h
    · simp
    · have := len_le_sum h
      simp
      omega
theorem Tok.part {n : Nat} {x y p : Str} (h : Tok n x) (hy : tl y ≠ []) (hk : y.cps.all (· < 256) = true) (hp : p ∈ Txt.split x y) : Tok n p := by
  refine ⟨?_, fun c hc => ?_⟩
  · have h1 := (split_sum (x := x) hy hk).1
    have h2 : p.length ≤ ((Txt.split x y).map (·.length)).sum := len_le_sum (List.mem_map.mpr ⟨p, hp, rfl⟩)
    have := h.1
    omega
  · have h1 : tl p ∈ spl (tl y) 0 [] (tl x) := by
      rw [← split_spl x y hy (kind_ok hk)]
      exact List.mem_map.mpr ⟨p, hp, rfl⟩
    exact spl_mem (tl y) (p := fun c => c < 1114112) (tl x) 0 [] (by simp) h.2 _ h1 c hc
theorem joinL_mem {S : List Nat} {c : Nat} : ∀ {parts : List (List Nat)}, c ∈ joinL S parts → c ∈ S ∨ ∃ p ∈ parts, c ∈ p
  | [], h => by cases h
  | [p], h => .inr ⟨p, List.mem_cons_self, h⟩
  | p :: q :: r, h => by
    have h : c ∈ p ++ (S ++ joinL S (q :: r)) := h
    rcases List.mem_append.mp h with h | h
    · exact .inr ⟨p, List.mem_cons_self, h⟩
    · rcases List.mem_append.mp h with h | h
      · exact .inl h
      · rcases joinL_mem h with h | ⟨z, hz, h⟩
        · exact .inl h
        · exact .inr ⟨z, List.mem_cons_of_mem _ hz, h⟩
theorem Tok.join {sep : Str} {ts : List Str} {s n m : Nat} (hs : Tok s sep) (ht : ∀ t ∈ ts, ∀ c ∈ tl t, c < 1114112) (hn : (ts.map (·.length)).sum ≤ n) (hm : ts.length ≤ m) : Tok (n + m * s) (Txt.join sep ts) := by
  rw [join_eq]
  refine ⟨?_, fun c hc => ?_⟩
  · refine Nat.le_trans (StrLaws.join_length_le sep ts) ?_
    have : ts.length * sep.length ≤ m * s := Nat.mul_le_mul hm hs.1
    omega
  · rw [tl_join] at hc
    rcases joinL_mem hc with h | ⟨p, hp, h⟩
    · exact hs.2 c h
    · obtain ⟨t, ht', rfl⟩ := List.mem_map.mp hp
      exact ht t ht' c h
/-- join, where the sum of the lengths is known -/
theorem dJoin_sum {sep : Str} {ts : List Str} {n m s : Nat} (hs : sep.length ≤ s) (hn : (ts.map (·.length)).sum ≤ n) (hm : ts.length ≤ m) (hz : n + m * s ≤ 100000) : dJoin (.str sep) (.lst (ts.map .str)) = some (.str (PySem.Txt.join sep ts)) := by
  have h3 : ts.length * sep.length ≤ m * s := Nat.mul_le_mul hm hs
  have : Nat.ble ((ts.map (·.length)).sum + ts.length * sep.length) 100000 = true := Nat.ble_eq_true_of_le (by omega)
  simp only [dJoin, itemsD, strsD_map, this, if_true]
end DL

end

section
set_option Elab.async false
set_option linter.all false
set_option maxRecDepth 100000
set_option maxHeartbeats 2000000
/-! DU: own errors with one field: made, raised. -/
namespace DL
open PySem L2
/-- the look: C is an own class over ValueError with a dict -/
def oexB (K : Frag) (C : Addr) : Bool := (match K.lookup C with
  | some ⟨.type "type", _, .cls cd, sl⟩ => (match cd.mro, sl.toList with
    | .ref C' :: bm, [_, _, _, _, some (.builtin n), _] => C' == C && n == "ValueError.__new__" && !cd.hasDel && cd.hasDict && PySem.HandSPX.refsVE bm
    | _, _ => false)
  | _ => false) && (decide (PySem.W.findIn K (.ref C) "__setattr__" = some (some (.builtin "object.__setattr__"))) && (decide (PySem.W.subIn K (.ref C) (.type "BaseException") = some true) && (decide (PySem.W.typeIn K (.ref C) = some (.type "type")) && PySem.W.keepIn K (.ref C))))
theorem oexB_ok {K : Frag} {C : Addr} (h : oexB K C = true) : OexC K C := by
  obtain ⟨q, h⟩ := Bool.and_eq_true_iff.mp h
  obtain ⟨h2, h⟩ := Bool.and_eq_true_iff.mp h
  obtain ⟨h3, h⟩ := Bool.and_eq_true_iff.mp h
  obtain ⟨h4, h5⟩ := Bool.and_eq_true_iff.mp h
  refine ⟨?_, of_decide_eq_true h2, of_decide_eq_true h3, of_decide_eq_true h4, h5⟩
  split at q
  · rename_i dd cd sl ho
    split at q
    · rename_i C' bm k0 k1 k2 k3 n k5 hm hs
      simp only [Bool.and_eq_true, beq_iff_eq, Bool.not_eq_true'] at q
      obtain ⟨⟨⟨⟨rfl, rfl⟩, hdel⟩, hdi⟩, ht⟩ := q
      obtain ⟨nm, bs, mro, ns, qn, hd, sn, sub, ab, col, del⟩ := cd
      dsimp only at hm hdel hdi
      subst hm hdel hdi
      have hsl : sl = #[k0, k1, k2, k3, some (.builtin "ValueError.__new__"), k5] := by
        obtain ⟨l⟩ := sl
        simp only at hs
        rw [hs]
      subst hsl
      exact ⟨nm, qn, ns, bs, bm, sn, sub, ab, col, dd, k0, k1, k2, k3, k5, ho, ht⟩
    · cases q
  · cases q
/-- what __init__ does: self.f = its one argument -/
def spI (C : Addr) (f : Str) : Sp := fun vs H Q _ => ∃ a v, vs = [.ref a, v] ∧ H a = some (exo a C none) ∧ ∀ dx, H dx = none → dx ≠ a → Q .non (upd (upd H dx (exd dx [(f, v)])) a (exo a C (some dx)))
section
variable {P : Program} {w : World} {K : Frag} {mg : Str → Option Value} {base : Heap} {x qual : Str} {params : Arguments} {body : List Stmt} {scope : Scope} {f : Addr} {fd : FuncData} {s0 s1 : Str}
theorem init_ok {C : Addr} {fl : Str} {p1 p2 p3 p4 : Pos} (T : OexC K C) (hno : PySem.W.findIn K (.ref C) fl = some none) (F : FunD K x qual params [.Assign [.Attribute (.Name "self" p1) fl p2] (.Name s1 p3) p4] scope [] [] f fd) (S : FnScope ["self", s1] ["self", s1] scope)
    (v0 : Vis scope "self") (v1 : Vis scope s1) (d1 : (s1 == ("__debug__" : Str)) = false) (c1 : (s1 == ("__classdict__" : Str)) = false) :
    FnOk P w K mg base (L2.CX P w) 1 f fd ["self", s1] (spI C fl) := by
  refine F.ok S (fun vs H Q E h => by obtain ⟨a, v, rfl, _⟩ := h; rfl) fun cdv A outer s H vs Q E hr h => ?_
  obtain ⟨a, v, rfl, ha, q⟩ := h
  exact ⟨_, pss_one (ps_ost (pe_var (i := 0) rfl v0) (pe_var (i := 1) rfl v1 d1 c1)), v, rfl, .ref a, rfl, a, C, rfl, T, hno, .inl ⟨ha, q⟩⟩
end
/-- an own error class of the text: where it stands, its field, its making -/
structure ErrD (P : Program) (w : World) (K : Frag) (mg : Str → Option Value) (base : Heap) (x fl : Str) (C : Addr) : Prop where
  gC : mg x = some (.ref C)
  oex : OexC K C
  xf : XfC K C
  no : PySem.W.findIn K (.ref C) fl = some none
  ini : ∃ fI fd ps, PySem.W.findIn K (.ref C) "__init__" = some (some (.ref fI)) ∧ PySem.W.typeIn K (.ref fI) = some (.type "function") ∧ FnOk P w K mg base (L2.CX P w) 1 fI fd ps (spI C fl) ∧ Binds K fd ps []
/-- raise C(a) -/
@[reducible] def fRaise (C : Addr) (fl : Str) (fa : Ev → Rs D) (env : Ev) : Rs Fl := (fa env).bind fun e d => .er e C fl d
section
variable {X : Cx} {W : WX} {k : Nat} {a : Expr} {fa : Ev → Rs D} {fl x : Str} {C : Addr} {p pos pos2 : Pos}
theorem del_upd {H : Hp} {a dx : Addr} {o1 o2 o3 u : HO} (na : H a = none) (hne : dx ≠ a) : upd (del (upd (upd (upd H a o1) dx o2) a o3) a) dx u = upd H dx u := by
  funext b
  by_cases h1 : b = dx
  · subst h1; rw [upd_same, upd_same]
  · rw [upd_ne h1, upd_ne h1]
    by_cases h2 : b = a
    · subst h2; rw [del_same, na]
    · rw [del_ne h2, upd_ne h2, upd_ne h1, upd_ne h2]
theorem ds_raise (B : Bd X W k) (T : ErrD X.prog X.w X.K X.mg X.base x fl C) (hk : 2 ≤ k) (ha : DE X W a fa) (hg : Gl X x := by rfl) (hdb : (x == ("__debug__" : Str)) = false := by decide)
    (he : starEach [a] X.env = (false, eval a X.env) :: starEach [] X.env := by rfl) (hpl : (backTo pos (starEach [] X.env)).any (·.1) = false := by rfl) :
    DS X W (.Raise (some (.Call (.Name x p) [a] [] pos)) none pos2) (fRaise C fl fa) := by
  obtain ⟨fI, fd, ps, iC, tI, F, hb⟩ := T.ini
  refine ps_mono (ps_raise B.hc B.tk (pmk_oex (dvs := []) T.oex iC tI F (B.hr.mono hk) hb .nil (passes_call B.tk fun _ _ _ _ z => z.elim) hg T.gC (da_cons ha da_nil he) hdb he hpl)) fun N σ H q => ?_
  obtain ⟨E, H0, env, S, q⟩ := q
  show WP X.K W (RA X.K) (fCons fa fNil) σ H _
  refine ⟨E, H0, env, S, ?_⟩
  unfold fRaise at q
  unfold fCons
  cases h : fa env with
  | ok e d =>
    rw [h] at q
    intro vs H1 H' s1 S1 r
    obtain ⟨v, rfl, rv⟩ := rpa1 r
    refine ⟨by simp, fun b nb => ⟨b, v, rfl, upd_same, fun dx nd hne => ⟨rfl, dx, [(fl, v)], upd_same, ?_, ?_, ?_⟩⟩⟩
    · rw [upd_ne hne, upd_same]
    · rw [upd_ne hne] at nd; exact nd
    · rw [upd_ne hne] at nd
      rw [del_upd nb hne]
      exact q v dx σ _ _ (s1.trans (S1.same_new _ nd)) (S1.new (.xd [(fl, v)]) nd) (rv.mono (S1.same_new _ nd)) upd_same
  | er e C' fl' d =>
    rw [h] at q
    exact fun v dd H1 H' => q v dd σ H1 H'
  | no =>
    rw [h] at q
    exact q
end
end DL

end

section
set_option Elab.async false
set_option linter.all false
set_option maxRecDepth 100000
set_option maxHeartbeats 2000000
/-! DV: own errors caught: try, except C as e. -/
namespace DL
open PySem L2
/-- readings in a suite: G is what is known of the caught error -/
structure Gd where
  G : Hp → St → Prop
  up : ∀ {H0 H1 : Hp} {σ : St}, Same H0 H1 → G H0 σ → G H1 σ
def WPg {α β : Type} (g : Gd) (K : Frag) (R : RelT α β) (f : Ev → Rs α) : St → Hp → (β → Hp → Prop) → Prop :=
  fun σ H Q => ∃ E H0 env, g.G H0 σ ∧ StR K E H0 H σ env ∧ Post K W0 R E H0 σ Q (f env)
def tDSg (g : Gd) (K : Frag) (f : Ev → Rs Fl) : TS := fun N σ H => ∃ E H0 env, g.G H0 σ ∧ StR K E H0 H σ env ∧ PostS K W0 E H0 N (f env)
abbrev DEg (X : Cx) (g : Gd) (e : Expr) (f : Ev → Rs D) : Prop := PE X e (WPg g X.K (RD X.K) f)
abbrev DTg (X : Cx) (g : Gd) (e : Expr) (f : Ev → Rs Bool) : Prop := PT X e (WPg g X.K RB f)
abbrev DAg (X : Cx) (g : Gd) (es : List Expr) (f : Ev → Rs (List D)) : Prop := PA X es (WPg g X.K (RA X.K) f)
abbrev DFg (X : Cx) (g : Gd) (e : Expr) (f : Ev → Rs (List D)) : Prop := PE X e (WPg g X.K (RF X.K) f)
abbrev DSg (X : Cx) (g : Gd) (st : Stmt) (f : Ev → Rs Fl) : Prop := PS X st (tDSg g X.K f)
abbrev DSsg (X : Cx) (g : Gd) (st : List Stmt) (f : Ev → Rs Fl) : Prop := PSs X st (tDSg g X.K f)
section
variable {K : Frag} {E : En} {H0 H1 H : Hp} {σ : St} {env : Ev} {α β γ δ : Type} {R : RelT α β} {R' : RelT γ δ} {g : Gd}
theorem WPg.bind {f : Ev → Rs α} {k : Ev → α → Rs γ} {Q : δ → Hp → Prop} {Q' : β → Hp → Prop} (i : g.G H0 σ) (S : StR K E H0 H σ env) (h : Post K W0 R' E H0 σ Q ((f env).bind k))
    (hk : ∀ env' a b H1 H', g.G H1 σ → StR K E H1 H' σ env' → Same H0 H1 → R E σ env' H1 H' a b → Post K W0 R' E H1 σ Q (k env' a) → Q' b H') : WPg g K R f σ H Q' := by
  refine ⟨E, H0, env, i, S, ?_⟩
  cases e : f env with
  | ok env' a =>
    rw [e] at h
    exact fun b H1 H' s S' r => hk env' a b H1 H' (g.up s i) S' s r (h.up s)
  | er env' C fl d =>
    rw [e] at h
    exact h
  | no =>
    rw [e] at h
    exact h
theorem WPg.bindS {f : Ev → Rs α} {k : Ev → α → Rs Fl} {N : Ends} {Q' : β → Hp → Prop} (i : g.G H0 σ) (S : StR K E H0 H σ env) (h : PostS K W0 E H0 N ((f env).bind k))
    (hk : ∀ env' a b H1 H', g.G H1 σ → StR K E H1 H' σ env' → Same H0 H1 → R E σ env' H1 H' a b → PostS K W0 E H1 N (k env' a) → Q' b H') : WPg g K R f σ H Q' := by
  refine ⟨E, H0, env, i, S, ?_⟩
  cases e : f env with
  | ok env' a =>
    rw [e] at h
    exact fun b H1 H' s S' r => hk env' a b H1 H' (g.up s i) S' s r (h.up s)
  | er env' C fl d =>
    rw [e] at h
    exact fun v dd H1 H' => h v dd σ H1 H'
  | no =>
    rw [e] at h
    exact h
end
section
variable {X : Cx} {g : Gd} {e a b : Expr} {es : List Expr} {fa fb : Ev → Rs D} {fs : Ev → Rs (List D)} {pos : Pos}
theorem deg_of (h : DE X W0 e fa) : DEg X g e fa := pe_mono h fun σ H Q q => by
  obtain ⟨E, H0, env, _, S, q⟩ := q
  exact ⟨E, H0, env, S, q⟩
theorem dag_nil : DAg X g [] fNil := pa_mono (da_nil (W := W0)) fun σ H Q q => by
  obtain ⟨E, H0, env, _, S, q⟩ := q
  exact ⟨E, H0, env, S, q⟩
theorem dag_cons (ha : DEg X g e fa) (hr : DAg X g es fs) (hs : starEach (e :: es) X.env = (false, eval e X.env) :: starEach es X.env := by rfl) : DAg X g (e :: es) (fCons fa fs) := by
  refine pa_mono (pa_cons ha hr hs) fun σ H Q q => ?_
  obtain ⟨E, H0, env, i, S, q⟩ := q
  exact WPg.bind i S q fun e1 x v H1 H' i1 S1 s1 r1 q1 => WPg.bind i1 S1 q1 fun e2 xs vs H2 H'' i2 S2 s2 r2 q2 => Post.here S2 q2 (.cons (r1.mono s2) r2)
theorem dsg_ret (h : DEg X g a fa) : DSg X g (.Return (some a) pos) (fRet fa) := by
  refine ps_mono (ps_ret h) fun N σ H q => ?_
  obtain ⟨E, H0, env, i, S, q⟩ := q
  exact WPg.bindS i S q fun e1 x v H1 H' i1 S1 s1 r1 q1 => q1 v σ H1 H' (Same.refl _) S1 r1
theorem dsg_retF (h : DFg X g a fs) : DSg X g (.Return (some a) pos) (fun env => (fs env).bind fun e ds => .ok e (.rt (.fr ds))) := by
  refine ps_mono (ps_ret h) fun N σ H q => ?_
  obtain ⟨E, H0, env, i, S, q⟩ := q
  exact WPg.bindS i S q fun e1 x v H1 H' i1 S1 s1 r1 q1 => q1 v σ H1 H' (Same.refl _) S1 r1
theorem deg_N {r : List V → Hp → VK → Prop} {gn : List D → Option D} (hv : VN X.K r gn) (ha : DAg X g es fs) (h : PE X e (tCB r (WPg g X.K (RA X.K) fs))) : DEg X g e (fN gn fs) := by
  refine pe_mono h fun σ H Q q => ?_
  obtain ⟨E, H0, env, i, S, q⟩ := q
  exact WPg.bind i S q fun e1 xs vs H1 H' i1 S1 s1 r1 q1 => q1.fin S1 fun d ed k => hv H1 H' xs d vs Q S1.s1 r1 ed k
theorem deg_tup {x1} (ha : DAg X g es fs) : DEg X g (.Tuple es x1 pos) (fN gTup fs) := deg_N vn_tup ha (pe_tup ha)
theorem deg_lst (ha : DAg X g es fs) : DEg X g (.List es pos) (fN gLst fs) := deg_N vn_lst ha (pe_lst ha)
theorem dfg_lst (ha : DAg X g es fs) : DFg X g (.List es pos) (fLst fs) := by
  refine pe_mono (pe_lst ha) fun σ H Q q => ?_
  obtain ⟨E, H0, env, i, S, q⟩ := q
  refine WPg.bind i S q fun e1 ds vs H1 H' i1 S1 s1 r1 q1 => ?_
  by_cases hz : small ds.length = true
  · rw [if_pos hz] at q1
    refine ⟨by rw [← RpA.length r1]; exact le_line (small_le hz), fun p n => ?_⟩
    obtain ⟨S2, r2⟩ := S1.laid r1 n
    exact q1 _ H1 _ (Same.refl _) S2 r2
  · rw [if_neg hz] at q1
    exact (show False from q1).elim
theorem dssg_one {st : Stmt} {f : Ev → Rs Fl} (h : DSg X g st f) : DSsg X g [st] f := pss_one h
end
/-- the caught error: slot i holds it, its dict lies at dd -/
def gx (K : Frag) (i : Nat) (a dd : Addr) (fl : Str) (v : V) (d : D) : Gd where
  G := fun H0 σ => H0 dd = some (.xd [(fl, v)]) ∧ Rp K H0 d v ∧ σ[i]? = some (some (.ref a))
  up := fun s h => ⟨s _ _ h.1, h.2.1.mono s, h.2.2⟩
section
variable {X : Cx} {i : Nat} {a dd C : Addr} {fl n : Str} {v : V} {d : D} {oe : Obj} {pn : List (Addr × Obj)} {pos p : Pos}
/-- e.fl -/
theorem deg_fld (T : XfC X.K C) (hno : PySem.W.findIn X.K (.ref C) fl = some none) (hz : Zc (.ref C) (some dd) oe) (hf : ∃ vs, oe.data = .fields vs) (hN : X.N[i]? = some n := by rfl) (hv : Vis X.env.scope n := by first | exact Or.inl rfl | exact Or.inr (Or.inl rfl) | exact Or.inr (Or.inr rfl))
    (hdb : (n == ("__debug__" : Str)) = false := by decide) (hcd : (n == ("__classdict__" : Str)) = false := by decide) (hb : attributeBase (.Name n p) fl X.env (eval (.Name n p) X.env) = eval (.Name n p) X.env := by rfl) :
    DEg (X.suite a ((a, oe) :: pn)) (gx X.K i a dd fl v d) (.Attribute (.Name n p) fl pos) (fC d) := by
  refine pe_mono (pe_xf T hno hz hf (pe_var (X := X.suite a ((a, oe) :: pn)) (i := i) hN hv hdb hcd) hb) fun σ H Q q => ?_
  obtain ⟨E, H0, env, ⟨h1, h2, h3⟩, S, q⟩ := q
  exact ⟨.ref a, h3, rfl, rfl, dd, [(fl, v)], v, rfl, S.s1 _ _ h1, by simp [List.lookup], q v H0 H (Same.refl _) S h2⟩
end
/-! ### try -/
@[reducible] def fTry (cs : List (Addr × Bool)) (i : Nat) (fl0 : Str) (fb : Ev → Rs Fl) (fs : D → Ev → Rs Fl) (env : Ev) : Rs Fl := match fb env with
  | .er e C fl d => (match cs.lookup C with
    | some true => if fl = fl0 ∧ plainSl e[i]? = true then (match fs d (e.set i .un) with
      | .ok e2 (.rt r) => .ok e2 (.rt r)
      | .ok e2 f => if plainSl e2[i]? = true then .ok (e2.set i .un) f else .no
      | _ => .no) else .no
    | some false => .er e C fl d
    | none => .no)
  | r => r
theorem StR.setUn {K : Frag} {E : En} {H0 H : Hp} {σ : St} {env : Ev} (S : StR K E H0 H σ env) {i : Nat} (hp : plainSl env[i]? = true) (o : Option V) : StR K E H0 H (σ.set i o) (env.set i .un) :=
  S.wiped (vs := [i]) (S.noRef fun v hv => by cases List.mem_singleton.mp hv; exact hp) (by simp [wipe]) (by simp)
theorem plain_lt {env : Ev} {i : Nat} (h : plainSl env[i]? = true) : i < env.length := by
  cases q : env[i]? with
  | none => rw [q] at h; cases h
  | some s => exact (List.getElem?_eq_some_iff.mp q).1
section
variable {X : Cx} {W : WX} {k i : Nat} {x n : Str} {C : Addr} {body suite : List Stmt} {b₀ : Stmt} {np pos pos' : Pos} {fb : Ev → Rs Fl} {fs : D → Ev → Rs Fl} {fl0 : Str} {cs : List (Addr × Bool)}
theorem ds_tryAs (B : Bd X W k) (hcs : ∀ c b, cs.lookup c = some b → PySem.W.exmOne X.K (.ref c) (.ref C) = some b ∧ (b = true → c = C)) (hc : Names X x (.ref C))
    (hb : ∀ (W' : WX) (pn : List (Addr × Obj)) (xe : Value → Shared → Prop), Bd (X.tr pn xe) W' k → DSs (X.tr pn xe) W' body fb)
    (hsu : ∀ (a dd : Addr) (oe : Obj) (pn : List (Addr × Obj)) (v : V) (d : D), Zc (.ref C) (some dd) oe → (∃ vs, oe.data = .fields vs) → DSsg (X.suite a ((a, oe) :: pn)) (gx X.K i a dd fl0 v d) (b₀ :: suite) (fs d))
    (hs : X.stack = X.env :: X.outer := by rfl) (hf : X.env.frame = some X.env.locals := by rfl) (hi : X.N[i]? = some n := by rfl) (hln : X.env.kindOf n = some .local := by rfl) :
    DS X W (.Try body [.ExceptHandler (some (.Name x np)) (some n) (b₀ :: suite) pos'] [] [] pos) (fTry cs i fl0 fb fs) := by
  refine ps_mono (ps_try_as (i := i) (Wout := W) (tb := fun W' => tDS X.K W' fb) (ts := fun a cls d => fun N σ H => ∃ dd v dp, cls = .ref C ∧ d = some dd ∧ tDSg (gx X.K i a dd fl0 v dp) X.K (fs dp) N σ H) hs hf B.nd hi hln hc B.tk
    (fun W' pn xe tk ps => hb W' pn xe ⟨tk, ps, B.hc, B.nd, B.hr⟩) fun a oe cls d pn hz hf => ⟨fun pins s σ H N I h => ?_⟩) fun N σ H q => ?_
  · obtain ⟨dd, v, dp, rfl, rfl, h⟩ := h
    exact (hsu a dd oe pn v dp hz hf).run pins s σ H N I h
  · obtain ⟨E, H0, env, S, q⟩ := q
    refine ⟨E, H0, env, S, ?_⟩
    unfold fTry at q
    cases h : fb env with
    | ok e fl =>
      rw [h] at q
      cases fl <;> exact q
    | no =>
      rw [h] at q
      exact q
    | er e C' fl d =>
      rw [h] at q
      dsimp only at q
      intro v dd σ' H1 H' s1 S1 rv hx
      cases hl : cs.lookup C' with
      | none => rw [hl] at q; exact (show False from q).elim
      | some b =>
        rw [hl] at q
        obtain ⟨hm, hC⟩ := hcs C' b hl
        refine ⟨b, hm, fun hbt a na => ?_, fun hbf => ?_⟩
        · subst hbt
          cases hC rfl
          dsimp only at q
          split at q
          · rename_i hp
            obtain ⟨rfl, hp⟩ := hp
            refine ⟨dd, v, d, rfl, rfl, E, H1, e.set i .un, ⟨hx, rv, ?_⟩, S1.setUn hp _, ?_⟩
            · rw [List.getElem?_set_self (by rw [S1.len]; exact plain_lt hp)]
            · cases hq : fs d (e.set i .un) with
              | ok e2 f =>
                rw [hq] at q
                cases f with
                | rt r => exact PostS.up s1 q
                | nx =>
                  dsimp only at q
                  split at q
                  · rename_i hp2
                    exact fun σ2 H2 H3 s2 S2 => q _ _ _ (s1.trans s2) (S2.setUn hp2 none)
                  · exact (show False from q).elim
                | bk =>
                  dsimp only at q
                  split at q
                  · rename_i hp2
                    exact fun σ2 H2 H3 s2 S2 => q _ _ _ (s1.trans s2) (S2.setUn hp2 none)
                  · exact (show False from q).elim
                | ct =>
                  dsimp only at q
                  split at q
                  · rename_i hp2
                    exact fun σ2 H2 H3 s2 S2 => q _ _ _ (s1.trans s2) (S2.setUn hp2 none)
                  · exact (show False from q).elim
              | er e2 c2 f2 d2 => rw [hq] at q; exact (show False from q).elim
              | no => rw [hq] at q; exact (show False from q).elim
          · exact (show False from q).elim
        · subst hbf
          exact q v dd σ' H1 H' s1 S1 rv hx
/-- which errors the clause takes -/
theorem cs_nil {K : Frag} {C : Addr} : ∀ c b, ([] : List (Addr × Bool)).lookup c = some b → PySem.W.exmOne K (.ref c) (.ref C) = some b ∧ (b = true → c = C) := fun _ _ h => nomatch h
theorem cs_hit {K : Frag} {C : Addr} {cs : List (Addr × Bool)} (h : PySem.W.exmOne K (.ref C) (.ref C) = some true) (r : ∀ c b, cs.lookup c = some b → PySem.W.exmOne K (.ref c) (.ref C) = some b ∧ (b = true → c = C)) : ∀ c b, ((C, true) :: cs).lookup c = some b → PySem.W.exmOne K (.ref c) (.ref C) = some b ∧ (b = true → c = C) := fun c b e => by
  rw [List.lookup_cons] at e
  split at e
  · rename_i q
    have q : c = C := by simpa using q
    cases e
    subst q
    exact ⟨h, fun _ => rfl⟩
  · exact r c b e
theorem cs_not {K : Frag} {C C' : Addr} {cs : List (Addr × Bool)} (h : PySem.W.exmOne K (.ref C') (.ref C) = some false) (r : ∀ c b, cs.lookup c = some b → PySem.W.exmOne K (.ref c) (.ref C) = some b ∧ (b = true → c = C)) : ∀ c b, ((C', false) :: cs).lookup c = some b → PySem.W.exmOne K (.ref c) (.ref C) = some b ∧ (b = true → c = C) := fun c b e => by
  rw [List.lookup_cons] at e
  split at e
  · rename_i q
    have q : c = C' := by simpa using q
    cases e
    subst q
    exact ⟨h, fun z => nomatch z⟩
  · exact r c b e
end
end DL

end

section
set_option Elab.async false
set_option linter.all false
set_option maxRecDepth 100000
set_option maxHeartbeats 2000000
/-! DY: slices of texts and of tuples. -/
namespace DL
open PySem L2
section
variable {X : Cx} {W : WX} {a : Expr} {fa : Ev → Rs D} {lo hi : Option Expr} {fl fh : Ev → Rs (Option Int)} {pos p2 : Pos}
@[reducible] def fCutS (fa : Ev → Rs D) (fl fh : Ev → Rs (Option Int)) (env : Ev) : Rs D := (fa env).bind fun e x => (fl e).bind fun e l => (fh e).bind fun e h => match x with
  | .str z => if szS z = true then .ok e (.str (cutS z l h)) else .no
  | _ => .no
theorem de_cutS (ha : DE X W a fa) (hl : DP X W lo fl) (hh : DP X W hi fh) : DE X W (.Subscript a (.Slice lo hi none p2) pos) (fCutS fa fl fh) := by
  refine pe_mono (pe_slice sl_str ha hl hh) fun σ H Q q => ?_
  obtain ⟨E, H0, env, S, q⟩ := q
  refine WP.bind S q fun e1 x v H1 H' S1 s1 r1 q1 => WP.bind S1 q1 fun e2 l l' H2 H'' S2 s2 r2 q2 => WP.bind S2 q2 fun e3 h h' H3 H4 S3 s3 r3 q3 => ?_
  have r2 : l = l' := r2
  have r3 : h = h' := r3
  subst r2 r3
  cases x with
  | str z =>
    dsimp only at q3
    split at q3
    · rename_i hz
      have := szS_le hz
      exact ⟨z, rp_str r1, by rw [sizeLine_eq]; omega, q3 _ H3 H4 (Same.refl _) S3 (.str _)⟩
    · exact (show False from q3).elim
  | _ => exact (show False from q3).elim
@[reducible] def fCutT (fa : Ev → Rs D) (fl fh : Ev → Rs (Option Int)) (env : Ev) : Rs D := (fa env).bind fun e x => (fl e).bind fun e l => (fh e).bind fun e h => match x with
  | .tup ds => .ok e (.tup (cutD ds l h))
  | _ => .no
theorem cutD_all {α : Type} (xs : List α) {l h : Option Int} (c : HT.sIx xs.length 0 l = 0 ∧ HT.sIx xs.length xs.length h = xs.length) : cutD xs l h = xs := by
  unfold cutD
  rw [c.1, c.2]
  simp
theorem de_cutT (ha : DE X W a fa) (hl : DP X W lo fl) (hh : DP X W hi fh) : DE X W (.Subscript a (.Slice lo hi none p2) pos) (fCutT fa fl fh) := by
  refine pe_mono (pe_slice sl_tupA ha hl hh) fun σ H Q q => ?_
  obtain ⟨E, H0, env, S, q⟩ := q
  refine WP.bind S q fun e1 x v H1 H' S1 s1 r1 q1 => WP.bind S1 q1 fun e2 l l' H2 H'' S2 s2 r2 q2 => WP.bind S2 q2 fun e3 h h' H3 H4 S3 s3 r3 q3 => ?_
  have r2 : l = l' := r2
  have r3 : h = h' := r3
  subst r2 r3
  have rx := (r1.mono s2).mono s3
  cases rx with
  | tup ht r =>
    rename_i p vs ds
    refine ⟨_, _, rfl, sqT_mono S3.s1 ht, fun c => ?_, fun _ b nb => ?_⟩
    · dsimp only at q3
      rw [cutD_all ds (by rw [RpA.length r]; exact c)] at q3
      exact q3 _ H3 H4 (Same.refl _) S3 (.tup ht r)
    · exact q3 _ _ _ (S3.same_new _ nb) (S3.new (.tup _) nb) (.tup (SqT.of upd_same) ((cut_rp r l h).mono (S3.same_new _ nb)))
  | _ => exact (show False from q3).elim
end
end DL

end

section
set_option Elab.async false
set_option linter.all false
set_option maxRecDepth 100000
set_option maxHeartbeats 2000000
/-! DZ: own error classes, out of the head's facts. -/
namespace DL
open PySem L2
/-- the j-th statement in a class's body -/
def inC (s : Stmt) (j : Nat) : Stmt := match s with
  | .ClassDef _ _ _ body .. => body.getD j (.Pass ⟨0, 0, 0, 0⟩)
  | _ => .Pass ⟨0, 0, 0, 0⟩
theorem errD_of {P : Program} {w : World} {K : Frag} {h : Heap} {mg : Str → Option Value} {base : Heap} {x fl s1 qual : Str} {params : Arguments} {scope : Scope} {fd : FuncData} {p1 p2 p3 p4 : Pos} (X : K.In h) (G : h.Ns mainGlobals mg)
    (c1 : (He.Fa.glo x).ok K = true) (c2 : (He.Fa.meth x "__init__").ok K = true) (c3 : (He.Fa.noat x fl).ok K = true) (co : oexB K (He.ga K x) = true) (cx : xfB K (He.ga K x) = true)
    (F : FunD K "__init__" qual params [.Assign [.Attribute (.Name "self" p1) fl p2] (.Name s1 p3) p4] scope [] [] (He.fAd K (x, some "__init__")) fd) (S : FnScope ["self", s1] ["self", s1] scope)
    (v0 : Vis scope "self") (v1 : Vis scope s1) (d1 : (s1 == ("__debug__" : Str)) = false) (e1 : (s1 == ("__classdict__" : Str)) = false) (hb : Binds K fd ["self", s1] []) : ErrD P w K mg base x fl (He.ga K x) := by
  obtain ⟨m1, m2, m3⟩ := He.meth_ok c2
  exact ⟨He.glo_ok X G c1, oexB_ok co, xfB_ok cx, He.noat_ok c3, _, fd, _, m1, eq_of_beq m2, init_ok (oexB_ok co) (He.noat_ok c3) F S v0 v1 d1 e1, hb⟩
end DL

end

section
set_option Elab.async false
set_option linter.all false
set_option maxRecDepth 100000
set_option maxHeartbeats 2000000
/-! DSi: plain facts by which a function of slots is run. -/
namespace DL
open PySem L2
theorem free_un : free (some .un) = true := rfl
theorem free_sh {d : D} : free (some (.sh d)) = true := rfl
theorem free_ow {o : Ob} : free (some (.ow o)) = true := rfl
theorem isL_l {ds : List D} : isL (some (.lst ds)) = true := rfl
theorem pl_un : plainSl (some .un) = true := rfl
theorem pl_sh {d : D} : plainSl (some (.sh d)) = true := rfl
theorem beq_n (n : Nat) : Nat.beq n n = true := Nat.beq_refl n
end DL

end

section
set_option Elab.async false
set_option linter.all false
set_option maxRecDepth 100000
set_option maxHeartbeats 4000000
namespace K20
open PySem L2 DL
def top (i : Nat) : Stmt := PySem.Challenge.pw_selfchains_k20_texts_of_histories_refuse.main.body.getD i (.Pass ⟨0, 0, 0, 0⟩)
abbrev c_PLACED : List D := [(.str "step"), (.str "kill"), (.str "fail"), (.str "repeat"), (.str "lose")]
abbrev c_PLAIN : List D := [(.str "lapse"), (.str "watch"), (.str "start"), (.str "off"), (.str "on")]
/-- what the top leaves -/
structure Txt (K : Frag) (mg : Str → Option Value) : Prop where
  n_abs : mg "abs" = none
  n_bool : mg "bool" = none
  n_enumerate : mg "enumerate" = none
  n_int : mg "int" = none
  n_isinstance : mg "isinstance" = none
  n_len : mg "len" = none
  n_max : mg "max" = none
  n_min : mg "min" = none
  n_range : mg "range" = none
  n_str : mg "str" = none
  c_PLACED : GlT K mg "PLACED" c_PLACED
  c_PLAIN : GlT K mg "PLAIN" c_PLAIN
section
variable {P : Program} {w : World} {K : Frag} {mg : Str → Option Value} {base : Heap} {cE : Str → Addr}
abbrev s__law_bag : Stmt := top 8
abbrev N__law_bag : List Str := ["_law_script", "_law_at", "_law_number", "_law_mixed", "_law_spot", "_law_each"]
theorem sc__law_bag : FnScope N__law_bag ["_law_script", "_law_at"] (defScope s__law_bag) := ⟨rfl, rfl, rfl, by decide +kernel, rfl, by decide +kernel, by decide +kernel⟩
def f__law_bag (cE : Str → Addr) : Ev → Rs Fl :=
    (fSeq (fSet 2 (fIf (fTest (f2 dLt (fVar 1) (fN gLen (fCons (fVar 0) fNil)))) (f2 dIx (fVar 0) (fVar 1)) (fC (.int 0))))
    (fSeq (fSet 3 (f2 dAdd (f2 dMul (fC (.int 4099)) (fVar 1)) (fC (.int 31))))
    (fSeq (fFor (fiE (fCons (fSh (fCutL (fVar 0) fNoP (fP (fC (.int 60))))) fNil)) (gTp (gsCons (gNm 4) (gsCons (gNm 5) gsNil)))
    (fSet 3 (f2 dMod (fN gInt (fCons (f2 dAdd (f2 dAdd (f2 dAdd (f2 dMul (fVar 3) (fC (.int 40087))) (f2 dMod (fN gInt (fCons (fVar 5) fNil)) (fC (.int 2147483549)))) (f2 dMul (fC (.int 211)) (fVar 4))) (fC (.int 7))) fNil)) (fC (.int 2147483647)))))
    (fun env => ((fLst (fCons (fIf (fTest (f2 dGe (fN gAbs (fCons (fVar 2) fNil)) (f2 dPow (fC (.int 10)) (fC (.int 18))))) (fN gAbs (fCons (fVar 2) fNil)) (fC (.int 0))) (fCons (fVar 3) fNil))) env).bind fun e ds => .ok e (.rt (.fr ds))))))
def g__law_bag (cE : Str → Addr) : List Sl → Rs Dr := gOf 6 (f__law_bag cE)
theorem ok__law_bag (T : Txt K mg) {f : Addr} {fd : FuncData} (F : FunD K "_law_bag" "_law_bag" (defArgs s__law_bag) (defBody s__law_bag) (defScope s__law_bag) [] [] f fd) (hm : mg "_law_bag" = some (.ref f))  : Dfn P w K mg base 1 "_law_bag" 2 [] (g__law_bag cE) :=
  ⟨f, fd, _, [], [], def_ok (k := 0) (fb := f__law_bag cE) F sc__law_bag (fun cdv A outer s H E B =>
    (dss_cons (ds_set (i := 2) B (de_if (dt_cmp op_lt v2_lt (de_var (i := 1)) (de_callB call_len vn_len T.n_len (by decide +kernel) (da_cons (de_var (i := 0)) da_nil))) (de_item (de_var (i := 0)) (de_var (i := 1))) de_int))
    (dss_cons (ds_set (i := 3) B (de_add (de_mul de_int (de_var (i := 1))) de_int))
    (dss_cons (ds_for B (di_enum T.n_enumerate (da_cons (DF.de (df_cut (de_var (i := 0)) dp_none (dp_some de_int))) da_nil)) (dg_tup B.hc (dgs_cons (dg_name B.nd (i := 4)) (dgs_cons (dg_name B.nd (i := 5)) dgs_nil)) (hl := (gs_lenS (gs_lenS (fun _ _ _ h => gs_len0 h)))))
    (dss_one (ds_set (i := 3) B (de_mod (de_callTy call_int1 vn_int T.n_int (by decide +kernel) (da_cons (de_add (de_add (de_add (de_mul (de_var (i := 3)) de_int) (de_mod (de_callTy call_int1 vn_int T.n_int (by decide +kernel) (da_cons (de_var (i := 5)) da_nil)) de_int)) (de_mul de_int (de_var (i := 4)))) de_int) da_nil)) de_int))))
    (dss_one (ds_retF (df_lst (da_cons (de_if (dt_cmp op_ge v2_ge (de_callB call_abs vn_abs T.n_abs (by decide +kernel) (da_cons (de_var (i := 2)) da_nil)) (de_pow de_int de_int)) (de_callB call_abs vn_abs T.n_abs (by decide +kernel) (da_cons (de_var (i := 2)) da_nil)) de_int) (da_cons (de_var (i := 3)) da_nil))))))))), hm, F.kp, F.bindsN (fun _ _ _ _ _ _ us hl => match us, hl with | [_, _], _ => rfl), .nil, fun _ => .nil⟩
abbrev s__law_take : Stmt := top 9
abbrev N__law_take : List Str := ["_law_bag_here", "_law_many", "_law_digit"]
theorem sc__law_take : FnScope N__law_take ["_law_bag_here", "_law_many"] (defScope s__law_take) := ⟨rfl, rfl, rfl, by decide +kernel, rfl, by decide +kernel, by decide +kernel⟩
def f__law_take (cE : Str → Addr) : Ev → Rs Fl :=
    (fSeq (fIfS (fTest (f2 dGt (fIxO 0 (fC (.int 0))) (fC (.int 0)))) (fSeq (fSet 2 (f2 dMod (fN gInt (fCons (fIxO 0 (fC (.int 0))) fNil)) (fVar 1)))
    (fSeq (fSetIx 0 (f2 dDiv (fIxO 0 (fC (.int 0))) (fVar 1)) (fC (.int 0)))
    (fRet (fVar 2)))) fsNil)
    (fSeq (fSetIx 0 (f2 dMod (fN gInt (fCons (f2 dAdd (f2 dMul (fIxO 0 (fC (.int 1))) (fC (.int 48271))) (fC (.int 12820163))) fNil)) (fC (.int 2147483587))) (fC (.int 1)))
    (fRet (f2 dMod (f2 dDiv (f2 dMod (fN gInt (fCons (f2 dMul (f2 dDiv (fIxO 0 (fC (.int 1))) (fC (.int 17))) (fC (.int 69697))) fNil)) (fC (.int 2147483489))) (fC (.int 32))) (fVar 1)))))
def g__law_take (cE : Str → Addr) : List Sl → Rs Dr := gOf 3 (f__law_take cE)
theorem ok__law_take (T : Txt K mg) {f : Addr} {fd : FuncData} (F : FunD K "_law_take" "_law_take" (defArgs s__law_take) (defBody s__law_take) (defScope s__law_take) [] [] f fd) (hm : mg "_law_take" = some (.ref f))  : Dfn P w K mg base 1 "_law_take" 2 [] (g__law_take cE) :=
  ⟨f, fd, _, [], [], def_ok (k := 0) (fb := f__law_take cE) F sc__law_take (fun cdv A outer s H E B =>
    (dss_cons (ds_if (dt_cmp op_gt v2_gt (de_ixO (i := 0) rfl de_int) de_int) (dss_cons (ds_set (i := 2) B (de_mod (de_callTy call_int1 vn_int T.n_int (by decide +kernel) (da_cons (de_ixO (i := 0) rfl de_int) da_nil)) (de_var (i := 1))))
    (dss_cons (ds_setIx (i := 0) rfl (de_div (de_ixO (i := 0) rfl de_int) (de_var (i := 1))) de_int)
    (dss_one (ds_ret (de_var (i := 2)))))) dss_nil)
    (dss_cons (ds_setIx (i := 0) rfl (de_mod (de_callTy call_int1 vn_int T.n_int (by decide +kernel) (da_cons (de_add (de_mul (de_ixO (i := 0) rfl de_int) de_int) de_int) da_nil)) de_int) de_int)
    (dss_one (ds_ret (de_mod (de_div (de_mod (de_callTy call_int1 vn_int T.n_int (by decide +kernel) (da_cons (de_mul (de_div (de_ixO (i := 0) rfl de_int) de_int) de_int) da_nil)) de_int) de_int) (de_var (i := 1)))))))), hm, F.kp, F.bindsN (fun _ _ _ _ _ _ us hl => match us, hl with | [_, _], _ => rfl), .nil, fun _ => .nil⟩
abbrev s__law_of : Stmt := top 10
abbrev N__law_of : List Str := ["_law_bag_here", "_law_some"]
theorem sc__law_of : FnScope N__law_of ["_law_bag_here", "_law_some"] (defScope s__law_of) := ⟨rfl, rfl, rfl, by decide +kernel, rfl, by decide +kernel, by decide +kernel⟩
def f__law_of (cE : Str → Addr) : Ev → Rs Fl :=
    (fRet (f2 dIx (fVar 1) (fShR (fCallR 0 2 (g__law_take cE) [] (fCons (fN gLen (fCons (fVar 1) fNil)) fNil)))))
def g__law_of (cE : Str → Addr) : List Sl → Rs Dr := gOf 2 (f__law_of cE)
theorem ok__law_of (T : Txt K mg) {f : Addr} {fd : FuncData} (F : FunD K "_law_of" "_law_of" (defArgs s__law_of) (defBody s__law_of) (defScope s__law_of) [] [] f fd) (hm : mg "_law_of" = some (.ref f)) (G__law_take : Dfn P w K mg base 1 "_law_take" 2 [] (g__law_take cE)) : Dfn P w K mg base 2 "_law_of" 2 [] (g__law_of cE) :=
  ⟨f, fd, _, [], [], def_ok (k := 1) (fb := f__law_of cE) F sc__law_of (fun cdv A outer s H E B =>
    (dss_one (ds_ret (de_item (de_var (i := 1)) (DX.de (dx_callR (i := 0) B G__law_take (by decide) rfl (da_cons (de_callB call_len vn_len T.n_len (by decide +kernel) (da_cons (de_var (i := 1)) da_nil)) da_nil))))))), hm, F.kp, F.bindsN (fun _ _ _ _ _ _ us hl => match us, hl with | [_, _], _ => rfl), .nil, fun _ => .nil⟩
abbrev s__law_spoiled : Stmt := top 11
abbrev N__law_spoiled : List Str := ["_law_bag_here", "_law_text", "_law_spot", "_law_signs", "_law_sign", "_law_way", "_law_words", "_law_early", "_law_late"]
theorem sc__law_spoiled : FnScope N__law_spoiled ["_law_bag_here", "_law_text"] (defScope s__law_spoiled) := ⟨rfl, rfl, rfl, by decide +kernel, rfl, by decide +kernel, by decide +kernel⟩
def f__law_spoiled (cE : Str → Addr) : Ev → Rs Fl :=
    (fSeq (fSet 2 (fShR (fCallR 0 2 (g__law_take cE) [] (fCons (f2 dAdd (fN gLen (fCons (fVar 1) fNil)) (fC (.int 1))) fNil))))
    (fSeq (fSet 3 (fN gLst (fCons (fC (.str " ")) (fCons (fC (.str ";")) (fCons (fC (.str "|")) (fCons (fC (.str "-")) (fCons (fC (.str ",")) (fCons (fC (.str "+")) (fCons (fC (.str ":")) (fCons (fC (.str "0")) (fCons (fC (.str "1")) (fCons (fC (.str "2")) (fCons (fC (.str "e")) (fCons (fC (.str "k")) (fCons (fC (.str "f")) (fCons (fC (.str "b")) (fCons (fC (.str "o")) (fCons (fC (.str "s")) (fCons (fC (.str "\n")) (fCons (fC (.str "P")) (fCons (fC (.str ".")) fNil)))))))))))))))))))))
    (fSeq (fSet 4 (fShR (fCallR 0 2 (g__law_of cE) [] (fCons (fVar 3) fNil))))
    (fSeq (fSet 5 (fShR (fCallR 0 2 (g__law_take cE) [] (fCons (fC (.int 6)) fNil))))
    (fSeq (fIfS (fTest (f2 dEq (fVar 5) (fC (.int 0)))) (fRet (f2 dAdd (f2 dAdd (fCutS (fVar 1) fNoP (fP (fVar 2))) (fVar 4)) (fCutS (fVar 1) (fP (fVar 2)) fNoP))) fsNil)
    (fSeq (fIfS (fTest (f2 dEq (fVar 5) (fC (.int 1)))) (fRet (f2 dAdd (fCutS (fVar 1) fNoP (fP (fVar 2))) (fCutS (fVar 1) (fP (f2 dAdd (fVar 2) (fC (.int 1)))) fNoP))) fsNil)
    (fSeq (fIfS (fTest (f2 dEq (fVar 5) (fC (.int 2)))) (fRet (f2 dAdd (f2 dAdd (fCutS (fVar 1) fNoP (fP (fVar 2))) (fVar 4)) (fCutS (fVar 1) (fP (f2 dAdd (fVar 2) (fC (.int 1)))) fNoP))) fsNil)
    (fSeq (fIfS (fTest (f2 dEq (fVar 5) (fC (.int 3)))) (fSeq (fPar2 7 8 (fCutS (fVar 1) (fP (fVar 2)) (fP (f2 dAdd (fVar 2) (fC (.int 1))))) (fCutS (fVar 1) (fP (f2 dAdd (fVar 2) (fC (.int 1)))) (fP (f2 dAdd (fVar 2) (fC (.int 2))))))
    (fRet (f2 dAdd (f2 dAdd (f2 dAdd (fCutS (fVar 1) fNoP (fP (fVar 2))) (fVar 8)) (fVar 7)) (fCutS (fVar 1) (fP (f2 dAdd (fVar 2) (fC (.int 2)))) fNoP)))) fsNil)
    (fSeq (fSet 6 (fSh (fSplit (fVar 1) (fC (.str " ")))))
    (fSeq (fSet 2 (fShR (fCallR 0 2 (g__law_take cE) [] (fCons (fN gLen (fCons (fVar 6) fNil)) fNil))))
    (fSeq (fIfS (fTest (f2 dEq (fVar 5) (fC (.int 4)))) (fRet (fM1 dJoin (fC (.str " ")) (f2 dAdd (f2 dAdd (fSh (fCutL (fVar 6) fNoP (fP (fVar 2)))) (fN gLst (fCons (f2 dIx (fVar 6) (fVar 2)) fNil))) (fSh (fCutL (fVar 6) (fP (fVar 2)) fNoP))))) fsNil)
    (fRet (fM1 dJoin (fC (.str " ")) (f2 dAdd (fSh (fCutL (fVar 6) fNoP (fP (fVar 2)))) (fSh (fCutL (fVar 6) (fP (f2 dAdd (fVar 2) (fC (.int 1)))) fNoP))))))))))))))))
def g__law_spoiled (cE : Str → Addr) : List Sl → Rs Dr := gOf 9 (f__law_spoiled cE)
theorem ok__law_spoiled (T : Txt K mg) {f : Addr} {fd : FuncData} (F : FunD K "_law_spoiled" "_law_spoiled" (defArgs s__law_spoiled) (defBody s__law_spoiled) (defScope s__law_spoiled) [] [] f fd) (hm : mg "_law_spoiled" = some (.ref f)) (G__law_take : Dfn P w K mg base 1 "_law_take" 2 [] (g__law_take cE)) (G__law_of : Dfn P w K mg base 2 "_law_of" 2 [] (g__law_of cE)) : Dfn P w K mg base 3 "_law_spoiled" 2 [] (g__law_spoiled cE) :=
  ⟨f, fd, _, [], [], def_ok (k := 2) (fb := f__law_spoiled cE) F sc__law_spoiled (fun cdv A outer s H E B =>
    (dss_cons (ds_set (i := 2) B (DX.de (dx_callR (i := 0) B G__law_take (by decide) rfl (da_cons (de_add (de_callB call_len vn_len T.n_len (by decide +kernel) (da_cons (de_var (i := 1)) da_nil)) de_int) da_nil))))
    (dss_cons (ds_set (i := 3) B (de_lst (da_cons de_str (da_cons de_str (da_cons de_str (da_cons de_str (da_cons de_str (da_cons de_str (da_cons de_str (da_cons de_str (da_cons de_str (da_cons de_str (da_cons de_str (da_cons de_str (da_cons de_str (da_cons de_str (da_cons de_str (da_cons de_str (da_cons de_str (da_cons de_str (da_cons de_str da_nil)))))))))))))))))))))
    (dss_cons (ds_set (i := 4) B (DX.de (dx_callR (i := 0) B G__law_of (by decide) rfl (da_cons (de_var (i := 3)) da_nil))))
    (dss_cons (ds_set (i := 5) B (DX.de (dx_callR (i := 0) B G__law_take (by decide) rfl (da_cons de_int da_nil))))
    (dss_cons (ds_if (dt_cmp (or_eqD B) v2_eq (de_var (i := 5)) de_int) (dss_one (ds_ret (de_add (de_add (de_cutS (de_var (i := 1)) dp_none (dp_some (de_var (i := 2)))) (de_var (i := 4))) (de_cutS (de_var (i := 1)) (dp_some (de_var (i := 2))) dp_none)))) dss_nil)
    (dss_cons (ds_if (dt_cmp (or_eqD B) v2_eq (de_var (i := 5)) de_int) (dss_one (ds_ret (de_add (de_cutS (de_var (i := 1)) dp_none (dp_some (de_var (i := 2)))) (de_cutS (de_var (i := 1)) (dp_some (de_add (de_var (i := 2)) de_int)) dp_none)))) dss_nil)
    (dss_cons (ds_if (dt_cmp (or_eqD B) v2_eq (de_var (i := 5)) de_int) (dss_one (ds_ret (de_add (de_add (de_cutS (de_var (i := 1)) dp_none (dp_some (de_var (i := 2)))) (de_var (i := 4))) (de_cutS (de_var (i := 1)) (dp_some (de_add (de_var (i := 2)) de_int)) dp_none)))) dss_nil)
    (dss_cons (ds_if (dt_cmp (or_eqD B) v2_eq (de_var (i := 5)) de_int) (dss_cons (ds_par2 (i := 7) (j := 8) B (de_cutS (de_var (i := 1)) (dp_some (de_var (i := 2))) (dp_some (de_add (de_var (i := 2)) de_int))) (de_cutS (de_var (i := 1)) (dp_some (de_add (de_var (i := 2)) de_int)) (dp_some (de_add (de_var (i := 2)) de_int))))
    (dss_one (ds_ret (de_add (de_add (de_add (de_cutS (de_var (i := 1)) dp_none (dp_some (de_var (i := 2)))) (de_var (i := 8))) (de_var (i := 7))) (de_cutS (de_var (i := 1)) (dp_some (de_add (de_var (i := 2)) de_int)) dp_none))))) dss_nil)
    (dss_cons (ds_set (i := 6) B (DF.de (df_split (de_var (i := 1)) de_str)))
    (dss_cons (ds_set (i := 2) B (DX.de (dx_callR (i := 0) B G__law_take (by decide) rfl (da_cons (de_callB call_len vn_len T.n_len (by decide +kernel) (da_cons (de_var (i := 6)) da_nil)) da_nil))))
    (dss_cons (ds_if (dt_cmp (or_eqD B) v2_eq (de_var (i := 5)) de_int) (dss_one (ds_ret (de_join de_str (de_add (de_add (DF.de (df_cut (de_var (i := 6)) dp_none (dp_some (de_var (i := 2))))) (de_lst (da_cons (de_item (de_var (i := 6)) (de_var (i := 2))) da_nil))) (DF.de (df_cut (de_var (i := 6)) (dp_some (de_var (i := 2))) dp_none)))))) dss_nil)
    (dss_one (ds_ret (de_join de_str (de_add (DF.de (df_cut (de_var (i := 6)) dp_none (dp_some (de_var (i := 2))))) (DF.de (df_cut (de_var (i := 6)) (dp_some (de_add (de_var (i := 2)) de_int)) dp_none)))))))))))))))))), hm, F.kp, F.bindsN (fun _ _ _ _ _ _ us hl => match us, hl with | [_, _], _ => rfl), .nil, fun _ => .nil⟩
abbrev s__law_history : Stmt := top 12
abbrev N__law_history : List Str := ["_law_bag_here", "_law_many", "_law_found", "_law_k", "_law_name"]
theorem sc__law_history : FnScope N__law_history ["_law_bag_here", "_law_many"] (defScope s__law_history) := ⟨rfl, rfl, rfl, by decide +kernel, rfl, by decide +kernel, by decide +kernel⟩
def f__law_history (cE : Str → Addr) : Ev → Rs Fl :=
    (fSeq (fSetO 2 (fLst fNil))
    (fSeq (fFor (fiR1 (fCons (fVar 1) fNil)) (gNm 3)
    (fSeq (fSet 4 (f2 dAdd (f2 dAdd (fShR (fCallR 0 2 (g__law_of cE) [] (fCons (fN gLst (fCons (fC (.str "step")) (fCons (fC (.str "kill")) (fCons (fC (.str "fail")) (fCons (fC (.str "repeat")) (fCons (fC (.str "lose")) fNil)))))) fNil))) (fC (.str " "))) (fN gStrB (fCons (fShR (fCallR 0 2 (g__law_take cE) [] (fCons (fC (.int 5)) fNil))) fNil))))
    (fExp (fOM 2 gApp (fCons (fShR (fCallR 0 2 (g__law_of cE) [] (fCons (fN gLst (fCons (fVar 4) (fCons (fVar 4) (fCons (fC (.str "lapse")) (fCons (fC (.str "watch")) (fCons (fC (.str "start")) (fCons (fC (.str "off")) (fCons (fC (.str "on")) fNil)))))))) fNil))) fNil)))))
    (fRetO 2)))
def g__law_history (cE : Str → Addr) : List Sl → Rs Dr := gOf 5 (f__law_history cE)
theorem ok__law_history (T : Txt K mg) {f : Addr} {fd : FuncData} (F : FunD K "_law_history" "_law_history" (defArgs s__law_history) (defBody s__law_history) (defScope s__law_history) [] [] f fd) (hm : mg "_law_history" = some (.ref f)) (G__law_of : Dfn P w K mg base 2 "_law_of" 2 [] (g__law_of cE)) (G__law_take : Dfn P w K mg base 1 "_law_take" 2 [] (g__law_take cE)) : Dfn P w K mg base 3 "_law_history" 2 [] (g__law_history cE) :=
  ⟨f, fd, _, [], [], def_ok (k := 2) (fb := f__law_history cE) F sc__law_history (fun cdv A outer s H E B =>
    (dss_cons (ds_setO (i := 2) B (df_lst da_nil))
    (dss_cons (ds_for B (di_range1 T.n_range (da_cons (de_var (i := 1)) da_nil)) (dg_name B.nd (i := 3))
    (dss_cons (ds_set (i := 4) B (de_add (de_add (DX.de (dx_callR (i := 0) B G__law_of (by decide) rfl (da_cons (de_lst (da_cons de_str (da_cons de_str (da_cons de_str (da_cons de_str (da_cons de_str da_nil)))))) da_nil))) de_str) (de_callTy call_strB vn_strB T.n_str (by decide +kernel) (da_cons (DX.de (dx_callR (i := 0) B G__law_take (by decide) rfl (da_cons de_int da_nil))) da_nil))))
    (dss_one (ds_expr (de_own (i := 2) PySem.F.slot_list_append PySem.F.type_list_append mt_append om_append rfl (da_cons (DX.de (dx_callR (i := 0) B G__law_of (by decide) rfl (da_cons (de_lst (da_cons (de_var (i := 4)) (da_cons (de_var (i := 4)) (da_cons de_str (da_cons de_str (da_cons de_str (da_cons de_str (da_cons de_str da_nil)))))))) da_nil))) da_nil))))))
    (dss_one (ds_retO (i := 2) rfl))))), hm, F.kp, F.bindsN (fun _ _ _ _ _ _ us hl => match us, hl with | [_, _], _ => rfl), .nil, fun _ => .nil⟩
abbrev s_read_move : Stmt := top 5
abbrev N_read_move : List Str := ["text", "word", "blank", "figure"]
theorem sc_read_move : FnScope N_read_move ["text"] (defScope s_read_move) := ⟨rfl, rfl, rfl, by decide +kernel, rfl, by decide +kernel, by decide +kernel⟩
def f_read_move (cE : Str → Addr) : Ev → Rs Fl :=
    (fSeq (fAsg (fM1 dPart (fVar 0) (fC (.str " "))) (gTp (gsCons (gNm 1) (gsCons (gNm 2) (gsCons (gNm 3) gsNil)))))
    (fSeq (fIfS (fTest (f2 dEq (fVar 2) (fC (.str "")))) (fRet (fIf (fTest (f2 dIn (fVar 1) (fC (.tup c_PLAIN)))) (fN gTup (fCons (fVar 1) fNil)) (fC .non))) fsNil)
    (fSeq (fIfS (fOr (fTest (f2 dNotIn (fVar 1) (fC (.tup c_PLACED)))) (fOr (fTest (f2 dNe (fN gLen (fCons (fVar 3) fNil)) (fC (.int 1)))) (fTest (f2 dNotIn (fVar 3) (fC (.str "01234")))))) (fRet (fC .non)) fsNil)
    (fRet (fN gTup (fCons (fVar 1) (fCons (fN gIntS (fCons (fVar 3) fNil)) fNil)))))))
def g_read_move (cE : Str → Addr) : List Sl → Rs Dr := gOf 4 (f_read_move cE)
theorem ok_read_move (T : Txt K mg) {f : Addr} {fd : FuncData} (F : FunD K "read_move" "read_move" (defArgs s_read_move) (defBody s_read_move) (defScope s_read_move) [] [] f fd) (hm : mg "read_move" = some (.ref f))  : Dfn P w K mg base 1 "read_move" 1 [] (g_read_move cE) :=
  ⟨f, fd, _, [], [], def_ok (k := 0) (fb := f_read_move cE) F sc_read_move (fun cdv A outer s H E B =>
    (dss_cons (ds_asg (de_partition (de_var (i := 0)) de_str) (dg_tup B.hc (dgs_cons (dg_name B.nd (i := 1)) (dgs_cons (dg_name B.nd (i := 2)) (dgs_cons (dg_name B.nd (i := 3)) dgs_nil))) (hl := (gs_lenS (gs_lenS (gs_lenS (fun _ _ _ h => gs_len0 h)))))))
    (dss_cons (ds_if (dt_cmp (or_eqD B) v2_eq (de_var (i := 2)) de_str) (dss_one (ds_ret (de_if (dt_cmp (or_in B) v2_in (de_var (i := 1)) (de_globT T.c_PLAIN)) (de_tup (da_cons (de_var (i := 1)) da_nil)) de_non))) dss_nil)
    (dss_cons (ds_if (PW.pt (dw_or (dt_cmp (or_notIn B) v2_notIn (de_var (i := 1)) (de_globT T.c_PLACED)) (dw_or (dt_cmp (or_neD B) v2_ne (de_callB call_len vn_len T.n_len (by decide +kernel) (da_cons (de_var (i := 3)) da_nil)) de_int) (dw_or1 (dt_cmp (or_notIn B) v2_notIn (de_var (i := 3)) de_str))))) (dss_one (ds_ret de_non)) dss_nil)
    (dss_one (ds_ret (de_tup (da_cons (de_var (i := 1)) (da_cons (de_callTy call_int_str vn_intS T.n_int (by decide +kernel) (da_cons (de_var (i := 3)) da_nil)) da_nil))))))))), hm, F.kp, F.bindsN (fun _ _ _ _ _ _ us hl => match us, hl with | [_], _ => rfl), .nil, fun _ => .nil⟩
abbrev s_read_history : Stmt := top 6
abbrev N_read_history : List Str := ["text", "found", "part"]
theorem sc_read_history : FnScope N_read_history ["text"] (defScope s_read_history) := ⟨rfl, rfl, rfl, by decide +kernel, rfl, by decide +kernel, by decide +kernel⟩
def f_read_history (cE : Str → Addr) : Ev → Rs Fl :=
    (fSeq (fIfS (fNot (fTest (fN gIsi (fCons (fVar 0) (fCons (fC (.ty "str")) fNil))))) (fRaise (cE "BadText") "text" (fVar 0)) fsNil)
    (fSeq (fIfS (fTest (f2 dEq (fVar 0) (fC (.str "-")))) (fun env => ((fLst fNil) env).bind fun e ds => .ok e (.rt (.fr ds))) fsNil)
    (fSeq (fSetO 1 (fLc (([("part", 2)] : List (Str × Nat)).map (·.2)) (fiL (fSh (fSplit (fVar 0) (fC (.str ", "))))) (gNm 2) fYes (fShR (fCall 1 (g_read_move cE) [] (fCons (fVar 2) fNil)))))
    (fSeq (fIfS (fBorT (fTest (f2 dIn (fC .non) (fVar 1)))) (fRaise (cE "BadText") "text" (fVar 0)) fsNil)
    (fRetO 1)))))
def g_read_history (cE : Str → Addr) : List Sl → Rs Dr := gOf 3 (f_read_history cE)
theorem ok_read_history (T : Txt K mg) {f : Addr} {fd : FuncData} (F : FunD K "read_history" "read_history" (defArgs s_read_history) (defBody s_read_history) (defScope s_read_history) [] [] f fd) (hm : mg "read_history" = some (.ref f)) (G_read_move : Dfn P w K mg base 1 "read_move" 1 [] (g_read_move cE)) (R_BadText : ErrD P w K mg base "BadText" "text" (cE "BadText")) : Dfn P w K mg base 3 "read_history" 1 [] (g_read_history cE) :=
  ⟨f, fd, _, [], [], def_ok (k := 2) (fb := f_read_history cE) F sc_read_history (fun cdv A outer s H E B =>
    (dss_cons (ds_if (dt_not (dt_val (de_callB call_isi vn_isi T.n_isinstance (by decide +kernel) (da_cons (de_var (i := 0)) (da_cons (de_ty T.n_str (by decide +kernel)) da_nil))))) (dss_one (ds_raise B R_BadText (by decide) (de_var (i := 0)))) dss_nil)
    (dss_cons (ds_if (dt_cmp (or_eqD B) v2_eq (de_var (i := 0)) de_str) (dss_one (ds_retF (df_lst da_nil))) dss_nil)
    (dss_cons (ds_setLcO (i := 1) B (di_list (DF.de (df_split (de_var (i := 0)) de_str))) (blkOk_by (own := [("part", 2)]) (N := N_read_history) (sc := defScope s_read_history) (by decide +kernel)) (by decide) (fun _ _ _ _ _ => (dg_name B.blk.nd (i := 2))) (fun _ _ _ _ _ => dts_nil) (fun _ _ _ _ _ => (DX.de (dx_call B.blk G_read_move (by decide) (da_cons (de_var (i := 2)) da_nil)))) (sw_true rfl rfl rfl (by decide +kernel)))
    (dss_cons (ds_if (dt_bor (dt_cmp (or_in B) v2_in de_non (de_var (i := 1)))) (dss_one (ds_raise B R_BadText (by decide) (de_var (i := 0)))) dss_nil)
    (dss_one (ds_retO (i := 1) rfl))))))), hm, F.kp, F.bindsN (fun _ _ _ _ _ _ us hl => match us, hl with | [_], _ => rfl), .nil, fun _ => .nil⟩
abbrev s__law_due : Stmt := top 13
abbrev N__law_due : List Str := ["_law_text", "_law_found", "_law_part", "_law_words"]
theorem sc__law_due : FnScope N__law_due ["_law_text"] (defScope s__law_due) := ⟨rfl, rfl, rfl, by decide +kernel, rfl, by decide +kernel, by decide +kernel⟩
def f__law_due (cE : Str → Addr) : Ev → Rs Fl :=
    (fSeq (fIfS (fTest (f2 dEq (fVar 0) (fC (.str "-")))) (fRet (fN gLst fNil)) fsNil)
    (fSeq (fSetO 1 (fLst fNil))
    (fSeq (fFor (fiL (fSh (fSplit (fVar 0) (fC (.str ", "))))) (gNm 2)
    (fSeq (fSet 3 (fSh (fSplit (fVar 2) (fC (.str " ")))))
    (fIfS (fAnd (fTest (f2 dEq (fN gLen (fCons (fVar 3) fNil)) (fC (.int 1)))) (fTest (f2 dIn (f2 dIx (fVar 3) (fC (.int 0))) (fN gLst (fCons (fC (.str "lapse")) (fCons (fC (.str "watch")) (fCons (fC (.str "start")) (fCons (fC (.str "off")) (fCons (fC (.str "on")) fNil))))))))) (fExp (fOM 1 gApp (fCons (fN gTup (fCons (f2 dIx (fVar 3) (fC (.int 0))) fNil)) fNil))) (fIfS (fAnd (fTest (f2 dEq (fN gLen (fCons (fVar 3) fNil)) (fC (.int 2)))) (fTest (f2 dIn (f2 dIx (fVar 3) (fC (.int 0))) (fN gLst (fCons (fC (.str "step")) (fCons (fC (.str "kill")) (fCons (fC (.str "fail")) (fCons (fC (.str "repeat")) (fCons (fC (.str "lose")) fNil))))))))) (fSeq (fIfS (fTest (f2 dNotIn (f2 dIx (fVar 3) (fC (.int 1))) (fN gLst (fCons (fC (.str "0")) (fCons (fC (.str "1")) (fCons (fC (.str "2")) (fCons (fC (.str "3")) (fCons (fC (.str "4")) fNil)))))))) (fRet (fN gTup (fCons (fVar 0) fNil))) fsNil)
    (fExp (fOM 1 gApp (fCons (fN gTup (fCons (f2 dIx (fVar 3) (fC (.int 0))) (fCons (fN gIntS (fCons (f2 dIx (fVar 3) (fC (.int 1))) fNil)) fNil))) fNil)))) (fRet (fN gTup (fCons (fVar 0) fNil)))))))
    (fRetO 1))))
def g__law_due (cE : Str → Addr) : List Sl → Rs Dr := gOf 4 (f__law_due cE)
theorem ok__law_due (T : Txt K mg) {f : Addr} {fd : FuncData} (F : FunD K "_law_due" "_law_due" (defArgs s__law_due) (defBody s__law_due) (defScope s__law_due) [] [] f fd) (hm : mg "_law_due" = some (.ref f))  : Dfn P w K mg base 1 "_law_due" 1 [] (g__law_due cE) :=
  ⟨f, fd, _, [], [], def_ok (k := 0) (fb := f__law_due cE) F sc__law_due (fun cdv A outer s H E B =>
    (dss_cons (ds_if (dt_cmp (or_eqD B) v2_eq (de_var (i := 0)) de_str) (dss_one (ds_ret (de_lst da_nil))) dss_nil)
    (dss_cons (ds_setO (i := 1) B (df_lst da_nil))
    (dss_cons (ds_for B (di_list (DF.de (df_split (de_var (i := 0)) de_str))) (dg_name B.nd (i := 2))
    (dss_cons (ds_set (i := 3) B (DF.de (df_split (de_var (i := 2)) de_str)))
    (dss_one (ds_if (PW.pt (dw_and (dt_cmp (or_eqD B) v2_eq (de_callB call_len vn_len T.n_len (by decide +kernel) (da_cons (de_var (i := 3)) da_nil)) de_int) (dw_and1 (dt_cmp (or_in B) v2_in (de_item (de_var (i := 3)) de_int) (de_lst (da_cons de_str (da_cons de_str (da_cons de_str (da_cons de_str (da_cons de_str da_nil)))))))))) (dss_one (ds_expr (de_own (i := 1) PySem.F.slot_list_append PySem.F.type_list_append mt_append om_append rfl (da_cons (de_tup (da_cons (de_item (de_var (i := 3)) de_int) da_nil)) da_nil)))) (dss_one (ds_if (PW.pt (dw_and (dt_cmp (or_eqD B) v2_eq (de_callB call_len vn_len T.n_len (by decide +kernel) (da_cons (de_var (i := 3)) da_nil)) de_int) (dw_and1 (dt_cmp (or_in B) v2_in (de_item (de_var (i := 3)) de_int) (de_lst (da_cons de_str (da_cons de_str (da_cons de_str (da_cons de_str (da_cons de_str da_nil)))))))))) (dss_cons (ds_if (dt_cmp (or_notIn B) v2_notIn (de_item (de_var (i := 3)) de_int) (de_lst (da_cons de_str (da_cons de_str (da_cons de_str (da_cons de_str (da_cons de_str da_nil))))))) (dss_one (ds_ret (de_tup (da_cons (de_var (i := 0)) da_nil)))) dss_nil)
    (dss_one (ds_expr (de_own (i := 1) PySem.F.slot_list_append PySem.F.type_list_append mt_append om_append rfl (da_cons (de_tup (da_cons (de_item (de_var (i := 3)) de_int) (da_cons (de_callTy call_int_str vn_intS T.n_int (by decide +kernel) (da_cons (de_item (de_var (i := 3)) de_int) da_nil)) da_nil))) da_nil))))) (dss_one (ds_ret (de_tup (da_cons (de_var (i := 0)) da_nil))))))))))
    (dss_one (ds_retO (i := 1) rfl)))))), hm, F.kp, F.bindsN (fun _ _ _ _ _ _ us hl => match us, hl with | [_], _ => rfl), .nil, fun _ => .nil⟩
abbrev s__law_told : Stmt := top 14
abbrev N__law_told : List Str := ["_law_thing", "e", "_law_told_here"]
theorem sc__law_told : FnScope N__law_told ["_law_thing"] (defScope s__law_told) := ⟨rfl, rfl, rfl, by decide +kernel, rfl, by decide +kernel, by decide +kernel⟩
def f__law_told (cE : Str → Addr) : Ev → Rs Fl :=
    (fSeq (fTry [((cE "BadText"), true)] 1 "text" (fSet 2 (fShR (fCall 1 (g_read_history cE) [] (fCons (fVar 0) fNil)))) (fun d => (fRet (fN gTup (fCons (fC d) fNil)))))
    (fRet (fVar 2)))
def g__law_told (cE : Str → Addr) : List Sl → Rs Dr := gOf 3 (f__law_told cE)
theorem ok__law_told (T : Txt K mg) {f : Addr} {fd : FuncData} (F : FunD K "_law_told" "_law_told" (defArgs s__law_told) (defBody s__law_told) (defScope s__law_told) [] [] f fd) (hm : mg "_law_told" = some (.ref f)) (G_read_history : Dfn P w K mg base 3 "read_history" 1 [] (g_read_history cE)) (R_BadText : ErrD P w K mg base "BadText" "text" (cE "BadText")) (M_BadText_BadText : PySem.W.exmOne K (.ref (cE "BadText")) (.ref (cE "BadText")) = some true) : Dfn P w K mg base 4 "_law_told" 1 [] (g__law_told cE) :=
  ⟨f, fd, _, [], [], def_ok (k := 3) (fb := f__law_told cE) F sc__law_told (fun cdv A outer s H E B =>
    (dss_cons (ds_tryAs (i := 1) B (cs_hit M_BadText_BadText cs_nil) ⟨rfl, by decide, .inl R_BadText.gC⟩ (fun _ _ _ B => (dss_one (ds_set (i := 2) B (DX.de (dx_call B G_read_history (by decide) (da_cons (de_var (i := 0)) da_nil)))))) (fun a dd oe pn v d hz hf => dssg_one (dsg_ret (deg_tup (dag_cons (deg_fld (i := 1) R_BadText.xf R_BadText.no hz hf) dag_nil)))))
    (dss_one (ds_ret (de_var (i := 2)))))), hm, F.kp, F.bindsN (fun _ _ _ _ _ _ us hl => match us, hl with | [_], _ => rfl), .nil, fun _ => .nil⟩
abbrev s_law : Stmt := top 15
abbrev N_law : List Str := ["_law_script", "_law_at", "_law_bag_here", "_law_words", "_law_text", "_law_turn", "_law_odd", "_law_told_here"]
theorem sc_law : FnScope N_law ["_law_script"] (defScope s_law) := ⟨rfl, rfl, rfl, by decide +kernel, rfl, by decide +kernel, by decide +kernel⟩
def f_law (cE : Str → Addr) : Ev → Rs Fl :=
    (fSeq (fFor (fiR1 (fCons (fN gMax (fCons (fC (.int 1)) (fCons (fN gMin (fCons (fC (.int 10)) (fCons (fN gLen (fCons (fVar 0) fNil)) fNil))) fNil))) fNil)) (gNm 1)
    (fSeq (fSetO 2 (fFrR (fCall 2 (g__law_bag cE) [] (fCons (fVar 0) (fCons (fVar 1) fNil)))))
    (fSeq (fSet 3 (fShR (fCallR 2 2 (g__law_history cE) [] (fCons (f2 dAdd (fC (.int 1)) (fShR (fCallR 2 2 (g__law_take cE) [] (fCons (fC (.int 6)) fNil)))) fNil))))
    (fSeq (fSet 4 (fM1 dJoin (fC (.str ", ")) (fVar 3)))
    (fSeq (fFor (fiR1 (fCons (fShR (fCallR 2 2 (g__law_of cE) [] (fCons (fN gLst (fCons (fC (.int 1)) (fCons (fC (.int 1)) (fCons (fC (.int 2)) (fCons (fC (.int 3)) (fCons (fC (.int 0)) fNil)))))) fNil))) fNil)) (gNm 5)
    (fSet 4 (fShR (fCallR 2 2 (g__law_spoiled cE) [] (fCons (fVar 4) fNil)))))
    (fSeq (fIfS (fTest (f2 dNe (fShR (fCall 1 (g__law_told cE) [] (fCons (fVar 4) fNil))) (fShR (fCall 1 (g__law_due cE) [] (fCons (fVar 4) fNil))))) (fRet (fC (.bl false))) fsNil)
    (fSeq (fSet 6 (fShR (fCallR 2 2 (g__law_of cE) [] (fCons (fN gLst (fCons (fC .non) (fCons (fC (.bl true)) (fCons (fC (.int 0)) (fCons (fN gTup fNil) (fCons (fN gLst (fCons (fC (.str "step 0")) fNil)) (fCons (fN gTup (fCons (fC (.str "on")) fNil)) (fCons (fC (.str "")) (fCons (fC (.str "step 5")) (fCons (fC (.str "step 00")) (fCons (fC (.str "step")) (fCons (fC (.str "on 0")) (fCons (fC (.str "-, on")) (fCons (fC (.str "step 0,on")) (fCons (fC (.str "step -1")) (fCons (fC (.str "step 0, ")) (fCons (fC (.str " ")) (fCons (fC (.str "--")) (fCons (fN gLst (fCons (fN gTup (fCons (fC (.str "step")) (fCons (fC (.int 0)) fNil))) fNil)) fNil))))))))))))))))))) fNil))))
    (fSeq (fSet 7 (fShR (fCall 1 (g__law_told cE) [] (fCons (fVar 6) fNil))))
    (fIfS (fOr (fTest (f2 dNe (fVar 7) (fN gTup (fCons (fVar 6) fNil)))) (fTest (f2 dNe (fN gIsi (fCons (f2 dIx (fVar 7) (fC (.int 0))) (fCons (fC (.ty "bool")) fNil))) (fN gIsi (fCons (fVar 6) (fCons (fC (.ty "bool")) fNil)))))) (fRet (fC (.bl false))) fsNil)))))))))
    (fRet (fC (.bl true))))
def g_law (cE : Str → Addr) : List Sl → Rs Dr := gOf 8 (f_law cE)
theorem fn_law (T : Txt K mg) {f : Addr} {fd : FuncData} (F : FunD K "law" "law" (defArgs s_law) (defBody s_law) (defScope s_law) [] [] f fd) (G__law_bag : Dfn P w K mg base 1 "_law_bag" 2 [] (g__law_bag cE)) (G__law_history : Dfn P w K mg base 3 "_law_history" 2 [] (g__law_history cE)) (G__law_take : Dfn P w K mg base 1 "_law_take" 2 [] (g__law_take cE)) (G__law_of : Dfn P w K mg base 2 "_law_of" 2 [] (g__law_of cE)) (G__law_spoiled : Dfn P w K mg base 3 "_law_spoiled" 2 [] (g__law_spoiled cE)) (G__law_told : Dfn P w K mg base 4 "_law_told" 1 [] (g__law_told cE)) (G__law_due : Dfn P w K mg base 1 "_law_due" 1 [] (g__law_due cE)) : FnOk P w K mg base (L2.CX P w) 5 f fd ["_law_script"] (spD K 1 (g_law cE)) := by
  have h := def_ok (P := P) (w := w) (mg := mg) (base := base) (k := 4) (fb := f_law cE) F sc_law (fun cdv A outer s H E B =>
    (dss_cons (ds_for B (di_range1 T.n_range (da_cons (de_callB (call_max2 B.hc) vn_max T.n_max (by decide +kernel) (da_cons de_int (da_cons (de_callB (call_min2 B.hc) vn_min T.n_min (by decide +kernel) (da_cons de_int (da_cons (de_callB call_len vn_len T.n_len (by decide +kernel) (da_cons (de_var (i := 0)) da_nil)) da_nil))) da_nil))) da_nil)) (dg_name B.nd (i := 1))
    (dss_cons (ds_setO (i := 2) B (DX.df (dx_call B G__law_bag (by decide) (da_cons (de_var (i := 0)) (da_cons (de_var (i := 1)) da_nil)))))
    (dss_cons (ds_set (i := 3) B (DX.de (dx_callR (i := 2) B G__law_history (by decide) rfl (da_cons (de_add de_int (DX.de (dx_callR (i := 2) B G__law_take (by decide) rfl (da_cons de_int da_nil)))) da_nil))))
    (dss_cons (ds_set (i := 4) B (de_join de_str (de_var (i := 3))))
    (dss_cons (ds_for B (di_range1 T.n_range (da_cons (DX.de (dx_callR (i := 2) B G__law_of (by decide) rfl (da_cons (de_lst (da_cons de_int (da_cons de_int (da_cons de_int (da_cons de_int (da_cons de_int da_nil)))))) da_nil))) da_nil)) (dg_name B.nd (i := 5))
    (dss_one (ds_set (i := 4) B (DX.de (dx_callR (i := 2) B G__law_spoiled (by decide) rfl (da_cons (de_var (i := 4)) da_nil))))))
    (dss_cons (ds_if (dt_cmp (or_neD B) v2_ne (DX.de (dx_call B G__law_told (by decide) (da_cons (de_var (i := 4)) da_nil))) (DX.de (dx_call B G__law_due (by decide) (da_cons (de_var (i := 4)) da_nil)))) (dss_one (ds_ret de_bl)) dss_nil)
    (dss_cons (ds_set (i := 6) B (DX.de (dx_callR (i := 2) B G__law_of (by decide) rfl (da_cons (de_lst (da_cons de_non (da_cons de_bl (da_cons de_int (da_cons (de_tup da_nil) (da_cons (de_lst (da_cons de_str da_nil)) (da_cons (de_tup (da_cons de_str da_nil)) (da_cons de_str (da_cons de_str (da_cons de_str (da_cons de_str (da_cons de_str (da_cons de_str (da_cons de_str (da_cons de_str (da_cons de_str (da_cons de_str (da_cons de_str (da_cons (de_lst (da_cons (de_tup (da_cons de_str (da_cons de_int da_nil))) da_nil)) da_nil))))))))))))))))))) da_nil))))
    (dss_cons (ds_set (i := 7) B (DX.de (dx_call B G__law_told (by decide) (da_cons (de_var (i := 6)) da_nil))))
    (dss_one (ds_if (PW.pt (dw_or (dt_cmp (or_neD B) v2_ne (de_var (i := 7)) (de_tup (da_cons (de_var (i := 6)) da_nil))) (dw_or1 (dt_cmp (or_neD B) v2_ne (de_callB call_isi vn_isi T.n_isinstance (by decide +kernel) (da_cons (de_item (de_var (i := 7)) de_int) (da_cons (de_ty T.n_bool (by decide +kernel)) da_nil))) (de_callB call_isi vn_isi T.n_isinstance (by decide +kernel) (da_cons (de_var (i := 6)) (da_cons (de_ty T.n_bool (by decide +kernel)) da_nil))))))) (dss_one (ds_ret de_bl)) dss_nil))))))))))
    (dss_one (ds_ret de_bl))))
  exact h
end
end K20

end

section
set_option Elab.async false
set_option linter.all false
set_option maxRecDepth 100000
set_option maxHeartbeats 0
namespace K20
open PySem L2 DL
def d__law_bag : He.DefD := ⟨("_law_bag", none), "_law_bag", "_law_bag", defArgs s__law_bag, defBody s__law_bag, defScope s__law_bag, [], []⟩
def d__law_take : He.DefD := ⟨("_law_take", none), "_law_take", "_law_take", defArgs s__law_take, defBody s__law_take, defScope s__law_take, [], []⟩
def d__law_of : He.DefD := ⟨("_law_of", none), "_law_of", "_law_of", defArgs s__law_of, defBody s__law_of, defScope s__law_of, [], []⟩
def d__law_spoiled : He.DefD := ⟨("_law_spoiled", none), "_law_spoiled", "_law_spoiled", defArgs s__law_spoiled, defBody s__law_spoiled, defScope s__law_spoiled, [], []⟩
def d__law_history : He.DefD := ⟨("_law_history", none), "_law_history", "_law_history", defArgs s__law_history, defBody s__law_history, defScope s__law_history, [], []⟩
def d_read_move : He.DefD := ⟨("read_move", none), "read_move", "read_move", defArgs s_read_move, defBody s_read_move, defScope s_read_move, [], []⟩
def d_read_history : He.DefD := ⟨("read_history", none), "read_history", "read_history", defArgs s_read_history, defBody s_read_history, defScope s_read_history, [], []⟩
def d__law_due : He.DefD := ⟨("_law_due", none), "_law_due", "_law_due", defArgs s__law_due, defBody s__law_due, defScope s__law_due, [], []⟩
def d__law_told : He.DefD := ⟨("_law_told", none), "_law_told", "_law_told", defArgs s__law_told, defBody s__law_told, defScope s__law_told, [], []⟩
def d_law : He.DefD := ⟨("law", none), "law", "law", defArgs s_law, defBody s_law, defScope s_law, [], []⟩
abbrev i_BadText : Stmt := inC (top 1) 0
def d_BadText_init : He.DefD := ⟨("BadText", some "__init__"), "__init__", "BadText.__init__", defArgs i_BadText, defBody i_BadText, defScope i_BadText, [], []⟩
def fn : List He.DefD := [d__law_bag, d__law_take, d__law_of, d__law_spoiled, d__law_history, d_read_move, d_read_history, d__law_due, d__law_told, d_law, d_BadText_init]
def fa : List He.Fa := [.glo "_law_bag", .glo "_law_take", .glo "_law_of", .glo "_law_spoiled", .glo "_law_history", .glo "read_move", .glo "read_history", .glo "_law_due", .glo "_law_told", .glo "law", .free "abs", .free "bool", .free "enumerate", .free "int", .free "isinstance", .free "len", .free "max", .free "min", .free "range", .free "str", .glo "BadText", .meth "BadText" "__init__", .noat "BadText" "text", .exm "BadText" "BadText" true]
def chk (K : Frag) : Bool := (fa.all fun f => f.ok K) && (tupM K "PLACED" [.str "step", .str "kill", .str "fail", .str "repeat", .str "lose"] && (tupM K "PLAIN" [.str "lapse", .str "watch", .str "start", .str "off", .str "on"] && (oexB K (He.ga K "BadText") && (xfB K (He.ga K "BadText") && true))))
abbrev R : PySem.W.OpenRow := PySem.W.OpenLaw.row PySem.Challenge.rw_selfchains_k20_texts_of_histories_refuse
abbrev hk : PySem.W.Hook := hookM 4 chk fn
def ob (s : PySem.W.SharedT) : He.AlD := obsMG 4 chk fn (HandSHeadRun.getT s)
theorem ob_eq (s : PySem.W.SharedT) : ob s = hk.obs s.abs := obsMG_eq (HandSHeadRun.getT_eq s)
def loose : List Str := (PySem.Challenge.pw_selfchains_k20_texts_of_histories_refuse.main.scope.names.map (·.1)).filter fun x => !(x == ("law" : Str))
theorem run_false (w : World) : HandSHeadRun.RunEq R (PySem.W.view R.prog [15]) hk ob 20000 loose (w.withFollow "special-get-raises" false) := by
  intro os
  kernel_rfl
theorem run_true (w : World) : HandSHeadRun.RunEq R (PySem.W.view R.prog [15]) hk ob 20000 loose (w.withFollow "special-get-raises" true) := by
  intro os
  kernel_rfl
theorem run (w : World) : HandSHeadRun.RunEq R (PySem.W.view R.prog [15]) hk ob 20000 loose w := PySem.W.byRow2 "special-get-raises" (P := fun w => HandSHeadRun.RunEq R (PySem.W.view R.prog [15]) hk ob 20000 loose w) run_false run_true w
theorem facts {P : Program} {w : World} {K : Frag} {h : Heap} {mg : Str → Option Value} {f : Addr} (X : K.In h) (G : h.Ns mainGlobals mg) (hfa : mg ("law" : Str) = some (.ref f)) (c : SaysM chk fn K) :
    ∃ fd : FuncData, (∀ (s : Shared) (v : Value), BindsTo s fd ⟨[v], []⟩ [("_law_script", v)]) ∧ ∀ base : Heap, K.In base → base.Ns mainGlobals mg → FnOk P w K mg base (L2.CX P w) 5 f fd ["_law_script"] (spD K 1 (g_law (He.ga K))) := by
  have ck : chk K = true := c.chk
  unfold chk at ck
  obtain ⟨ca, cb⟩ := He.ba ck
  have fact : ∀ (i : Nat) {f : He.Fa}, fa[i]? = some f → f.ok K = true := fun i f h => List.all_eq_true.mp ca f (List.mem_of_getElem? h)
  have T : Txt K mg := { n_abs := He.free_ok X G (fact 10 (f := .free "abs") rfl), n_bool := He.free_ok X G (fact 11 (f := .free "bool") rfl), n_enumerate := He.free_ok X G (fact 12 (f := .free "enumerate") rfl), n_int := He.free_ok X G (fact 13 (f := .free "int") rfl), n_isinstance := He.free_ok X G (fact 14 (f := .free "isinstance") rfl), n_len := He.free_ok X G (fact 15 (f := .free "len") rfl), n_max := He.free_ok X G (fact 16 (f := .free "max") rfl), n_min := He.free_ok X G (fact 17 (f := .free "min") rfl), n_range := He.free_ok X G (fact 18 (f := .free "range") rfl), n_str := He.free_ok X G (fact 19 (f := .free "str") rfl), c_PLACED := tupM_ok X G (He.ba cb).1, c_PLAIN := tupM_ok X G (He.ba (He.ba cb).2).1 }
  obtain ⟨fd__law_bag, F__law_bag⟩ := c.def_ 0 (d := d__law_bag) rfl
  obtain ⟨fd__law_take, F__law_take⟩ := c.def_ 1 (d := d__law_take) rfl
  obtain ⟨fd__law_of, F__law_of⟩ := c.def_ 2 (d := d__law_of) rfl
  obtain ⟨fd__law_spoiled, F__law_spoiled⟩ := c.def_ 3 (d := d__law_spoiled) rfl
  obtain ⟨fd__law_history, F__law_history⟩ := c.def_ 4 (d := d__law_history) rfl
  obtain ⟨fd_read_move, F_read_move⟩ := c.def_ 5 (d := d_read_move) rfl
  obtain ⟨fd_read_history, F_read_history⟩ := c.def_ 6 (d := d_read_history) rfl
  obtain ⟨fd__law_due, F__law_due⟩ := c.def_ 7 (d := d__law_due) rfl
  obtain ⟨fd__law_told, F__law_told⟩ := c.def_ 8 (d := d__law_told) rfl
  obtain ⟨fd_law, F_law⟩ := c.def_ 9 (d := d_law) rfl
  obtain ⟨fd_BadText_init, F_BadText_init⟩ := c.def_ 10 (d := d_BadText_init) rfl
  have e := hfa.symm.trans (He.glo_ok X G (fact 9 (f := .glo "law") rfl))
  cases e
  have b := FunD.bindsA (ps := ["_law_script"]) F_law fun _ _ _ _ _ _ us hl => match us, hl with | [_], _ => rfl
  refine ⟨fd_law, fun s v => b s [v] rfl, fun base _ _ => ?_⟩
  have R_BadText : ErrD P w K mg base "BadText" "text" (He.ga K "BadText") := errD_of (s1 := "text") X G (fact 20 (f := .glo "BadText") rfl) (fact 21 (f := .meth "BadText" "__init__") rfl) (fact 22 (f := .noat "BadText" "text") rfl) (He.ba (He.ba (He.ba cb).2).2).1 (He.ba (He.ba (He.ba (He.ba cb).2).2).2).1 F_BadText_init ⟨rfl, rfl, rfl, by decide +kernel, rfl, by decide +kernel, by decide +kernel⟩ (Or.inl rfl) (Or.inl rfl) (by decide) (by decide) (F_BadText_init.bindsN (fun _ _ _ _ _ _ us hl => match us, hl with | [_, _], _ => rfl))
  have M_BadText_BadText : PySem.W.exmOne K (.ref (He.ga K "BadText")) (.ref (He.ga K "BadText")) = some true := He.exm_ok (fact 23 (f := .exm "BadText" "BadText" true) rfl)
  have G__law_bag : Dfn P w K mg base 1 "_law_bag" 2 [] (g__law_bag (He.ga K)) := ok__law_bag T F__law_bag (He.glo_ok X G (fact 0 (f := .glo "_law_bag") rfl)) 
  have G__law_take : Dfn P w K mg base 1 "_law_take" 2 [] (g__law_take (He.ga K)) := ok__law_take T F__law_take (He.glo_ok X G (fact 1 (f := .glo "_law_take") rfl)) 
  have G__law_of : Dfn P w K mg base 2 "_law_of" 2 [] (g__law_of (He.ga K)) := ok__law_of T F__law_of (He.glo_ok X G (fact 2 (f := .glo "_law_of") rfl)) G__law_take
  have G__law_spoiled : Dfn P w K mg base 3 "_law_spoiled" 2 [] (g__law_spoiled (He.ga K)) := ok__law_spoiled T F__law_spoiled (He.glo_ok X G (fact 3 (f := .glo "_law_spoiled") rfl)) G__law_take G__law_of
  have G__law_history : Dfn P w K mg base 3 "_law_history" 2 [] (g__law_history (He.ga K)) := ok__law_history T F__law_history (He.glo_ok X G (fact 4 (f := .glo "_law_history") rfl)) G__law_of G__law_take
  have G_read_move : Dfn P w K mg base 1 "read_move" 1 [] (g_read_move (He.ga K)) := ok_read_move T F_read_move (He.glo_ok X G (fact 5 (f := .glo "read_move") rfl)) 
  have G_read_history : Dfn P w K mg base 3 "read_history" 1 [] (g_read_history (He.ga K)) := ok_read_history T F_read_history (He.glo_ok X G (fact 6 (f := .glo "read_history") rfl)) G_read_move R_BadText
  have G__law_due : Dfn P w K mg base 1 "_law_due" 1 [] (g__law_due (He.ga K)) := ok__law_due T F__law_due (He.glo_ok X G (fact 7 (f := .glo "_law_due") rfl)) 
  have G__law_told : Dfn P w K mg base 4 "_law_told" 1 [] (g__law_told (He.ga K)) := ok__law_told T F__law_told (He.glo_ok X G (fact 8 (f := .glo "_law_told") rfl)) G_read_history R_BadText M_BadText_BadText
  exact fn_law T F_law G__law_bag G__law_history G__law_take G__law_of G__law_spoiled G__law_told G__law_due
end K20

end

section
set_option Elab.async false
set_option linter.all false
set_option maxRecDepth 100000
set_option maxHeartbeats 2000000
namespace K20
open PySem L2 DL
variable {cE : Str → Addr}
def BagOk (b0 b1 : Int) : Prop := 0 ≤ b0 ∧ 0 ≤ b1 ∧ b1 < 1099511627776
theorem take_ok {b0 b1 m : Int} (h : BagOk b0 b1) (hm : 0 < m) (hm2 : m < 1073741824) : ∃ e b0' b1' r, g__law_take cE [.rf (.lst [.int b0, .int b1]), .sh (.int m)] = .ok (.rf (.lst [.int b0', .int b1']) :: e) (.sh (.int r)) ∧ BagOk b0' b1' ∧ 0 ≤ r ∧ r < m := by
  obtain ⟨h0, h1, h2⟩ := h
  by_cases hb : 0 < b0
  · refine ⟨[.sh (.int m), .sh (.int (b0 % m))], b0 / m, b1, b0 % m, ?_, ⟨Int.ediv_nonneg h0 (by omega), h1, h2⟩, Int.emod_nonneg _ (by omega), Int.emod_lt_of_pos _ hm⟩
    simp [g__law_take, gOf, f__law_take, fSeq, fIfS, fTest, f2, fIxO, fVar, fC, fN, fCons, fNil, ob?, dGt, dI0, atI, ixN, lift, Rs.bind, hb, hm, hm2, dMod, dDiv, dI, fSet, put, free, gInt, fSetIx, putOb, reob, fRet]
  · refine ⟨[.sh (.int m), .un], b0, (b1 * 48271 + 12820163) % 2147483587, ((b1 * 48271 + 12820163) % 2147483587 / 17 * 69697) % 2147483489 / 32 % m, ?_, ⟨h0, Int.emod_nonneg _ (by decide), Int.lt_trans (Int.emod_lt_of_pos _ (by decide)) (by decide)⟩, Int.emod_nonneg _ (by omega), Int.emod_lt_of_pos _ hm⟩
    have pm : ∀ x : Int, pMul x 48271 = true := fun x => decide_eq_true (.inr (by decide))
    have pm2 : ∀ x : Int, pMul x 69697 = true := fun x => decide_eq_true (.inr (by decide))
    simp [g__law_take, gOf, f__law_take, fSeq, fIfS, fTest, f2, fIxO, fVar, fC, fN, fCons, fNil, ob?, dGt, dI0, atI, ixN, lift, Rs.bind, hb, hm, hm2, dMod, dDiv, dI, fSet, put, free, gInt, fSetIx, putOb, reob, fRet, dMul, pm, pm2, dAdd]
theorem of_ok {b0 b1 : Int} {ds : List D} (h : BagOk b0 b1) (hd : 0 < ds.length) (hd2 : ds.length ≤ 1000) : ∃ e b0' b1' d, g__law_of cE [.rf (.lst [.int b0, .int b1]), .sh (.lst ds)] = .ok (.rf (.lst [.int b0', .int b1']) :: e) (.sh d) ∧ BagOk b0' b1' ∧ d ∈ ds := by
  obtain ⟨e, b0', b1', r, h1, h2, h3, h4⟩ := take_ok (cE := cE) (m := (ds.length : Int)) h (by omega) (by omega)
  have hr : r.toNat < ds.length := by omega
  refine ⟨[.sh (.lst ds)], b0', b1', ds[r.toNat], ?_, h2, List.getElem_mem _⟩
  have ha : atI ds r = some ds[r.toNat] := by
    simp [atI, ixN, h3, show r < (ds.length : Int) by omega, hr]
  simp [g__law_of, gOf, f__law_of, fRet, f2, fVar, fShR, fCallR, ob?, fCons, fN, fNil, gLen, itemsD, lift, Rs.bind, h1, backR, putOb, reob, dIx, dIxQ, ha, dIxS]
theorem enum_ints {ns : List Int} {l h : Option Int} {j : Nat} {d : D} (e : (enumD 0 (cutD (ns.map D.int) l h))[j]? = some d) : ∃ v, d = .tup [.int (j : Nat), .int v] := by
  obtain ⟨z, h1, h2⟩ := enumD_get e
  have hz : z ∈ ns.map D.int := List.mem_of_mem_drop (List.mem_of_mem_take (List.mem_of_getElem? h1))
  obtain ⟨v, _, rfl⟩ := List.mem_map.mp hz
  exact ⟨v, by rw [h2, Nat.zero_add]⟩
theorem bag_ok (ns : List Int) {a : Int} (h0 : 0 ≤ a) (ha : a < 1000) : ∃ e b0 b1, g__law_bag cE [.sh (.fz (ns.map .int)), .sh (.int a)] = .ok e (.fr [.int b0, .int b1]) ∧ BagOk b0 b1 := by
  have hnum : ∃ n : Int, fIf (fTest (f2 dLt (fVar 1) (fN gLen (fCons (fVar 0) fNil)))) (f2 dIx (fVar 0) (fVar 1)) (fC (.int 0)) [.sh (.fz (ns.map .int)), .sh (.int a), .un, .un, .un, .un] = .ok [.sh (.fz (ns.map .int)), .sh (.int a), .un, .un, .un, .un] (.int n) := by
    by_cases hl : a < (ns.length : Int)
    · refine ⟨ns[a.toNat]'(by omega), ?_⟩
      have ha : atI (ns.map D.int) a = some (.int (ns[a.toNat]'(by omega))) := by
        simp [atI, ixN, h0, hl, show a.toNat < ns.length by omega]
      simp [fIf, fTest, f2, fVar, fN, fCons, fNil, gLen, itemsD, lift, Rs.bind, dLt, dI0, hl, dIx, dIxQ, ha, dIxS]
    · refine ⟨0, ?_⟩
      simp [fIf, fTest, f2, fVar, fN, fCons, fNil, gLen, itemsD, lift, Rs.bind, dLt, dI0, hl, fC]
  obtain ⟨n, hnum⟩ := hnum
  have pm : ∀ x y : Int, (-(2 ^ 64) < x ∧ x < 2 ^ 64) → pMul x y = true := fun x y h => decide_eq_true (.inl h)
  -- the loop
  obtain ⟨e', h1, h2⟩ := loopF_ind (g := gTp (gsCons (gNm 4) (gsCons (gNm 5) gsNil))) (fb := (fSet 3 (f2 dMod (fN gInt (fCons (f2 dAdd (f2 dAdd (f2 dAdd (f2 dMul (fVar 3) (fC (.int 40087))) (f2 dMod (fN gInt (fCons (fVar 5) fNil)) (fC (.int 2147483549)))) (f2 dMul (fC (.int 211)) (fVar 4))) (fC (.int 7))) fNil)) (fC (.int 2147483647)))))
    (I := fun _ e => ∃ m s4 s5, e = [.sh (.fz (ns.map .int)), .sh (.int a), .sh (.int n), .sh (.int m), s4, s5] ∧ 0 ≤ m ∧ m < 1099511627776 ∧ (s4 = .un ∨ ∃ d, s4 = .sh d) ∧ (s5 = .un ∨ ∃ d, s5 = .sh d))
    (enumD 0 (cutD (ns.map D.int) none (some 60))) 0 [.sh (.fz (ns.map .int)), .sh (.int a), .sh (.int n), .sh (.int (4099 * a + 31)), .un, .un] ⟨_, _, _, rfl, by omega, by omega, .inl rfl, .inl rfl⟩ (by
      rintro j d e hd ⟨m, s4, s5, rfl, hm0, hm1, h4, h5⟩
      obtain ⟨v, rfl⟩ := enum_ints hd
      have f4 : free (some s4) = true := by rcases h4 with rfl | ⟨_, rfl⟩ <;> rfl
      have f5 : free (some s5) = true := by rcases h5 with rfl | ⟨_, rfl⟩ <;> rfl
      refine ⟨[.sh (.fz (ns.map .int)), .sh (.int a), .sh (.int n), .sh (.int m), .sh (.int (j : Nat)), .sh (.int v)], [.sh (.fz (ns.map .int)), .sh (.int a), .sh (.int n), .sh (.int ((m * 40087 + v % 2147483549 + 211 * (j : Int) + 7) % 2147483647)), .sh (.int (j : Nat)), .sh (.int v)], ?_, .inl ?_, _, _, _, rfl, Int.emod_nonneg _ (by decide), Int.lt_trans (Int.emod_lt_of_pos _ (by decide)) (by decide), .inr ⟨_, rfl⟩, .inr ⟨_, rfl⟩⟩
      · simp [gTp, gsCons, gNm, gsNil, put, f4, f5]
      · simp [fSet, f2, fVar, fC, fN, fCons, fNil, gInt, lift, Rs.bind, dMul, dI, dMod, dAdd, dI0, put, free, pm m 40087 ⟨by omega, by omega⟩, pm 211 (j : Int) ⟨by decide, by decide⟩])
  obtain ⟨m, s4, s5, rfl, hm0, hm1, _, _⟩ := h2
  have hfin : ∃ b0 : Int, fIf (fTest (f2 dGe (fN gAbs (fCons (fVar 2) fNil)) (f2 dPow (fC (.int 10)) (fC (.int 18))))) (fN gAbs (fCons (fVar 2) fNil)) (fC (.int 0)) [.sh (.fz (ns.map .int)), .sh (.int a), .sh (.int n), .sh (.int m), s4, s5] = .ok [.sh (.fz (ns.map .int)), .sh (.int a), .sh (.int n), .sh (.int m), s4, s5] (.int b0) ∧ 0 ≤ b0 := by
    by_cases hc : (10 : Int) ^ 18 ≤ (if n < 0 then -n else n)
    · refine ⟨if n < 0 then -n else n, ?_, by split <;> omega⟩
      refine (if_t (e := [.sh (.fz (ns.map .int)), .sh (.int a), .sh (.int n), .sh (.int m), s4, s5]) ?_).trans rfl
      show Rs.ok _ (decide _) = _
      rw [decide_eq_true]
      exact hc
    · refine ⟨0, ?_, by omega⟩
      refine (if_f (e := [.sh (.fz (ns.map .int)), .sh (.int a), .sh (.int n), .sh (.int m), s4, s5]) ?_).trans rfl
      show Rs.ok _ (decide _) = _
      rw [decide_eq_false]
      exact hc
  obtain ⟨b0, hfin, hb0⟩ := hfin
  have hrun : f__law_bag cE ([.sh (.fz (ns.map .int)), .sh (.int a)] ++ List.replicate 4 .un) = .ok [.sh (.fz (ns.map .int)), .sh (.int a), .sh (.int n), .sh (.int m), s4, s5] (.rt (.fr [.int b0, .int m])) := by
    unfold f__law_bag
    refine (seq_nx (set_ok hnum rfl)).trans ?_
    refine (seq_nx (e := [.sh (.fz (ns.map .int)), .sh (.int a), .sh (.int n), .sh (.int (4099 * a + 31)), .un, .un]) ?_).trans ?_
    · simp [fSet, f2, fVar, fC, lift, Rs.bind, dMul, dI, dAdd, dI0, put, free, pm 4099 a ⟨by decide, by decide⟩]
    refine (seq_nx ((for_ok (e := [.sh (.fz (ns.map .int)), .sh (.int a), .sh (.int n), .sh (.int (4099 * a + 31)), .un, .un]) (ds := enumD 0 (cutD (ns.map D.int) none (some 60))) rfl).trans h1)).trans ?_
    simp only [fLst, fCons, hfin]
    rfl
  exact ⟨_, b0, m, gOf_rt hrun, hb0, hm0, hm1⟩
end K20

end

section
set_option Elab.async false
set_option linter.all false
set_option maxRecDepth 100000
set_option maxHeartbeats 4000000
namespace K20
open PySem L2 DL TL
variable {cE : Str → Addr}
def plainB (w : Str) : Bool := c_PLAIN.any fun d => eqF d (.str w)
def placedB (w : Str) : Bool := c_PLACED.any fun d => eqF d (.str w)
def figs : List D := [.str "0", .str "1", .str "2", .str "3", .str "4"]
def figB (w : Str) : Bool := figs.any fun d => eqF d (.str w)
def rd2 (w f : Str) : Option D := if (placedB w && figB f) = true then (PySem.intText? f).map fun n => .tup [.str w, .int n] else none
def rdW : List Str → Option D
  | [w] => if plainB w = true then some (.tup [.str w]) else none
  | [w, f] => rd2 w f
  | _ => none
def rd (p : Str) : Option D := rdW (Txt.split p " ")
theorem in_plain (w : Str) : dIn (.str w) (.tup c_PLAIN) = some (.bl (plainB w)) := rfl
theorem notin_placed (w : Str) : dNotIn (.str w) (.tup c_PLACED) = some (.bl (!placedB w)) := rfl
theorem fig_eq (f : Str) : figB f = true ↔ f = "0" ∨ f = "1" ∨ f = "2" ∨ f = "3" ∨ f = "4" := by
  simp only [figB, figs, List.any_cons, List.any_nil, Bool.or_false, Bool.or_eq_true, eqF, beq_iff_eq]
  constructor
  · rintro (h | h | h | h | h) <;> simp [← h]
  · rintro (h | h | h | h | h) <;> simp [h]
theorem fig_one {c : Nat} : figB ⟨⟨[c]⟩⟩ = decide (c ∈ ("01234" : Str).cps.toList) := by
  have key : ∀ k : Nat, ((⟨⟨[c]⟩⟩ : Str) = ⟨⟨[k]⟩⟩) ↔ c = k := fun k => by simp
  have e0 : ("0" : Str) = ⟨⟨[48]⟩⟩ := by decide +kernel
  have e1 : ("1" : Str) = ⟨⟨[49]⟩⟩ := by decide +kernel
  have e2 : ("2" : Str) = ⟨⟨[50]⟩⟩ := by decide +kernel
  have e3 : ("3" : Str) = ⟨⟨[51]⟩⟩ := by decide +kernel
  have e4 : ("4" : Str) = ⟨⟨[52]⟩⟩ := by decide +kernel
  have el : ("01234" : Str).cps.toList = [48, 49, 50, 51, 52] := by decide +kernel
  rw [Bool.eq_iff_iff, fig_eq, decide_eq_true_iff, e0, e1, e2, e3, e4, key, key, key, key, key, el]
  simp
theorem one_of {f : Str} (h : f.length = 1) : ∃ c, f = ⟨⟨[c]⟩⟩ := by
  rw [len_tl] at h
  match e : tl f, h with
  | [c], _ => exact ⟨c, ext_tl e⟩
theorem fig_len {f : Str} (h : figB f = true) : f.length = 1 := by
  rcases (fig_eq f).mp h with rfl | rfl | rfl | rfl | rfl <;> decide +kernel
theorem fig_int {f : Str} (h : figB f = true) : ∃ n, PySem.intText? f = some n ∧ gIntS [.str f] = some (.int n) := by
  rcases (fig_eq f).mp h with rfl | rfl | rfl | rfl | rfl
  · exact ⟨0, by decide +kernel, by kernel_rfl⟩
  · exact ⟨1, by decide +kernel, by kernel_rfl⟩
  · exact ⟨2, by decide +kernel, by kernel_rfl⟩
  · exact ⟨3, by decide +kernel, by kernel_rfl⟩
  · exact ⟨4, by decide +kernel, by kernel_rfl⟩
theorem ne_one (i : Int) : dNe (.int i) (.int 1) = some (.bl (!(i == 1))) := rfl
theorem ey : tl (" " : Str) = 32 :: [] := by decide +kernel
theorem ek : (" " : Str).cps.all (· < 256) = true := by decide +kernel
theorem esp : (" " : Str) = ⟨#[32]⟩ := by decide +kernel
/-- the answer after a blank -/
def tail (a b : Str) : D := (rd2 a b).getD .non
theorem read_placed (a b p : Str) (hsz : szS b = true) : fSeq (fIfS (fOr (fTest (f2 dNotIn (fVar 1) (fC (.tup c_PLACED)))) (fOr (fTest (f2 dNe (fN gLen (fCons (fVar 3) fNil)) (fC (.int 1)))) (fTest (f2 dNotIn (fVar 3) (fC (.str "01234")))))) (fRet (fC .non)) fsNil)
    (fRet (fN gTup (fCons (fVar 1) (fCons (fN gIntS (fCons (fVar 3) fNil)) fNil)))) [.sh (.str p), .sh (.str a), .sh (.str " "), .sh (.str b)] = .ok [.sh (.str p), .sh (.str a), .sh (.str " "), .sh (.str b)] (.rt (.sh (tail a b))) := by
  have t1 : fTest (f2 dNotIn (fVar 1) (fC (.tup c_PLACED))) [.sh (.str p), .sh (.str a), .sh (.str " "), .sh (.str b)] = .ok [.sh (.str p), .sh (.str a), .sh (.str " "), .sh (.str b)] (!placedB a) := rfl
  have t2 : fTest (f2 dNe (fN gLen (fCons (fVar 3) fNil)) (fC (.int 1))) [.sh (.str p), .sh (.str a), .sh (.str " "), .sh (.str b)] = .ok [.sh (.str p), .sh (.str a), .sh (.str " "), .sh (.str b)] (!((b.length : Int) == 1)) := test_ok (two_ok (N_ok (d := .int b.length) (cons_ok (var_ok rfl) rfl) (if_pos hsz)) rfl (ne_one _))
  cases ha : placedB a with
  | false =>
    have : tail a b = .non := by simp [tail, rd2, ha]
    rw [this]
    refine (seq_rt (ifS_t (e := [.sh (.str p), .sh (.str a), .sh (.str " "), .sh (.str b)]) ?_ |>.trans rfl))
    simp only [fOr, t1, ha, Rs.bind, Bool.not_false, if_true]
  | true =>
    by_cases hb : b.length = 1
    · obtain ⟨c, rfl⟩ := one_of hb
      have t3 : fTest (f2 dNotIn (fVar 3) (fC (.str "01234"))) [.sh (.str p), .sh (.str a), .sh (.str " "), .sh (.str ⟨⟨[c]⟩⟩)] = .ok [.sh (.str p), .sh (.str a), .sh (.str " "), .sh (.str ⟨⟨[c]⟩⟩)] (!figB ⟨⟨[c]⟩⟩) := by
        rw [fig_one]; rfl
      cases hf : figB ⟨⟨[c]⟩⟩ with
      | false =>
        have : tail a ⟨⟨[c]⟩⟩ = .non := by simp [tail, rd2, hf]
        rw [this]
        refine (seq_rt (ifS_t (e := [.sh (.str p), .sh (.str a), .sh (.str " "), .sh (.str ⟨⟨[c]⟩⟩)]) ?_ |>.trans rfl))
        simp only [fOr, t1, t2, t3, ha, hb, hf, Rs.bind, Bool.not_true, Bool.not_false, Bool.false_eq_true, if_false]
        rfl
      | true =>
        obtain ⟨n, h1, h2⟩ := fig_int hf
        have : tail a ⟨⟨[c]⟩⟩ = .tup [.str a, .int n] := by simp [tail, rd2, ha, hf, h1]
        rw [this]
        refine (seq_nx ((ifS_f (e := [.sh (.str p), .sh (.str a), .sh (.str " "), .sh (.str ⟨⟨[c]⟩⟩)]) ?_).trans rfl)).trans (ret_ok (N_ok (cons_ok (var_ok rfl) (cons_ok (N_ok (cons_ok (var_ok rfl) rfl) h2) rfl)) rfl))
        simp only [fOr, t1, t2, t3, ha, hb, hf, Rs.bind, Bool.not_true, Bool.false_eq_true, if_false]
        rfl
    · have hf : figB b = false := by
        cases q : figB b with
        | false => rfl
        | true => exact absurd (fig_len q) hb
      have : tail a b = .non := by simp [tail, rd2, hf]
      rw [this]
      have hb' : ((b.length : Int) == 1) = false := by
        rw [beq_eq_false_iff_ne]
        omega
      refine (seq_rt (ifS_t (e := [.sh (.str p), .sh (.str a), .sh (.str " "), .sh (.str b)]) ?_ |>.trans rfl))
      simp only [fOr, t1, t2, ha, hb', Rs.bind, Bool.not_true, Bool.not_false, Bool.false_eq_true, if_false, if_true]
end K20

end

section
set_option Elab.async false
set_option linter.all false
set_option maxRecDepth 100000
set_option maxHeartbeats 4000000
namespace K20
open PySem L2 DL TL
variable {cE : Str → Addr}
theorem rd_two {a b : Str} (ha : 32 ∉ tl a) : rd (a ++ " " ++ b) = rd2 a b := by
  unfold rd
  rw [split_app ey ek ha]
  rcases text_first 32 b with hb | ⟨c, d, rfl, hc⟩
  · rw [split_none ey ek hb]
    rfl
  · rw [← esp, split_app ey ek hc]
    have hn : figB (c ++ " " ++ d) = false := by
      cases q : figB (c ++ " " ++ d) with
      | false => rfl
      | true =>
        have hm : 32 ∈ tl (c ++ " " ++ d) := by
          rw [tl_append, tl_append, ey]
          simp
        rcases (fig_eq _).mp q with e | e | e | e | e <;> rw [e] at hm <;> revert hm <;> decide +kernel
    have h2 : rd2 a (c ++ " " ++ d) = none := by simp [rd2, hn]
    rw [h2]
    cases e : Txt.split d " " with
    | nil => 
      have := congrArg (List.map tl) e
      rw [split_spl d " " (by rw [ey]; simp) (kind_ok ek)] at this
      have h3 : ∀ (S : List Nat) (l : List Nat) (k : Nat) (acc : List Nat), spl S k acc l ≠ [] := by
        intro S l
        induction l with
        | nil => intro k acc; rw [spl_nil]; simp
        | cons x r ih =>
          intro k acc
          cases k with
          | zero =>
            cases hp : pre S (x :: r) with
            | true => rw [spl_hit hp]; simp
            | false => rw [spl_miss hp]; exact ih _ _
          | succ k => exact ih k acc
      exact absurd this (h3 _ _ _ _)
    | cons x r => rfl
theorem read_move_ok {p : Str} {n : Nat} (h : Tok n p) (hn : n ≤ 100000) : ∃ e, g_read_move cE [.sh (.str p)] = .ok e (.sh ((rd p).getD .non)) := by
  have hsz : szS p = true := h.sz hn
  have hb1 : ((" " : Str).length == 0) = false := by decide +kernel
  rcases text_first 32 p with hp | ⟨a, b, rfl, ha⟩
  · have hpt : dPart (.str p) (.str " ") = some (.tup [.str p, .str Str.empty, .str Str.empty]) := by
      simp only [dPart, hsz, hb1, and_self, if_true, partition_none ey hp]
    have hrd : (rd p).getD .non = if plainB p = true then .tup [.str p] else .non := by
      unfold rd
      rw [split_none ey ek hp]
      show (if plainB p = true then some (D.tup [.str p]) else none).getD .non = _
      split <;> rfl
    rw [hrd]
    refine ⟨[.sh (.str p), .sh (.str p), .sh (.str Str.empty), .sh (.str Str.empty)], gOf_rt ?_⟩
    unfold f_read_move
    refine (seq_nx (e := [.sh (.str p), .sh (.str p), .sh (.str Str.empty), .sh (.str Str.empty)]) ?_).trans ?_
    · have : fM1 dPart (fVar 0) (fC (.str " ")) [.sh (.str p), .un, .un, .un] = .ok [.sh (.str p), .un, .un, .un] (.tup [.str p, .str Str.empty, .str Str.empty]) := by
        simp only [fM1, fVar, List.getElem?_cons_zero, Rs.bind, isStr, if_true, fC, hpt]
      show fAsg _ _ [.sh (.str p), .un, .un, .un] = _
      simp only [fAsg, this, Rs.bind]
      rfl
    · refine seq_rt ((ifS_t (e := [.sh (.str p), .sh (.str p), .sh (.str Str.empty), .sh (.str Str.empty)]) rfl).trans (ret_ok ?_))
      cases hq : plainB p with
      | true => exact (if_t (e := [.sh (.str p), .sh (.str p), .sh (.str Str.empty), .sh (.str Str.empty)]) (test_ok (two_ok (var_ok rfl) rfl ((in_plain p).trans (by rw [hq]))))).trans rfl
      | false => exact (if_f (e := [.sh (.str p), .sh (.str p), .sh (.str Str.empty), .sh (.str Str.empty)]) (test_ok (two_ok (var_ok rfl) rfl ((in_plain p).trans (by rw [hq]))))).trans rfl
  · rw [← esp] at h hsz ⊢
    have hszb : szS b = true := by
      refine Nat.ble_eq_true_of_le ?_
      have h1 := h.1
      rw [len_tl, tl_append, tl_append, List.length_append, List.length_append, ← len_tl b] at h1
      omega
    have hpt : dPart (.str (a ++ " " ++ b)) (.str " ") = some (.tup [.str a, .str " ", .str b]) := by
      simp only [dPart, hsz, hb1, and_self, if_true, partition_app ey ha]
    rw [rd_two ha]
    refine ⟨[.sh (.str (a ++ " " ++ b)), .sh (.str a), .sh (.str " "), .sh (.str b)], gOf_rt ?_⟩
    unfold f_read_move
    refine (seq_nx (e := [.sh (.str (a ++ " " ++ b)), .sh (.str a), .sh (.str " "), .sh (.str b)]) ?_).trans ?_
    · have : fM1 dPart (fVar 0) (fC (.str " ")) [.sh (.str (a ++ " " ++ b)), .un, .un, .un] = .ok [.sh (.str (a ++ " " ++ b)), .un, .un, .un] (.tup [.str a, .str " ", .str b]) := by
        simp only [fM1, fVar, List.getElem?_cons_zero, Rs.bind, isStr, if_true, fC, hpt]
      show fAsg _ _ [.sh (.str (a ++ " " ++ b)), .un, .un, .un] = _
      simp only [fAsg, this, Rs.bind]
      rfl
    · exact (seq_nx ((ifS_f (e := [.sh (.str (a ++ " " ++ b)), .sh (.str a), .sh (.str " "), .sh (.str b)]) rfl).trans rfl)).trans (read_placed a b _ hszb)
end K20

end

section
set_option Elab.async false
set_option linter.all false
set_option maxRecDepth 100000
set_option maxHeartbeats 4000000
namespace K20
open PySem L2 DL TL
variable {cE : Str → Addr}
def nonB : D → Bool
  | .non => true
  | _ => false
theorem dIn_non {ds : List D} (h : ∀ d ∈ ds, d = .non ∨ (∃ xs, d = .tup xs) ∧ ∃ p, okP 1 d p) : dIn .non (.lst ds) = some (.bl (ds.any nonB)) := by
  obtain ⟨ps, hp, h2, h3⟩ := okP.lst (n := 1) (ds := ds) fun d hd => by
    rcases h d hd with rfl | ⟨_, q⟩
    · exact ⟨.none, rfl, rfl, by decide⟩
    · exact q
  by_cases hf : ds.all flatD = true
  · have : dInF false .non (.lst ds) = some (.bl (ds.any nonB)) := by
      have e : (ds.any fun d => eqF d .non) = ds.any nonB := by
        congr 1
        funext d
        cases d <;> rfl
      simp only [dInF, itemsD, hf, flatD, and_self, if_true, e]
      rfl
    simp only [dIn, this, Option.some_or]
  · have hF : dInF false .non (.lst ds) = none := by
      simp only [dInF, itemsD]
      rw [if_neg (by intro z; exact hf z.2)]
    have key : ∀ (l : List D) (qs : List PyData), (∀ d ∈ l, d = .non ∨ (∃ xs, d = .tup xs) ∧ ∃ p, okP 1 d p) → toPyA l = some qs → (qs.any fun z => PyData.eqv z PyData.none) = l.any nonB := by
      intro l
      induction l with
      | nil => intro qs _ e; simp [toPyA] at e; subst e; rfl
      | cons d r ih =>
        intro qs hd e
        simp only [toPyA] at e
        split at e
        · rename_i p qs' e1 e2
          cases e
          have hr := ih qs' (fun x hx => hd x (List.mem_cons_of_mem _ hx)) e2
          rw [List.any_cons, List.any_cons, hr]
          rcases hd d List.mem_cons_self with rfl | ⟨⟨xs, rfl⟩, _⟩
          · simp only [toPy] at e1
            cases e1
            simp [PyData.eqv, nonB]
          · simp only [toPy, Option.map_eq_some_iff] at e1
            obtain ⟨y, _, rfl⟩ := e1
            simp [PyData.eqv, nonB]
        · cases e
    have hD : dInD false .non (.lst ds) = some (.bl (ds.any nonB)) := by
      have hs : SeqAt.shaped (.list ps) = true := hp.shaped (by decide)
      have hn : SeqAt.shaped PyData.none = true := by decide +kernel
      simp only [dInD, toPy, h2, hs, hn, key ds ps h h2, Bool.and_self, if_true]
      rfl
    simp only [dIn, hF, hD, Option.none_or, dInS]
/-- what rd gives can be compared -/
theorem rdW_ok {ws : List Str} {d : D} (hw : ∀ w ∈ ws, Tok 100000 w) (h : rdW ws = some d) : (∃ xs, d = .tup xs) ∧ ∃ p, okP 1 d p := by
  match ws, h with
  | [w], h =>
    simp only [rdW] at h
    split at h
    · cases h
      obtain ⟨ps, hp, _⟩ := okP.tup (n := 0) (ds := [.str w]) fun d hd => by
        cases List.mem_singleton.mp hd
        exact ⟨.str w, rfl, by simp [PyData.canLay0, (hw w List.mem_cons_self).ok], by simp [PyData.depth]⟩
      exact ⟨⟨_, rfl⟩, _, hp⟩
    · cases h
  | [w, f], h =>
    simp only [rdW, rd2] at h
    split at h
    · rw [Option.map_eq_some_iff] at h
      obtain ⟨n, _, rfl⟩ := h
      obtain ⟨ps, hp, _⟩ := okP.tup (n := 0) (ds := [.str w, .int n]) fun d hd => by
        rcases List.mem_cons.mp hd with rfl | hd
        · exact ⟨.str w, rfl, by simp [PyData.canLay0, (hw w List.mem_cons_self).ok], by simp [PyData.depth]⟩
        · cases List.mem_singleton.mp hd
          exact ⟨.int n, rfl, rfl, by simp [PyData.depth]⟩
      exact ⟨⟨_, rfl⟩, _, hp⟩
    · cases h
end K20

end

section
set_option Elab.async false
set_option linter.all false
set_option maxRecDepth 100000
set_option maxHeartbeats 4000000
namespace K20
open PySem L2 DL TL
variable {cE : Str → Addr}
theorem gOf_er {f : Ev → Rs Fl} {as : List Sl} {m : Nat} {e : Ev} {C : Addr} {fl : Str} {d : D} (h : f (as ++ List.replicate (m - as.length) .un) = .er e C fl d) : gOf m f as = .er e C fl d := by unfold gOf; rw [h]
def outD (p : Str) : D := (rd p).getD .non
def found (t : Str) : List D := (Txt.split t ", ").map outD
def bad (t : Str) : Bool := (found t).any nonB
def ans (t : Str) : D := if (t == ("-" : Str)) = true then .lst [] else if bad t = true then .tup [.str t] else .lst (found t)
theorem cy : tl (", " : Str) = 44 :: [32] := by decide +kernel
theorem ck : (", " : Str).cps.all (· < 256) = true := by decide +kernel
theorem found_ok {t : Str} {n : Nat} (h : Tok n t) (hn : n ≤ 100000) : ∀ d ∈ found t, d = .non ∨ (∃ xs, d = .tup xs) ∧ ∃ p, okP 1 d p := fun d hd => by
  obtain ⟨p, hp, rfl⟩ := List.mem_map.mp hd
  have hpt : Tok n p := h.part (by rw [cy]; simp) ck hp
  unfold outD
  cases e : rd p with
  | none => exact .inl rfl
  | some x => exact .inr (rdW_ok (ws := Txt.split p " ") (fun w hw => (hpt.part (by rw [ey]; simp) ek hw).mono hn) e)
theorem found_list {t : Str} {n : Nat} (h : Tok n t) (hn : n ≤ 900) : fSetO 1 (fLc (([("part", 2)] : List (Str × Nat)).map (·.2)) (fiL (fSh (fSplit (fVar 0) (fC (.str ", "))))) (gNm 2) fYes (fShR (fCall 1 (g_read_move cE) [] (fCons (fVar 2) fNil)))) [.sh (.str t), .un, .un] = .ok [.sh (.str t), .ow (.lst (found t)), .un] .nx := by
  have hc := (split_sum (x := t) (y := ", ") (by rw [cy]; simp) ck).2
  have hlt := h.1
  refine setO_ok (e := [.sh (.str t), .un, .un]) (lc_ok (e := [.sh (.str t), .un, .un]) (e' := [.sh (.str t), .un, .un]) (ds := (Txt.split t ", ").map .str) ?_ rfl ?_) rfl
  · have hb : (Str.length ", " == 0) = false := by decide +kernel
    simp only [fiL, fSh, fSplit, fVar, List.getElem?_cons_zero, Rs.bind, fC, h.sz (by omega : n ≤ 100000), hb, and_self, if_true]
  · exact loopC_map (e := [.sh (.str t), .un, .un]) (inp := D.str) (out := outD) (Txt.split t ", ") [] (by simp; omega) fun p hp => by
      obtain ⟨e, he⟩ := read_move_ok (cE := cE) (h.part (by rw [cy]; simp) ck hp) (by omega : n ≤ 100000)
      exact ⟨[.sh (.str t), .un, .sh (.str p)], [.sh (.str t), .un, .sh (.str p)], rfl, shR_sh (call_ok (cons_ok (var_ok rfl) rfl) rfl he), rfl⟩
theorem hist_dash : ∃ e, g_read_history cE [.sh (.str "-")] = .ok e (.fr []) := ⟨_, rfl⟩
theorem hist_run {t : Str} {n : Nat} (h : Tok n t) (hn : n ≤ 900) (hd : (t == ("-" : Str)) = false) : (bad t = false → ∃ e, g_read_history cE [.sh (.str t)] = .ok e (.fr (found t))) ∧ (bad t = true → ∃ e, g_read_history cE [.sh (.str t)] = .er e (cE "BadText") "text" (.str t)) := by
  have hin := dIn_non (found_ok h (by omega : n ≤ 100000))
  have pre : ∀ r, (fSeq (fIfS (fBorT (fTest (f2 dIn (fC .non) (fVar 1)))) (fRaise (cE "BadText") "text" (fVar 0)) fsNil) (fRetO 1)) [.sh (.str t), .ow (.lst (found t)), .un] = r → f_read_history cE [.sh (.str t), .un, .un] = r := by
    intro r hr
    unfold f_read_history
    refine (seq_nx (e := [.sh (.str t), .un, .un]) ((ifS_f (e := [.sh (.str t), .un, .un]) rfl).trans rfl)).trans ?_
    refine (seq_nx (e := [.sh (.str t), .un, .un]) ((ifS_f (e := [.sh (.str t), .un, .un]) (test_ok (two_ok (var_ok rfl) rfl ?_))).trans rfl)).trans ?_
    · simp only [dEq, eqD, hd, Option.map_some]
    exact (seq_nx (found_list h hn)).trans hr
  constructor
  · intro hb
    refine ⟨[.sh (.str t), .un, .un], gOf_rt (pre _ ?_)⟩
    exact (seq_nx (e := [.sh (.str t), .ow (.lst (found t)), .un]) ((ifS_f (e := [.sh (.str t), .ow (.lst (found t)), .un]) (borT_ok (test_ok (two_ok (fd := fC .non) (x := .non) rfl (var_ok rfl) (hin.trans (by rw [show (found t).any nonB = false from hb])))))).trans rfl)).trans rfl
  · intro hb
    have hr : f_read_history cE [.sh (.str t), .un, .un] = .er [.sh (.str t), .ow (.lst (found t)), .un] (cE "BadText") "text" (.str t) := by
      refine pre _ ?_
      have h1 : (fIfS (fBorT (fTest (f2 dIn (fC .non) (fVar 1)))) (fRaise (cE "BadText") "text" (fVar 0)) fsNil) [.sh (.str t), .ow (.lst (found t)), .un] = .er [.sh (.str t), .ow (.lst (found t)), .un] (cE "BadText") "text" (.str t) :=
        (ifS_t (e := [.sh (.str t), .ow (.lst (found t)), .un]) (borT_ok (test_ok (two_ok (fd := fC .non) (x := .non) rfl (var_ok rfl) (hin.trans (by rw [show (found t).any nonB = true from hb])))))).trans rfl
      simp only [fSeq, h1, Rs.bind]
    exact ⟨_, gOf_er hr⟩
theorem hist_odd {d : D} (h : fTest (fN gIsi (fCons (fVar 0) (fCons (fC (.ty "str")) fNil))) [.sh d, .un, .un] = .ok [.sh d, .un, .un] false) : ∃ e, g_read_history cE [.sh d] = .er e (cE "BadText") "text" d := by
  refine ⟨[.sh d, .un, .un], gOf_er ?_⟩
  have h1 : fIfS (fNot (fTest (fN gIsi (fCons (fVar 0) (fCons (fC (.ty "str")) fNil))))) (fRaise (cE "BadText") "text" (fVar 0)) fsNil [.sh d, .un, .un] = .er [.sh d, .un, .un] (cE "BadText") "text" d := by
    refine (ifS_t (e := [.sh d, .un, .un]) ?_).trans rfl
    simp only [fNot, h, Rs.bind, Bool.not_false]
  show f_read_history cE [.sh d, .un, .un] = _
  unfold f_read_history
  simp only [fSeq, h1, Rs.bind]
theorem told_er {d : D} {e0 : Ev} (h : g_read_history cE [.sh d] = .er e0 (cE "BadText") "text" d) : ∃ e, g__law_told cE [.sh d] = .ok e (.sh (.tup [d])) := by
  refine ⟨[.sh d, .un, .un], gOf_rt ?_⟩
  have h1 : fSet 2 (fShR (fCall 1 (g_read_history cE) [] (fCons (fVar 0) fNil))) [.sh d, .un, .un] = .er [.sh d, .un, .un] (cE "BadText") "text" d := by
    have h2 : fCons (fVar 0) fNil [.sh d, .un, .un] = .ok [.sh d, .un, .un] [d] := rfl
    have h3 : fCall 1 (g_read_history cE) [] (fCons (fVar 0) fNil) [.sh d, .un, .un] = .er [.sh d, .un, .un] (cE "BadText") "text" d := by
      show (if Nat.beq ([d] ++ []).length 1 = true then back [.sh d, .un, .un] (g_read_history cE [.sh d]) else .no) = _
      rw [h]
      rfl
    simp only [fSet, fShR, h3, Rs.bind]
  have hl : List.lookup (cE "BadText") [(cE "BadText", true)] = some true := by simp [List.lookup]
  show f__law_told cE [.sh d, .un, .un] = _
  unfold f__law_told
  refine seq_rt ?_
  unfold fTry
  rw [h1]
  dsimp only
  rw [hl]
  rfl
theorem told_ok0 {d : D} {ds : List D} {e0 : Ev} (h : g_read_history cE [.sh d] = .ok e0 (.fr ds)) : ∃ e, g__law_told cE [.sh d] = .ok e (.sh (.lst ds)) := by
  refine ⟨[.sh d, .un, .sh (.lst ds)], gOf_rt ?_⟩
  have h1 : fSet 2 (fShR (fCall 1 (g_read_history cE) [] (fCons (fVar 0) fNil))) [.sh d, .un, .un] = .ok [.sh d, .un, .sh (.lst ds)] .nx := set_ok (e := [.sh d, .un, .un]) (shR_fr (call_ok (cons_ok (var_ok rfl) rfl) rfl h)) rfl
  show f__law_told cE [.sh d, .un, .un] = _
  unfold f__law_told
  refine (seq_nx (e := [.sh d, .un, .sh (.lst ds)]) ?_).trans rfl
  unfold fTry
  rw [h1]
theorem told_ok {t : Str} {n : Nat} (h : Tok n t) (hn : n ≤ 900) : ∃ e, g__law_told cE [.sh (.str t)] = .ok e (.sh (ans t)) := by
  unfold ans
  by_cases hd : (t == ("-" : Str)) = true
  · rw [if_pos hd]
    cases eq_of_beq hd
    obtain ⟨e, he⟩ := hist_dash (cE := cE)
    exact told_ok0 he
  · have hd : (t == ("-" : Str)) = false := by simpa using hd
    rw [if_neg (by rw [hd]; simp)]
    obtain ⟨h1, h2⟩ := hist_run (cE := cE) h hn hd
    cases hb : bad t with
    | false =>
      obtain ⟨e, he⟩ := h1 hb
      exact told_ok0 he
    | true =>
      obtain ⟨e, he⟩ := h2 hb
      exact told_er he
end K20

end

section
set_option Elab.async false
set_option linter.all false
set_option maxRecDepth 100000
set_option maxHeartbeats 4000000
namespace K20
open PySem L2 DL TL
variable {cE : Str → Addr} {t p : Str} {acc : List D}
theorem and_tt {f g : Ev → Rs Bool} {env e e' : Ev} {b : Bool} (h : f env = .ok e true) (h2 : g e = .ok e' b) : fAnd f g env = .ok e' b := by simp only [fAnd, h, Rs.bind, if_true, h2]
theorem and_f {f g : Ev → Rs Bool} {env e : Ev} (h : f env = .ok e false) : fAnd f g env = .ok e false := by simp only [fAnd, h, Rs.bind, Bool.false_eq_true, if_false]
theorem in_plainL (w : Str) : dIn (.str w) (.lst [.str "lapse", .str "watch", .str "start", .str "off", .str "on"]) = some (.bl (plainB w)) := rfl
theorem in_placedL (w : Str) : dIn (.str w) (.lst [.str "step", .str "kill", .str "fail", .str "repeat", .str "lose"]) = some (.bl (placedB w)) := rfl
theorem notin_figs (w : Str) : dNotIn (.str w) (.lst [.str "0", .str "1", .str "2", .str "3", .str "4"]) = some (.bl (!figB w)) := rfl
def duR (t p : Str) (acc : List D) (ws : List Str) : Rs Fl := match rdW ws with
  | some d => .ok [.sh (.str t), .ow (.lst (acc ++ [d])), .sh (.str p), .sh (.lst (ws.map .str))] .nx
  | none => .ok [.sh (.str t), .ow (.lst acc), .sh (.str p), .sh (.lst (ws.map .str))] (.rt (.sh (.tup [.str t])))
theorem duR_some {ws : List Str} {d : D} (h : rdW ws = some d) : duR t p acc ws = .ok [.sh (.str t), .ow (.lst (acc ++ [d])), .sh (.str p), .sh (.lst (ws.map .str))] .nx := by unfold duR; rw [h]
theorem duR_none {ws : List Str} (h : rdW ws = none) : duR t p acc ws = .ok [.sh (.str t), .ow (.lst acc), .sh (.str p), .sh (.lst (ws.map .str))] (.rt (.sh (.tup [.str t]))) := by unfold duR; rw [h]
theorem len_eq (ws : List Str) (k : Int) : fTest (f2 dEq (fN gLen (fCons (fVar 3) fNil)) (fC (.int k))) [.sh (.str t), .ow (.lst acc), .sh (.str p), .sh (.lst (ws.map .str))] = .ok [.sh (.str t), .ow (.lst acc), .sh (.str p), .sh (.lst (ws.map .str))] ((ws.length : Int) == k) := by
  have : fN gLen (fCons (fVar 3) fNil) [.sh (.str t), .ow (.lst acc), .sh (.str p), .sh (.lst (ws.map .str))] = .ok [.sh (.str t), .ow (.lst acc), .sh (.str p), .sh (.lst (ws.map .str))] (.int ws.length) := by
    refine N_ok (cons_ok (var_ok rfl) rfl) ?_
    simp [gLen, itemsD]
  exact test_ok (two_ok this rfl rfl)
theorem du_step (hacc : acc.length ≤ 1000) : ∀ ws : List Str, (fIfS (fAnd (fTest (f2 dEq (fN gLen (fCons (fVar 3) fNil)) (fC (.int 1)))) (fTest (f2 dIn (f2 dIx (fVar 3) (fC (.int 0))) (fN gLst (fCons (fC (.str "lapse")) (fCons (fC (.str "watch")) (fCons (fC (.str "start")) (fCons (fC (.str "off")) (fCons (fC (.str "on")) fNil))))))))) (fExp (fOM 1 gApp (fCons (fN gTup (fCons (f2 dIx (fVar 3) (fC (.int 0))) fNil)) fNil))) (fIfS (fAnd (fTest (f2 dEq (fN gLen (fCons (fVar 3) fNil)) (fC (.int 2)))) (fTest (f2 dIn (f2 dIx (fVar 3) (fC (.int 0))) (fN gLst (fCons (fC (.str "step")) (fCons (fC (.str "kill")) (fCons (fC (.str "fail")) (fCons (fC (.str "repeat")) (fCons (fC (.str "lose")) fNil))))))))) (fSeq (fIfS (fTest (f2 dNotIn (f2 dIx (fVar 3) (fC (.int 1))) (fN gLst (fCons (fC (.str "0")) (fCons (fC (.str "1")) (fCons (fC (.str "2")) (fCons (fC (.str "3")) (fCons (fC (.str "4")) fNil)))))))) (fRet (fN gTup (fCons (fVar 0) fNil))) fsNil)     (fExp (fOM 1 gApp (fCons (fN gTup (fCons (f2 dIx (fVar 3) (fC (.int 0))) (fCons (fN gIntS (fCons (f2 dIx (fVar 3) (fC (.int 1))) fNil)) fNil))) fNil)))) (fRet (fN gTup (fCons (fVar 0) fNil))))) [.sh (.str t), .ow (.lst acc), .sh (.str p), .sh (.lst (ws.map .str))] = duR t p acc ws
  | [] => rfl
  | [w] => by
    have h1 := len_eq (t := t) (p := p) (acc := acc) [w] 1
    have h2 := len_eq (t := t) (p := p) (acc := acc) [w] 2
    cases hw : plainB w with
    | true =>
      rw [duR_some (ws := [w]) (d := .tup [.str w]) (if_pos hw)]
      refine (ifS_t (e := [.sh (.str t), .ow (.lst acc), .sh (.str p), .sh (.lst ([w].map .str))]) (and_tt h1 (test_ok (b := true) (two_ok (x := .str w) rfl rfl ((in_plainL w).trans (by rw [hw])))))).trans ?_
      exact app_ok (e := [.sh (.str t), .ow (.lst acc), .sh (.str p), .sh (.lst ([w].map .str))]) (o0 := .lst acc) (xs := acc) (d := .tup [.str w]) rfl rfl rfl rfl hacc
    | false =>
      rw [duR_none (ws := [w]) (if_neg (by rw [hw]; simp))]
      refine (ifS_f (e := [.sh (.str t), .ow (.lst acc), .sh (.str p), .sh (.lst ([w].map .str))]) (and_tt h1 (test_ok (b := false) (two_ok (x := .str w) rfl rfl ((in_plainL w).trans (by rw [hw])))))).trans ?_
      exact (ifS_f (e := [.sh (.str t), .ow (.lst acc), .sh (.str p), .sh (.lst ([w].map .str))]) (and_f h2)).trans rfl
  | [w, f] => by
    have h1 := len_eq (t := t) (p := p) (acc := acc) [w, f] 1
    have h2 := len_eq (t := t) (p := p) (acc := acc) [w, f] 2
    refine (ifS_f (e := [.sh (.str t), .ow (.lst acc), .sh (.str p), .sh (.lst ([w, f].map .str))]) (and_f h1)).trans ?_
    cases hw : placedB w with
    | false =>
      rw [duR_none (ws := [w, f]) (if_neg (by rw [hw]; simp))]
      exact (ifS_f (e := [.sh (.str t), .ow (.lst acc), .sh (.str p), .sh (.lst ([w, f].map .str))]) (and_tt h2 (test_ok (b := false) (two_ok (x := .str w) rfl rfl ((in_placedL w).trans (by rw [hw])))))).trans rfl
    | true =>
      refine (ifS_t (e := [.sh (.str t), .ow (.lst acc), .sh (.str p), .sh (.lst ([w, f].map .str))]) (and_tt h2 (test_ok (b := true) (two_ok (x := .str w) rfl rfl ((in_placedL w).trans (by rw [hw])))))).trans ?_
      cases hf : figB f with
      | false =>
        rw [duR_none (ws := [w, f]) (if_neg (by rw [hf]; simp))]
        exact seq_rt ((ifS_t (e := [.sh (.str t), .ow (.lst acc), .sh (.str p), .sh (.lst ([w, f].map .str))]) (test_ok (b := true) (two_ok (x := .str f) rfl rfl ((notin_figs f).trans (by rw [hf]; rfl))))).trans rfl)
      | true =>
        obtain ⟨n, e1, e2⟩ := fig_int hf
        rw [duR_some (ws := [w, f]) (d := .tup [.str w, .int n]) ((if_pos (by rw [hw, hf]; rfl)).trans (by rw [e1]; rfl))]
        refine (seq_nx ((ifS_f (e := [.sh (.str t), .ow (.lst acc), .sh (.str p), .sh (.lst ([w, f].map .str))]) (test_ok (b := false) (two_ok (x := .str f) rfl rfl ((notin_figs f).trans (by rw [hf]; rfl))))).trans rfl)).trans ?_
        exact app_ok (e := [.sh (.str t), .ow (.lst acc), .sh (.str p), .sh (.lst ([w, f].map .str))]) (o0 := .lst acc) (xs := acc) (d := .tup [.str w, .int n]) rfl rfl (cons_ok (N_ok (cons_ok (d := .str w) rfl (cons_ok (N_ok (cons_ok (d := .str f) rfl rfl) e2) rfl)) rfl) rfl) rfl hacc
  | w :: f :: g :: r => by
    have h1 := len_eq (t := t) (p := p) (acc := acc) (w :: f :: g :: r) 1
    have h2 := len_eq (t := t) (p := p) (acc := acc) (w :: f :: g :: r) 2
    have n1 : (((w :: f :: g :: r).length : Int) == 1) = false := by rw [beq_eq_false_iff_ne]; simp; omega
    have n2 : (((w :: f :: g :: r).length : Int) == 2) = false := by rw [beq_eq_false_iff_ne]; simp; omega
    rw [n1] at h1
    rw [n2] at h2
    exact (ifS_f (e := [.sh (.str t), .ow (.lst acc), .sh (.str p), .sh (.lst ((w :: f :: g :: r).map .str))]) (and_f h1)).trans ((ifS_f (e := [.sh (.str t), .ow (.lst acc), .sh (.str p), .sh (.lst ((w :: f :: g :: r).map .str))]) (and_f h2)).trans rfl)
end K20

end

section
set_option Elab.async false
set_option linter.all false
set_option maxRecDepth 100000
set_option maxHeartbeats 4000000
namespace K20
open PySem L2 DL TL
variable {cE : Str → Addr} {t : Str}
def Pl (s : Sl) : Prop := s = .un ∨ ∃ d, s = .sh d
theorem Pl.free {s : Sl} (h : Pl s) : free (some s) = true := by rcases h with rfl | ⟨_, rfl⟩ <;> rfl
theorem Pl.sh {d : D} : Pl (.sh d) := .inr ⟨d, rfl⟩
theorem set3_ok {p : Str} {n : Nat} {o s3 : Sl} (h : Tok n p) (hn : n ≤ 100000) (p3 : Pl s3) : (fSet 3 (fSh (fSplit (fVar 2) (fC (.str " "))))) [.sh (.str t), o, .sh (.str p), s3] = .ok [.sh (.str t), o, .sh (.str p), .sh (.lst ((Txt.split p " ").map .str))] .nx := by
  have hb : (Str.length " " == 0) = false := by decide +kernel
  have hs : fSplit (fVar 2) (fC (.str " ")) [.sh (.str t), o, .sh (.str p), s3] = .ok [.sh (.str t), o, .sh (.str p), s3] ((Txt.split p " ").map .str) := by
    simp only [fSplit, fVar, List.getElem?_cons_succ, List.getElem?_cons_zero, Rs.bind, fC, h.sz hn, hb, and_self, if_true]
  exact set_ok (e := [.sh (.str t), o, .sh (.str p), s3]) (sh_ok hs) p3.free
theorem du_loop {n : Nat} (hn : n ≤ 100000) : ∀ (ps : List Str) (acc : List D) (s2 s3 : Sl), Pl s2 → Pl s3 → acc.length + ps.length ≤ 1000 → (∀ p ∈ ps, Tok n p) →
    ((ps.map outD).any nonB = false → ∃ s2' s3', loopF (gNm 2) (fSeq (fSet 3 (fSh (fSplit (fVar 2) (fC (.str " ")))))     (fIfS (fAnd (fTest (f2 dEq (fN gLen (fCons (fVar 3) fNil)) (fC (.int 1)))) (fTest (f2 dIn (f2 dIx (fVar 3) (fC (.int 0))) (fN gLst (fCons (fC (.str "lapse")) (fCons (fC (.str "watch")) (fCons (fC (.str "start")) (fCons (fC (.str "off")) (fCons (fC (.str "on")) fNil))))))))) (fExp (fOM 1 gApp (fCons (fN gTup (fCons (f2 dIx (fVar 3) (fC (.int 0))) fNil)) fNil))) (fIfS (fAnd (fTest (f2 dEq (fN gLen (fCons (fVar 3) fNil)) (fC (.int 2)))) (fTest (f2 dIn (f2 dIx (fVar 3) (fC (.int 0))) (fN gLst (fCons (fC (.str "step")) (fCons (fC (.str "kill")) (fCons (fC (.str "fail")) (fCons (fC (.str "repeat")) (fCons (fC (.str "lose")) fNil))))))))) (fSeq (fIfS (fTest (f2 dNotIn (f2 dIx (fVar 3) (fC (.int 1))) (fN gLst (fCons (fC (.str "0")) (fCons (fC (.str "1")) (fCons (fC (.str "2")) (fCons (fC (.str "3")) (fCons (fC (.str "4")) fNil)))))))) (fRet (fN gTup (fCons (fVar 0) fNil))) fsNil)     (fExp (fOM 1 gApp (fCons (fN gTup (fCons (f2 dIx (fVar 3) (fC (.int 0))) (fCons (fN gIntS (fCons (f2 dIx (fVar 3) (fC (.int 1))) fNil)) fNil))) fNil)))) (fRet (fN gTup (fCons (fVar 0) fNil)))))) (ps.map .str) [.sh (.str t), .ow (.lst acc), s2, s3] = .ok [.sh (.str t), .ow (.lst (acc ++ ps.map outD)), s2', s3'] .nx) ∧
    ((ps.map outD).any nonB = true → ∃ e, loopF (gNm 2) (fSeq (fSet 3 (fSh (fSplit (fVar 2) (fC (.str " ")))))     (fIfS (fAnd (fTest (f2 dEq (fN gLen (fCons (fVar 3) fNil)) (fC (.int 1)))) (fTest (f2 dIn (f2 dIx (fVar 3) (fC (.int 0))) (fN gLst (fCons (fC (.str "lapse")) (fCons (fC (.str "watch")) (fCons (fC (.str "start")) (fCons (fC (.str "off")) (fCons (fC (.str "on")) fNil))))))))) (fExp (fOM 1 gApp (fCons (fN gTup (fCons (f2 dIx (fVar 3) (fC (.int 0))) fNil)) fNil))) (fIfS (fAnd (fTest (f2 dEq (fN gLen (fCons (fVar 3) fNil)) (fC (.int 2)))) (fTest (f2 dIn (f2 dIx (fVar 3) (fC (.int 0))) (fN gLst (fCons (fC (.str "step")) (fCons (fC (.str "kill")) (fCons (fC (.str "fail")) (fCons (fC (.str "repeat")) (fCons (fC (.str "lose")) fNil))))))))) (fSeq (fIfS (fTest (f2 dNotIn (f2 dIx (fVar 3) (fC (.int 1))) (fN gLst (fCons (fC (.str "0")) (fCons (fC (.str "1")) (fCons (fC (.str "2")) (fCons (fC (.str "3")) (fCons (fC (.str "4")) fNil)))))))) (fRet (fN gTup (fCons (fVar 0) fNil))) fsNil)     (fExp (fOM 1 gApp (fCons (fN gTup (fCons (f2 dIx (fVar 3) (fC (.int 0))) (fCons (fN gIntS (fCons (f2 dIx (fVar 3) (fC (.int 1))) fNil)) fNil))) fNil)))) (fRet (fN gTup (fCons (fVar 0) fNil)))))) (ps.map .str) [.sh (.str t), .ow (.lst acc), s2, s3] = .ok e (.rt (.sh (.tup [.str t]))))
  | [], acc, s2, s3, _, _, _, _ => ⟨fun _ => ⟨s2, s3, by simp [loopF]⟩, fun h => by cases h⟩
  | p :: r, acc, s2, s3, p2, p3, hl, hp => by
    have hacc : acc.length ≤ 1000 := by omega
    have htk := hp p List.mem_cons_self
    have hg : gNm 2 (.str p) [.sh (.str t), .ow (.lst acc), s2, s3] = some [.sh (.str t), .ow (.lst acc), .sh (.str p), s3] := by simp [gNm, put, p2.free]
    have hb : (fSeq (fSet 3 (fSh (fSplit (fVar 2) (fC (.str " ")))))     (fIfS (fAnd (fTest (f2 dEq (fN gLen (fCons (fVar 3) fNil)) (fC (.int 1)))) (fTest (f2 dIn (f2 dIx (fVar 3) (fC (.int 0))) (fN gLst (fCons (fC (.str "lapse")) (fCons (fC (.str "watch")) (fCons (fC (.str "start")) (fCons (fC (.str "off")) (fCons (fC (.str "on")) fNil))))))))) (fExp (fOM 1 gApp (fCons (fN gTup (fCons (f2 dIx (fVar 3) (fC (.int 0))) fNil)) fNil))) (fIfS (fAnd (fTest (f2 dEq (fN gLen (fCons (fVar 3) fNil)) (fC (.int 2)))) (fTest (f2 dIn (f2 dIx (fVar 3) (fC (.int 0))) (fN gLst (fCons (fC (.str "step")) (fCons (fC (.str "kill")) (fCons (fC (.str "fail")) (fCons (fC (.str "repeat")) (fCons (fC (.str "lose")) fNil))))))))) (fSeq (fIfS (fTest (f2 dNotIn (f2 dIx (fVar 3) (fC (.int 1))) (fN gLst (fCons (fC (.str "0")) (fCons (fC (.str "1")) (fCons (fC (.str "2")) (fCons (fC (.str "3")) (fCons (fC (.str "4")) fNil)))))))) (fRet (fN gTup (fCons (fVar 0) fNil))) fsNil)     (fExp (fOM 1 gApp (fCons (fN gTup (fCons (f2 dIx (fVar 3) (fC (.int 0))) (fCons (fN gIntS (fCons (f2 dIx (fVar 3) (fC (.int 1))) fNil)) fNil))) fNil)))) (fRet (fN gTup (fCons (fVar 0) fNil)))))) [.sh (.str t), .ow (.lst acc), .sh (.str p), s3] = duR t p acc (Txt.split p " ") := (seq_nx (set3_ok htk hn p3)).trans (du_step hacc _)
    have ho : outD p = (rdW (Txt.split p " ")).getD .non := rfl
    rw [List.map_cons, List.map_cons]
    unfold loopF
    rw [hg]
    dsimp only
    rw [hb]
    cases e : rdW (Txt.split p " ") with
    | none =>
      rw [duR_none e]
      have : nonB (outD p) = true := by rw [ho, e]; rfl
      refine ⟨fun h => ?_, fun _ => ⟨_, rfl⟩⟩
      rw [List.any_cons, this] at h
      cases h
    | some d =>
      rw [duR_some e]
      have ed : outD p = d := by rw [ho, e]; rfl
      obtain ⟨⟨xs, hx⟩, _⟩ := rdW_ok (fun w hw => (htk.part (by rw [ey]; simp) ek hw).mono hn) e
      have hnb : nonB (outD p) = false := by rw [ed, hx]; rfl
      have ih := du_loop hn r (acc ++ [d]) (.sh (.str p)) (.sh (.lst ((Txt.split p " ").map .str))) Pl.sh Pl.sh (by simp at hl ⊢; omega) fun q hq => hp q (List.mem_cons_of_mem _ hq)
      rw [List.any_cons, hnb, Bool.false_or, ed]
      rw [List.append_assoc, List.singleton_append] at ih
      exact ih
end K20

end

section
set_option Elab.async false
set_option linter.all false
set_option maxRecDepth 100000
set_option maxHeartbeats 4000000
namespace K20
open PySem L2 DL TL
variable {cE : Str → Addr} {t : Str}
theorem due_ok {n : Nat} (h : Tok n t) (hn : n ≤ 900) : ∃ e r, g__law_due cE [.sh (.str t)] = .ok e r ∧ (r = .sh (ans t) ∨ ∃ ds, r = .fr ds ∧ ans t = .lst ds) := by
  by_cases hd : (t == ("-" : Str)) = true
  · have ha : ans t = .lst [] := if_pos hd
    cases eq_of_beq hd
    exact ⟨_, _, rfl, .inl (by rw [ha])⟩
  · have hd : (t == ("-" : Str)) = false := by simpa using hd
    have hc := (split_sum (x := t) (y := ", ") (by rw [cy]; simp) ck).2
    have hlt := h.1
    obtain ⟨h1, h2⟩ := du_loop (t := t) (n := n) (by omega) (Txt.split t ", ") [] .un .un (.inl rfl) (.inl rfl) (by simp; omega) fun p hp => h.part (by rw [cy]; simp) ck hp
    have hs : fiL (fSh (fSplit (fVar 0) (fC (.str ", ")))) [.sh (.str t), .ow (.lst []), .un, .un] = .ok [.sh (.str t), .ow (.lst []), .un, .un] ((Txt.split t ", ").map .str) := by
      have hb : (Str.length ", " == 0) = false := by decide +kernel
      simp only [fiL, fSh, fSplit, fVar, List.getElem?_cons_zero, Rs.bind, fC, h.sz (by omega : n ≤ 100000), hb, and_self, if_true]
    have hne : ¬ (t == ("-" : Str)) = true := by rw [hd]; simp
    have first : fIfS (fTest (f2 dEq (fVar 0) (fC (.str "-")))) (fRet (fN gLst fNil)) fsNil [.sh (.str t), .un, .un, .un] = .ok [.sh (.str t), .un, .un, .un] .nx := by
      refine (ifS_f (e := [.sh (.str t), .un, .un, .un]) (test_ok (two_ok (var_ok rfl) rfl ?_))).trans rfl
      simp only [dEq, eqD, hd, Option.map_some]
    cases hb : bad t with
    | false =>
      obtain ⟨s2, s3, hloop⟩ := h1 hb
      refine ⟨[.sh (.str t), .un, s2, s3], .fr (found t), gOf_rt ?_, .inr ⟨_, rfl, ?_⟩⟩
      · show f__law_due cE [.sh (.str t), .un, .un, .un] = _
        unfold f__law_due
        exact (seq_nx first).trans ((seq_nx (e := [.sh (.str t), .ow (.lst []), .un, .un]) rfl).trans ((seq_nx ((for_ok hs).trans hloop)).trans rfl))
      · unfold ans
        rw [if_neg hne, if_neg (by rw [hb]; simp)]
    | true =>
      obtain ⟨e, hloop⟩ := h2 hb
      refine ⟨e, .sh (.tup [.str t]), gOf_rt ?_, .inl ?_⟩
      · show f__law_due cE [.sh (.str t), .un, .un, .un] = _
        unfold f__law_due
        exact (seq_nx first).trans ((seq_nx (e := [.sh (.str t), .ow (.lst []), .un, .un]) rfl).trans (seq_rt ((for_ok hs).trans hloop)))
      · unfold ans
        rw [if_neg hne, if_pos hb]
theorem ans_ok {n : Nat} (h : Tok n t) (hn : n ≤ 900) : ∃ p, okP 2 (ans t) p := by
  unfold ans
  split
  · exact ⟨.list [], rfl, rfl, by decide⟩
  · split
    · obtain ⟨ps, hp, _⟩ := okP.tup (n := 1) (ds := [.str t]) fun d hd => by
        cases List.mem_singleton.mp hd
        exact ⟨_, h.okP⟩
      exact ⟨_, hp⟩
    · obtain ⟨ps, hp, _⟩ := okP.lst (n := 1) (ds := found t) fun d hd => by
        rcases found_ok h (by omega) d hd with rfl | ⟨_, q⟩
        · exact ⟨.none, rfl, rfl, by decide⟩
        · exact q
      exact ⟨_, hp⟩
/-- told and due are alike -/
theorem same_ok {n : Nat} (h : Tok n t) (hn : n ≤ 900) : dNe (ans t) (ans t) = some (.bl false) := by
  obtain ⟨p, hp⟩ := ans_ok h hn
  simp only [dNe, eqD_same hp (by decide), Option.map_some, Bool.not_true]
end K20

end

section
set_option Elab.async false
set_option linter.all false
set_option maxRecDepth 100000
set_option maxHeartbeats 4000000
namespace K20
open PySem L2 DL TL
variable {cE : Str → Addr}
def placedW : List D := [.str "step", .str "kill", .str "fail", .str "repeat", .str "lose"]
def small8 (d : D) : Prop := ∃ w : Str, d = .str w ∧ Tok 8 w
theorem tokB {w : Str} {n : Nat} (h : (Nat.ble w.length n && (tl w).all fun c => decide (c < 1114112)) = true) : Tok n w := by
  obtain ⟨h1, h2⟩ := Bool.and_eq_true_iff.mp h
  exact ⟨Nat.le_of_ble_eq_true h1, fun c hc => of_decide_eq_true (List.all_eq_true.mp h2 c hc)⟩
def chkT (n : Nat) : Option D → Bool
  | some (.str w) => Nat.ble w.length n && (tl w).all fun c => decide (c < 1114112)
  | _ => false
theorem chkT_ok {n : Nat} {o : Option D} (h : chkT n o = true) : ∃ w, o = some (.str w) ∧ Tok n w := by
  unfold chkT at h
  split at h
  · exact ⟨_, rfl, tokB h⟩
  · cases h
/-- the placed word's text -/
def nameD (d : D) (r : Int) : Option D := (dAdd d (.str " ")).bind fun x => (gStrB [.int r]).bind fun y => dAdd x y
theorem name_ok {d : D} (h : d ∈ placedW) {r : Int} (h0 : 0 ≤ r) (h5 : r < 5) : ∃ w, nameD d r = some (.str w) ∧ Tok 8 w := by
  have hr : r = 0 ∨ r = 1 ∨ r = 2 ∨ r = 3 ∨ r = 4 := by omega
  simp only [placedW, List.mem_cons, List.not_mem_nil, or_false] at h
  rcases h with rfl | rfl | rfl | rfl | rfl <;> rcases hr with rfl | rfl | rfl | rfl | rfl <;> exact chkT_ok (by kernel_rfl)
end K20

end

section
set_option Elab.async false
set_option linter.all false
set_option maxRecDepth 100000
set_option maxHeartbeats 4000000
namespace K20
open PySem L2 DL TL
variable {cE : Str → Addr} {N s3 s4 : Sl} {ms : List D}
theorem hi_first {b0 b1 : Int} (hb : BagOk b0 b1) (p4 : Pl s4) : ∃ c0 c1 w, (fSet 4 (f2 dAdd (f2 dAdd (fShR (fCallR 0 2 (g__law_of cE) [] (fCons (fN gLst (fCons (fC (.str "step")) (fCons (fC (.str "kill")) (fCons (fC (.str "fail")) (fCons (fC (.str "repeat")) (fCons (fC (.str "lose")) fNil)))))) fNil))) (fC (.str " "))) (fN gStrB (fCons (fShR (fCallR 0 2 (g__law_take cE) [] (fCons (fC (.int 5)) fNil))) fNil)))) [.rf (.lst [.int b0, .int b1]), N, .ow (.lst ms), s3, s4] = .ok [.rf (.lst [.int c0, .int c1]), N, .ow (.lst ms), s3, (.sh (.str w))] .nx ∧ BagOk c0 c1 ∧ Tok 8 w := by
  obtain ⟨e1, d0, d1, d, ho, hb1, hd⟩ := of_ok (cE := cE) (ds := placedW) hb (by decide) (by decide)
  obtain ⟨e2, c0, c1, r, ht, hb2, h0, h5⟩ := take_ok (cE := cE) (m := 5) hb1 (by decide) (by decide)
  obtain ⟨w, hw, hk⟩ := name_ok hd h0 h5
  unfold nameD at hw
  rw [Option.bind_eq_some_iff] at hw
  obtain ⟨x, hx, hw⟩ := hw
  rw [Option.bind_eq_some_iff] at hw
  obtain ⟨y, hy, hw⟩ := hw
  refine ⟨c0, c1, w, set_ok (e := [.rf (.lst [.int c0, .int c1]), N, .ow (.lst ms), s3, s4]) (two_ok (e := [.rf (.lst [.int d0, .int d1]), N, .ow (.lst ms), s3, s4]) (x := x) (y := y) (two_ok (e := [.rf (.lst [.int d0, .int d1]), N, .ow (.lst ms), s3, s4]) (x := d) (y := .str " ") ?_ rfl hx) (N_ok (ds := [.int r]) (cons_ok ?_ rfl) hy) hw) p4.free, hb2, hk⟩
  · exact shR_sh (callR_ok (o0 := .lst [.int b0, .int b1]) (o := .lst [.int b0, .int b1]) (ds := [.lst placedW]) (e := [.rf (.lst [.int b0, .int b1]), N, .ow (.lst ms), s3, s4]) rfl rfl rfl rfl ho)
  · exact shR_sh (callR_ok (o0 := .lst [.int d0, .int d1]) (o := .lst [.int d0, .int d1]) (ds := [.int 5]) (e := [.rf (.lst [.int d0, .int d1]), N, .ow (.lst ms), s3, s4]) rfl rfl rfl rfl ht)
theorem hi_second {b0 b1 : Int} {w : Str} (hb : BagOk b0 b1) (hw : Tok 8 w) (hz : ms.length ≤ 1000) : ∃ c0 c1 u, (fExp (fOM 2 gApp (fCons (fShR (fCallR 0 2 (g__law_of cE) [] (fCons (fN gLst (fCons (fVar 4) (fCons (fVar 4) (fCons (fC (.str "lapse")) (fCons (fC (.str "watch")) (fCons (fC (.str "start")) (fCons (fC (.str "off")) (fCons (fC (.str "on")) fNil)))))))) fNil))) fNil))) [.rf (.lst [.int b0, .int b1]), N, .ow (.lst ms), s3, (.sh (.str w))] = .ok [.rf (.lst [.int c0, .int c1]), N, .ow (.lst (ms ++ [.str u])), s3, (.sh (.str w))] .nx ∧ BagOk c0 c1 ∧ Tok 8 u := by
  obtain ⟨e1, c0, c1, d, ho, hb1, hd⟩ := of_ok (cE := cE) (ds := [.str w, .str w, .str "lapse", .str "watch", .str "start", .str "off", .str "on"]) hb (by simp) (by simp)
  have hu : ∃ u, d = .str u ∧ Tok 8 u := by
    simp only [List.mem_cons, List.not_mem_nil, or_false] at hd
    rcases hd with rfl | rfl | rfl | rfl | rfl | rfl | rfl
    · exact ⟨_, rfl, hw⟩
    · exact ⟨_, rfl, hw⟩
    · exact ⟨_, rfl, tokB (by kernel_rfl)⟩
    · exact ⟨_, rfl, tokB (by kernel_rfl)⟩
    · exact ⟨_, rfl, tokB (by kernel_rfl)⟩
    · exact ⟨_, rfl, tokB (by kernel_rfl)⟩
    · exact ⟨_, rfl, tokB (by kernel_rfl)⟩
  obtain ⟨u, rfl, hu⟩ := hu
  exact ⟨c0, c1, u, app_ok (e := [.rf (.lst [.int c0, .int c1]), N, .ow (.lst ms), s3, (.sh (.str w))]) (o0 := .lst ms) (xs := ms) (d := .str u) rfl rfl (cons_ok (shR_sh (callR_ok (o0 := .lst [.int b0, .int b1]) (o := .lst [.int b0, .int b1]) (ds := [.lst [.str w, .str w, .str "lapse", .str "watch", .str "start", .str "off", .str "on"]]) (e := [.rf (.lst [.int b0, .int b1]), N, .ow (.lst ms), s3, (.sh (.str w))]) rfl rfl rfl rfl ho)) rfl) rfl hz, hb1, hu⟩
end K20

end

section
set_option Elab.async false
set_option linter.all false
set_option maxRecDepth 100000
set_option maxHeartbeats 4000000
namespace K20
open PySem L2 DL TL
variable {cE : Str → Addr}
theorem history_ok {b0 b1 : Int} {n : Nat} (h : BagOk b0 b1) (hn : n ≤ 60) : ∃ e c0 c1, ∃ ws : List Str, g__law_history cE [.rf (.lst [.int b0, .int b1]), .sh (.int n)] = .ok (.rf (.lst [.int c0, .int c1]) :: e) (.fr (ws.map .str)) ∧ BagOk c0 c1 ∧ (∀ w ∈ ws, Tok 8 w) ∧ ws.length = n := by
  obtain ⟨e', h1, h2⟩ := loopF_ind (g := gNm 3) (fb := (fSeq (fSet 4 (f2 dAdd (f2 dAdd (fShR (fCallR 0 2 (g__law_of cE) [] (fCons (fN gLst (fCons (fC (.str "step")) (fCons (fC (.str "kill")) (fCons (fC (.str "fail")) (fCons (fC (.str "repeat")) (fCons (fC (.str "lose")) fNil)))))) fNil))) (fC (.str " "))) (fN gStrB (fCons (fShR (fCallR 0 2 (g__law_take cE) [] (fCons (fC (.int 5)) fNil))) fNil)))) (fExp (fOM 2 gApp (fCons (fShR (fCallR 0 2 (g__law_of cE) [] (fCons (fN gLst (fCons (fVar 4) (fCons (fVar 4) (fCons (fC (.str "lapse")) (fCons (fC (.str "watch")) (fCons (fC (.str "start")) (fCons (fC (.str "off")) (fCons (fC (.str "on")) fNil)))))))) fNil))) fNil)))))
    (I := fun k e => k ≤ n → ∃ b0 b1, ∃ ws : List Str, ∃ s3 s4, e = [.rf (.lst [.int b0, .int b1]), .sh (.int n), .ow (.lst (ws.map .str)), s3, s4] ∧ BagOk b0 b1 ∧ (∀ w ∈ ws, Tok 8 w) ∧ ws.length = k ∧ Pl s3 ∧ Pl s4)
    (rangeD 0 n) 0 [.rf (.lst [.int b0, .int b1]), .sh (.int n), .ow (.lst []), .un, .un] (fun _ => ⟨b0, b1, [], _, _, rfl, h, (fun p hp => nomatch hp), rfl, .inl rfl, .inl rfl⟩) (by
    intro j d e hd hI
    have hj : j < n := by
      have := (List.getElem?_eq_some_iff.mp hd).1
      simpa [rangeD] using this
    obtain ⟨c0, c1, ws, s3, s4, rfl, hb, hm, hl, p3, p4⟩ := hI (by omega)
    have hz : (ws.map D.str).length ≤ 1000 := by simp; omega
    obtain ⟨d0, d1, w, k1, hb1, hw⟩ := hi_first (cE := cE) (N := .sh (.int n)) (s3 := .sh d) (ms := ws.map .str) hb p4
    obtain ⟨f0, f1, u, k2, hb2, hu⟩ := hi_second (cE := cE) (N := .sh (.int n)) (s3 := .sh d) (ms := ws.map .str) hb1 hw hz
    refine ⟨[.rf (.lst [.int c0, .int c1]), .sh (.int n), .ow (.lst (ws.map .str)), .sh d, s4], _, by simp [gNm, put, p3.free], .inl ((seq_nx k1).trans k2), fun _ => ⟨f0, f1, ws ++ [u], .sh d, .sh (.str w), by simp, hb2, fun x hx => ?_, by simp [hl], Pl.sh, Pl.sh⟩⟩
    rcases List.mem_append.mp hx with hx | hx
    · exact hm x hx
    · cases List.mem_singleton.mp hx; exact hu)
  obtain ⟨c0, c1, ws, s3, s4, rfl, hb, hm, hl, _⟩ := h2 (by simp [rangeD])
  refine ⟨_, c0, c1, ws, gOf_rt (e := [.rf (.lst [.int c0, .int c1]), .sh (.int n), .un, s3, s4]) ?_, hb, hm, by simpa [rangeD] using hl⟩
  have : okR (n : Int) = true := okR_small (by omega) (by omega)
  have hr : fiR1 (fCons (fVar 1) fNil) [.rf (.lst [.int b0, .int b1]), .sh (.int n), .ow (.lst []), .un, .un] = .ok [.rf (.lst [.int b0, .int b1]), .sh (.int n), .ow (.lst []), .un, .un] (rangeD 0 (n : Int).toNat) := rg1_ok (cons_ok (var_ok rfl) rfl) this
  rw [Int.toNat_natCast] at hr
  unfold f__law_history
  exact (seq_nx (e := [.rf (.lst [.int b0, .int b1]), .sh (.int n), .ow (.lst []), .un, .un]) rfl).trans ((seq_nx ((for_ok hr).trans h1)).trans rfl)
end K20

end

section
set_option Elab.async false
set_option linter.all false
set_option maxRecDepth 100000
set_option maxHeartbeats 4000000
namespace K20
open PySem L2 DL TL
/-- a + b of small texts -/
theorem addS {a b : Str} {n m : Nat} (ha : Tok n a) (hb : Tok m b) (hz : n + m ≤ 100000) : dAdd (.str a) (.str b) = some (.str (a ++ b)) := by
  have h1 := ha.1
  have h2 := hb.1
  have : Nat.ble (a.length + b.length) 100000 = true := Nat.ble_eq_true_of_le (by omega)
  have hs : dAddS (.str a) (.str b) = some (.str (a ++ b)) := by simp only [dAddS, this, if_true]
  simp only [dAdd, dI0, hs, Option.none_or, Option.some_or]
/-- a slice of a small text -/
theorem cut_ok {fa : Ev → Rs D} {fl fh : Ev → Rs (Option Int)} {env : Ev} {a : Str} {n : Nat} {l h : Option Int} (ha : Tok n a) (hn : n ≤ 100000) (h1 : fa env = .ok env (.str a)) (h2 : fl env = .ok env l) (h3 : fh env = .ok env h) : fCutS fa fl fh env = .ok env (.str (cutS a l h)) := by
  simp only [fCutS, h1, h2, h3, Rs.bind, ha.sz hn, if_true]
end K20

end

section
set_option Elab.async false
set_option linter.all false
set_option maxRecDepth 100000
set_option maxHeartbeats 4000000
namespace K20
open PySem L2 DL TL
variable {cE : Str → Addr} {bag : Ob} {t sg : Str} {r : Int} {x3 x6 x7 x8 : Sl} {n : Nat}
theorem cut_one (h : Tok n t) (r : Int) : Tok 1 (cutS t (some r) (some (r + 1))) := by
  refine ⟨?_, (h.cut _ _).2⟩
  rw [len_tl]
  show (((tl t).drop (HT.sIx t.length 0 (some r))).take (HT.sIx t.length t.length (some (r + 1)) - HT.sIx t.length 0 (some r))).length ≤ 1
  rw [List.length_take]
  have : HT.sIx t.length t.length (some (r + 1)) - HT.sIx t.length 0 (some r) ≤ 1 := by
    simp only [HT.sIx]
    split <;> split <;> omega
  omega
def spTail (cE : Str → Addr) : Ev → Rs Fl := (fSeq (fIfS (fTest (f2 dEq (fVar 5) (fC (.int 0)))) (fRet (f2 dAdd (f2 dAdd (fCutS (fVar 1) fNoP (fP (fVar 2))) (fVar 4)) (fCutS (fVar 1) (fP (fVar 2)) fNoP))) fsNil)     (fSeq (fIfS (fTest (f2 dEq (fVar 5) (fC (.int 1)))) (fRet (f2 dAdd (fCutS (fVar 1) fNoP (fP (fVar 2))) (fCutS (fVar 1) (fP (f2 dAdd (fVar 2) (fC (.int 1)))) fNoP))) fsNil)     (fSeq (fIfS (fTest (f2 dEq (fVar 5) (fC (.int 2)))) (fRet (f2 dAdd (f2 dAdd (fCutS (fVar 1) fNoP (fP (fVar 2))) (fVar 4)) (fCutS (fVar 1) (fP (f2 dAdd (fVar 2) (fC (.int 1)))) fNoP))) fsNil)     (fSeq (fIfS (fTest (f2 dEq (fVar 5) (fC (.int 3)))) (fSeq (fPar2 7 8 (fCutS (fVar 1) (fP (fVar 2)) (fP (f2 dAdd (fVar 2) (fC (.int 1))))) (fCutS (fVar 1) (fP (f2 dAdd (fVar 2) (fC (.int 1)))) (fP (f2 dAdd (fVar 2) (fC (.int 2))))))     (fRet (f2 dAdd (f2 dAdd (f2 dAdd (fCutS (fVar 1) fNoP (fP (fVar 2))) (fVar 8)) (fVar 7)) (fCutS (fVar 1) (fP (f2 dAdd (fVar 2) (fC (.int 2)))) fNoP)))) fsNil)     (fSeq (fSet 6 (fSh (fSplit (fVar 1) (fC (.str " ")))))     (fSeq (fSet 2 (fShR (fCallR 0 2 (g__law_take cE) [] (fCons (fN gLen (fCons (fVar 6) fNil)) fNil))))     (fSeq (fIfS (fTest (f2 dEq (fVar 5) (fC (.int 4)))) (fRet (fM1 dJoin (fC (.str " ")) (f2 dAdd (f2 dAdd (fSh (fCutL (fVar 6) fNoP (fP (fVar 2)))) (fN gLst (fCons (f2 dIx (fVar 6) (fVar 2)) fNil))) (fSh (fCutL (fVar 6) (fP (fVar 2)) fNoP))))) fsNil)     (fRet (fM1 dJoin (fC (.str " ")) (f2 dAdd (fSh (fCutL (fVar 6) fNoP (fP (fVar 2)))) (fSh (fCutL (fVar 6) (fP (f2 dAdd (fVar 2) (fC (.int 1)))) fNoP))))))))))))
theorem sp0 (h : Tok n t) (hs : Tok 1 sg) (hn : n ≤ 20000) : ∃ u, spTail cE [.rf bag, .sh (.str t), .sh (.int r), x3, .sh (.str sg), .sh (.int 0), x6, x7, x8] = .ok [.rf bag, .sh (.str t), .sh (.int r), x3, .sh (.str sg), .sh (.int 0), x6, x7, x8] (.rt (.sh (.str u))) ∧ Tok (2 * n + 2) u := by
  have k1 := h.cut none (some r)
  have k2 := h.cut (some r) none
  refine ⟨cutS t none (some r) ++ sg ++ cutS t (some r) none, seq_rt ((ifS_t (e := [.rf bag, .sh (.str t), .sh (.int r), x3, .sh (.str sg), .sh (.int 0), x6, x7, x8]) rfl).trans (ret_ok (two_ok (e := [.rf bag, .sh (.str t), .sh (.int r), x3, .sh (.str sg), .sh (.int 0), x6, x7, x8]) (two_ok (e := [.rf bag, .sh (.str t), .sh (.int r), x3, .sh (.str sg), .sh (.int 0), x6, x7, x8]) (cut_ok h (by omega) rfl rfl rfl) (var_ok rfl) (addS k1 hs (by omega))) (cut_ok h (by omega) rfl rfl rfl) (addS (k1.app hs) k2 (by omega))))), ((k1.app hs).app k2).mono (by omega)⟩
theorem sp1 (h : Tok n t) (hn : n ≤ 20000) : ∃ u, spTail cE [.rf bag, .sh (.str t), .sh (.int r), x3, .sh (.str sg), .sh (.int 1), x6, x7, x8] = .ok [.rf bag, .sh (.str t), .sh (.int r), x3, .sh (.str sg), .sh (.int 1), x6, x7, x8] (.rt (.sh (.str u))) ∧ Tok (2 * n + 2) u := by
  have k1 := h.cut none (some r)
  have k2 := h.cut (some (r + 1)) none
  refine ⟨cutS t none (some r) ++ cutS t (some (r + 1)) none, ?_, (k1.app k2).mono (by omega)⟩
  unfold spTail
  refine (seq_nx (e := [.rf bag, .sh (.str t), .sh (.int r), x3, .sh (.str sg), .sh (.int 1), x6, x7, x8]) ((ifS_f (e := [.rf bag, .sh (.str t), .sh (.int r), x3, .sh (.str sg), .sh (.int 1), x6, x7, x8]) rfl).trans rfl)).trans ?_
  refine seq_rt ((ifS_t (e := [.rf bag, .sh (.str t), .sh (.int r), x3, .sh (.str sg), .sh (.int 1), x6, x7, x8]) rfl).trans ?_)
  exact ret_ok (two_ok (e := [.rf bag, .sh (.str t), .sh (.int r), x3, .sh (.str sg), .sh (.int 1), x6, x7, x8]) (cut_ok h (by omega) rfl rfl rfl) (cut_ok h (by omega) rfl rfl rfl) (addS k1 k2 (by omega)))
theorem sp2 (h : Tok n t) (hs : Tok 1 sg) (hn : n ≤ 20000) : ∃ u, spTail cE [.rf bag, .sh (.str t), .sh (.int r), x3, .sh (.str sg), .sh (.int 2), x6, x7, x8] = .ok [.rf bag, .sh (.str t), .sh (.int r), x3, .sh (.str sg), .sh (.int 2), x6, x7, x8] (.rt (.sh (.str u))) ∧ Tok (2 * n + 2) u := by
  have k1 := h.cut none (some r)
  have k2 := h.cut (some (r + 1)) none
  refine ⟨cutS t none (some r) ++ sg ++ cutS t (some (r + 1)) none, ?_, ((k1.app hs).app k2).mono (by omega)⟩
  unfold spTail
  refine (seq_nx (e := [.rf bag, .sh (.str t), .sh (.int r), x3, .sh (.str sg), .sh (.int 2), x6, x7, x8]) ((ifS_f (e := [.rf bag, .sh (.str t), .sh (.int r), x3, .sh (.str sg), .sh (.int 2), x6, x7, x8]) rfl).trans rfl)).trans ?_
  refine (seq_nx (e := [.rf bag, .sh (.str t), .sh (.int r), x3, .sh (.str sg), .sh (.int 2), x6, x7, x8]) ((ifS_f (e := [.rf bag, .sh (.str t), .sh (.int r), x3, .sh (.str sg), .sh (.int 2), x6, x7, x8]) rfl).trans rfl)).trans ?_
  refine seq_rt ((ifS_t (e := [.rf bag, .sh (.str t), .sh (.int r), x3, .sh (.str sg), .sh (.int 2), x6, x7, x8]) rfl).trans ?_)
  exact ret_ok (two_ok (e := [.rf bag, .sh (.str t), .sh (.int r), x3, .sh (.str sg), .sh (.int 2), x6, x7, x8]) (two_ok (e := [.rf bag, .sh (.str t), .sh (.int r), x3, .sh (.str sg), .sh (.int 2), x6, x7, x8]) (cut_ok h (by omega) rfl rfl rfl) (var_ok rfl) (addS k1 hs (by omega))) (cut_ok h (by omega) rfl rfl rfl) (addS (k1.app hs) k2 (by omega)))
theorem sp3 (h : Tok n t) (hn : n ≤ 20000) (p7 : Pl x7) (p8 : Pl x8) : ∃ e u, spTail cE [.rf bag, .sh (.str t), .sh (.int r), x3, .sh (.str sg), .sh (.int 3), x6, x7, x8] = .ok (.rf bag :: e) (.rt (.sh (.str u))) ∧ Tok (2 * n + 2) u := by
  have k1 := h.cut none (some r)
  have k7 : Tok 1 _ := cut_one h r
  have k8 : Tok 1 (cutS t (some (r + 1)) (some (r + 2))) := by
    have := cut_one h (r + 1)
    rw [show r + 1 + 1 = r + 2 by omega] at this
    exact this
  have k2 := h.cut (some (r + 2)) none
  refine ⟨[.sh (.str t), .sh (.int r), x3, .sh (.str sg), .sh (.int 3), x6, .sh (.str (cutS t (some r) (some (r + 1)))), .sh (.str (cutS t (some (r + 1)) (some (r + 2))))], cutS t none (some r) ++ cutS t (some (r + 1)) (some (r + 2)) ++ cutS t (some r) (some (r + 1)) ++ cutS t (some (r + 2)) none, ?_, (((k1.app k8).app k7).app k2).mono (by omega)⟩
  unfold spTail
  refine (seq_nx (e := [.rf bag, .sh (.str t), .sh (.int r), x3, .sh (.str sg), .sh (.int 3), x6, x7, x8]) ((ifS_f (e := [.rf bag, .sh (.str t), .sh (.int r), x3, .sh (.str sg), .sh (.int 3), x6, x7, x8]) rfl).trans rfl)).trans ?_
  refine (seq_nx (e := [.rf bag, .sh (.str t), .sh (.int r), x3, .sh (.str sg), .sh (.int 3), x6, x7, x8]) ((ifS_f (e := [.rf bag, .sh (.str t), .sh (.int r), x3, .sh (.str sg), .sh (.int 3), x6, x7, x8]) rfl).trans rfl)).trans ?_
  refine (seq_nx (e := [.rf bag, .sh (.str t), .sh (.int r), x3, .sh (.str sg), .sh (.int 3), x6, x7, x8]) ((ifS_f (e := [.rf bag, .sh (.str t), .sh (.int r), x3, .sh (.str sg), .sh (.int 3), x6, x7, x8]) rfl).trans rfl)).trans ?_
  refine seq_rt ((ifS_t (e := [.rf bag, .sh (.str t), .sh (.int r), x3, .sh (.str sg), .sh (.int 3), x6, x7, x8]) rfl).trans ?_)
  refine (seq_nx (e := [.rf bag, .sh (.str t), .sh (.int r), x3, .sh (.str sg), .sh (.int 3), x6, .sh (.str (cutS t (some r) (some (r + 1)))), .sh (.str (cutS t (some (r + 1)) (some (r + 2))))]) ?_).trans ?_
  · have c1 : fCutS (fVar 1) (fP (fVar 2)) (fP (f2 dAdd (fVar 2) (fC (.int 1)))) [.rf bag, .sh (.str t), .sh (.int r), x3, .sh (.str sg), .sh (.int 3), x6, x7, x8] = .ok [.rf bag, .sh (.str t), .sh (.int r), x3, .sh (.str sg), .sh (.int 3), x6, x7, x8] (.str (cutS t (some r) (some (r + 1)))) := cut_ok h (by omega) rfl rfl rfl
    have c2 : fCutS (fVar 1) (fP (f2 dAdd (fVar 2) (fC (.int 1)))) (fP (f2 dAdd (fVar 2) (fC (.int 2)))) [.rf bag, .sh (.str t), .sh (.int r), x3, .sh (.str sg), .sh (.int 3), x6, x7, x8] = .ok [.rf bag, .sh (.str t), .sh (.int r), x3, .sh (.str sg), .sh (.int 3), x6, x7, x8] (.str (cutS t (some (r + 1)) (some (r + 2)))) := cut_ok h (by omega) rfl rfl rfl
    simp [fPar2, c1, c2, Rs.bind, put, p7.free, p8.free]
  · exact ret_ok (two_ok (e := [.rf bag, .sh (.str t), .sh (.int r), x3, .sh (.str sg), .sh (.int 3), x6, .sh (.str (cutS t (some r) (some (r + 1)))), .sh (.str (cutS t (some (r + 1)) (some (r + 2))))]) (two_ok (e := [.rf bag, .sh (.str t), .sh (.int r), x3, .sh (.str sg), .sh (.int 3), x6, .sh (.str (cutS t (some r) (some (r + 1)))), .sh (.str (cutS t (some (r + 1)) (some (r + 2))))]) (two_ok (e := [.rf bag, .sh (.str t), .sh (.int r), x3, .sh (.str sg), .sh (.int 3), x6, .sh (.str (cutS t (some r) (some (r + 1)))), .sh (.str (cutS t (some (r + 1)) (some (r + 2))))]) (cut_ok h (by omega) rfl rfl rfl) (var_ok rfl) (addS k1 k8 (by omega))) (var_ok rfl) (addS (k1.app k8) k7 (by omega))) (cut_ok h (by omega) rfl rfl rfl) (addS ((k1.app k8).app k7) k2 (by omega)))
end K20

end

section
set_option Elab.async false
set_option linter.all false
set_option maxRecDepth 100000
set_option maxHeartbeats 4000000
namespace K20
open PySem L2 DL TL
variable {cE : Str → Addr} {t sg : Str} {r : Int} {x3 x6 x7 x8 : Sl} {n : Nat} {b0 b1 : Int}
theorem spl_sum2 (S : List Nat) : ∀ (l : List Nat) (k : Nat) (acc : List Nat), sumL (spl S k acc l) + (spl S k acc l).length ≤ acc.length + l.length + 1
  | [], k, acc => by rw [spl_nil]; simp [sumL]
  | c :: r, 0, acc => by
    cases h : pre S (c :: r) with
    | true =>
      rw [spl_hit h]
      have := spl_sum2 S r (S.length - 1) []
      simp [sumL] at this ⊢
      omega
    | false =>
      rw [spl_miss h]
      have := spl_sum2 S r 0 (acc ++ [c])
      simp [sumL] at this ⊢
      omega
  | c :: r, k + 1, acc => by
    have := spl_sum2 S r k acc
    show sumL (spl S k acc r) + (spl S k acc r).length ≤ _
    simp [sumL] at this ⊢
    omega
theorem split_sum2 {x y : Str} (hy : tl y ≠ []) (hk : y.cps.all (· < 256) = true) : ((Txt.split x y).map (·.length)).sum + (Txt.split x y).length ≤ x.length + 1 := by
  have h := spl_sum2 (tl y) (tl x) 0 []
  rw [← split_spl x y hy (kind_ok hk)] at h
  have e : (Txt.split x y).map (·.length) = ((Txt.split x y).map tl).map List.length := by
    rw [List.map_map]
    exact List.map_congr_left fun z _ => len_tl z
  rw [e, len_tl x]
  simp [sumL] at h ⊢
  exact h
theorem spl_pos (S : List Nat) : ∀ (l : List Nat) (k : Nat) (acc : List Nat), 0 < (spl S k acc l).length
  | [], k, acc => by rw [spl_nil]; simp
  | c :: r, 0, acc => by
    cases h : pre S (c :: r) with
    | true => rw [spl_hit h]; simp
    | false => rw [spl_miss h]; exact spl_pos S r 0 (acc ++ [c])
  | c :: r, k + 1, acc => spl_pos S r k acc
theorem joinL_len (S : List Nat) : ∀ (ps : List (List Nat)), (joinL S ps).length ≤ sumL ps + (ps.length - 1) * S.length
  | [] => by simp [joinL]
  | [p] => by simp [joinL, sumL]
  | p :: q :: r => by
    have ih := joinL_len S (q :: r)
    show (p ++ (S ++ joinL S (q :: r))).length ≤ _
    simp [sumL, Nat.add_mul] at ih ⊢
    omega
theorem join_tok {sep : Str} {ts : List Str} {n : Nat} (hs : Tok 1 sep) (ht : ∀ t ∈ ts, ∀ c ∈ tl t, c < 1114112) (hn : (ts.map (·.length)).sum + (ts.length - 1) ≤ n) : Tok n (Txt.join sep ts) := by
  rw [join_eq]
  have hc := (Tok.join (ts := ts) hs ht (Nat.le_refl _) (Nat.le_refl _)).2
  rw [join_eq] at hc
  refine ⟨?_, hc⟩
  rw [len_tl, tl_join]
  have h := joinL_len (tl sep) (ts.map tl)
  have h1 : (tl sep).length ≤ 1 := by rw [← len_tl]; exact hs.1
  have e : sumL (ts.map tl) = (ts.map (·.length)).sum := by
    unfold sumL
    rw [List.map_map]
    exact congrArg List.sum (List.map_congr_left fun z _ => (len_tl z).symm)
  rw [e, List.length_map] at h
  have h2 : (ts.length - 1) * (tl sep).length ≤ (ts.length - 1) * 1 := Nat.mul_le_mul_left _ h1
  omega
theorem cutD_to {α : Type} (xs : List α) {k : Nat} (h : k ≤ xs.length) : cutD xs none (some (k : Int)) = xs.take k := by
  unfold cutD
  rw [HT.sIx_nat, HT.sIx_none]
  simp [Nat.min_eq_left h]
theorem cutD_from {α : Type} (xs : List α) {k : Nat} (h : k ≤ xs.length) : cutD xs (some (k : Int)) none = xs.drop k := by
  unfold cutD
  rw [HT.sIx_nat, HT.sIx_none, Nat.min_eq_left h]
  exact List.take_of_length_le (by simp)
theorem addL {a b : List D} (h : a.length + b.length ≤ 1000) : dAdd (.lst a) (.lst b) = some (.lst (a ++ b)) := by
  have : small (a.length + b.length) = true := Nat.ble_eq_true_of_le h
  simp only [dAdd, dI0, dAddS, dAddL, this, if_true, Option.none_or, Option.some_or]
theorem drop_at {α : Type} {xs : List α} {k : Nat} (h : k < xs.length) : xs.drop k = xs[k] :: xs.drop (k + 1) := List.drop_eq_getElem_cons h
theorem sum_take_drop (xs : List Str) (k : Nat) : (((xs.take k) ++ xs.drop k).map (·.length)).sum = (xs.map (·.length)).sum := by rw [List.take_append_drop]
theorem ws_pre (h : Tok n t) (hn : n ≤ 450) (hb : BagOk b0 b1) (p6 : Pl x6) (w : Int) : ∃ c0 c1, ∃ k : Nat, BagOk c0 c1 ∧ k < (Txt.split t " ").length ∧ ∀ f : Ev → Rs Fl, (fSeq (fSet 6 (fSh (fSplit (fVar 1) (fC (.str " "))))) (fSeq (fSet 2 (fShR (fCallR 0 2 (g__law_take cE) [] (fCons (fN gLen (fCons (fVar 6) fNil)) fNil)))) f)) [.rf (.lst [.int b0, .int b1]), .sh (.str t), .sh (.int r), x3, .sh (.str sg), .sh (.int w), x6, x7, x8] = f [.rf (.lst [.int c0, .int c1]), .sh (.str t), .sh (.int (k : Nat)), x3, .sh (.str sg), .sh (.int w), .sh (.lst ((Txt.split t " ").map .str)), x7, x8] := by
  have hc := (split_sum (x := t) (y := " ") (by rw [ey]; simp) ek)
  have hpos : 0 < (Txt.split t " ").length := by
    have h1 : ((Txt.split t " ").map tl).length = (spl (tl " ") 0 [] (tl t)).length := by rw [split_spl t " " (by rw [ey]; simp) (kind_ok ek)]
    rw [List.length_map] at h1
    rw [h1]
    exact spl_pos _ _ _ _
  have hl := h.1
  obtain ⟨e, c0, c1, q, h1, h2, h3, h4⟩ := take_ok (cE := cE) (m := ((Txt.split t " ").length : Int)) hb (by omega) (by omega)
  refine ⟨c0, c1, q.toNat, h2, by omega, fun f => ?_⟩
  have hs : fSh (fSplit (fVar 1) (fC (.str " "))) [.rf (.lst [.int b0, .int b1]), .sh (.str t), .sh (.int r), x3, .sh (.str sg), .sh (.int w), x6, x7, x8] = .ok [.rf (.lst [.int b0, .int b1]), .sh (.str t), .sh (.int r), x3, .sh (.str sg), .sh (.int w), x6, x7, x8] (.lst ((Txt.split t " ").map .str)) := by
    have hz : (Str.length " " == 0) = false := by decide +kernel
    simp only [fSh, fSplit, fVar, List.getElem?_cons_zero, List.getElem?_cons_succ, Rs.bind, fC, h.sz (by omega : n ≤ 100000), hz, and_self, if_true]
  refine (seq_nx (set_ok hs p6.free)).trans ?_
  have hlen : fCons (fN gLen (fCons (fVar 6) fNil)) fNil [.rf (.lst [.int b0, .int b1]), .sh (.str t), .sh (.int r), x3, .sh (.str sg), .sh (.int w), .sh (.lst ((Txt.split t " ").map .str)), x7, x8] = .ok [.rf (.lst [.int b0, .int b1]), .sh (.str t), .sh (.int r), x3, .sh (.str sg), .sh (.int w), .sh (.lst ((Txt.split t " ").map .str)), x7, x8] [.int ((Txt.split t " ").length : Int)] := by
    simp [fCons, fN, fVar, fNil, gLen, itemsD, lift, Rs.bind]
  have hq : ((q.toNat : Nat) : Int) = q := by omega
  rw [hq]
  exact (seq_nx (set_ok (e := [.rf (.lst [.int c0, .int c1]), .sh (.str t), .sh (.int r), x3, .sh (.str sg), .sh (.int w), .sh (.lst ((Txt.split t " ").map .str)), x7, x8]) (shR_sh (callR_ok (o0 := .lst [.int b0, .int b1]) (o := .lst [.int b0, .int b1]) rfl hlen rfl rfl h1)) rfl))
theorem tok_words (h : Tok n t) : ∀ w ∈ Txt.split t " ", ∀ c ∈ tl w, c < 1114112 := fun w hw => (h.part (by rw [ey]; simp) ek hw).2
theorem sp4 (h : Tok n t) (hn : n ≤ 450) (hb : BagOk b0 b1) (p6 : Pl x6) : ∃ e c0 c1 u, spTail cE [.rf (.lst [.int b0, .int b1]), .sh (.str t), .sh (.int r), x3, .sh (.str sg), .sh (.int 4), x6, x7, x8] = .ok (.rf (.lst [.int c0, .int c1]) :: e) (.rt (.sh (.str u))) ∧ BagOk c0 c1 ∧ Tok (2 * n + 2) u := by
  obtain ⟨c0, c1, k, hc, hk, hf⟩ := ws_pre (cE := cE) (sg := sg) (r := r) (x3 := x3) (x7 := x7) (x8 := x8) h hn hb p6 4
  have hl := h.1
  have hs := split_sum2 (x := t) (y := " ") (by rw [ey]; simp) ek
  refine ⟨[.sh (.str t), .sh (.int (k : Nat)), x3, .sh (.str sg), .sh (.int 4), .sh (.lst ((Txt.split t " ").map .str)), x7, x8], c0, c1, Txt.join " " ((Txt.split t " ").take k ++ [(Txt.split t " ")[k]] ++ (Txt.split t " ").drop k), ?_, hc, ?_⟩
  · unfold spTail
    refine (seq_nx (e := [.rf (.lst [.int b0, .int b1]), .sh (.str t), .sh (.int r), x3, .sh (.str sg), .sh (.int 4), x6, x7, x8]) ((ifS_f (e := [.rf (.lst [.int b0, .int b1]), .sh (.str t), .sh (.int r), x3, .sh (.str sg), .sh (.int 4), x6, x7, x8]) rfl).trans rfl)).trans ?_
    refine (seq_nx (e := [.rf (.lst [.int b0, .int b1]), .sh (.str t), .sh (.int r), x3, .sh (.str sg), .sh (.int 4), x6, x7, x8]) ((ifS_f (e := [.rf (.lst [.int b0, .int b1]), .sh (.str t), .sh (.int r), x3, .sh (.str sg), .sh (.int 4), x6, x7, x8]) rfl).trans rfl)).trans ?_
    refine (seq_nx (e := [.rf (.lst [.int b0, .int b1]), .sh (.str t), .sh (.int r), x3, .sh (.str sg), .sh (.int 4), x6, x7, x8]) ((ifS_f (e := [.rf (.lst [.int b0, .int b1]), .sh (.str t), .sh (.int r), x3, .sh (.str sg), .sh (.int 4), x6, x7, x8]) rfl).trans rfl)).trans ?_
    refine (seq_nx (e := [.rf (.lst [.int b0, .int b1]), .sh (.str t), .sh (.int r), x3, .sh (.str sg), .sh (.int 4), x6, x7, x8]) ((ifS_f (e := [.rf (.lst [.int b0, .int b1]), .sh (.str t), .sh (.int r), x3, .sh (.str sg), .sh (.int 4), x6, x7, x8]) rfl).trans rfl)).trans ?_
    refine (hf _).trans ?_
    refine seq_rt ((ifS_t (e := [.rf (.lst [.int c0, .int c1]), .sh (.str t), .sh (.int (k : Nat)), x3, .sh (.str sg), .sh (.int 4), .sh (.lst ((Txt.split t " ").map .str)), x7, x8]) rfl).trans (ret_ok ?_))
    have a1 := addL (a := ((Txt.split t " ").map D.str).take k) (b := [D.str (Txt.split t " ")[k]]) (by simp; omega)
    have a2 := addL (a := ((Txt.split t " ").map D.str).take k ++ [D.str (Txt.split t " ")[k]]) (b := ((Txt.split t " ").map D.str).drop k) (by simp; omega)
    have hat : atI ((Txt.split t " ").map D.str) (k : Int) = some (D.str (Txt.split t " ")[k]) := by
      simp [atI, ixN, hk]
    have hj : dJoin (.str " ") (.lst (((Txt.split t " ").map D.str).take k ++ [D.str (Txt.split t " ")[k]] ++ ((Txt.split t " ").map D.str).drop k)) = some (.str (Txt.join " " ((Txt.split t " ").take k ++ [(Txt.split t " ")[k]] ++ (Txt.split t " ").drop k))) := by
      have := dJoin_sum (sep := " ") (ts := (Txt.split t " ").take k ++ [(Txt.split t " ")[k]] ++ (Txt.split t " ").drop k) (n := 2 * n + 2) (m := n + 2) (s := 1) (by decide +kernel) ?_ ?_ (by omega)
      · rw [List.map_append, List.map_append, List.map_take, List.map_drop] at this
        exact this
      · have h1 := sum_take_drop (Txt.split t " ") k
        have h2 : (Txt.split t " ")[k].length ≤ n := (h.part (by rw [ey]; simp) ek (List.getElem_mem hk)).1
        simp only [List.map_append, List.sum_append, List.map_cons, List.map_nil, List.sum_cons, List.sum_nil] at h1 ⊢
        omega
      · simp only [List.length_append, List.length_take, List.length_drop, List.length_cons, List.length_nil]; omega
    simp only [fM1, fC, Rs.bind, isStr, if_true, f2, fSh, fCutL, fVar, fNoP, fP, List.getElem?_cons_zero, List.getElem?_cons_succ, fN, fCons, fNil, dIx, dIxQ, itemsD, hat, Option.some_or, lift, cutD_to ((Txt.split t " ").map D.str) (k := k) (by simp; omega), cutD_from ((Txt.split t " ").map D.str) (k := k) (by simp; omega), DL.gLst, List.length_cons, List.length_nil, a1, a2, hj, show (0 + 1 ≤ 1000) = True by simp]
  · refine join_tok (by exact tokB (by decide +kernel)) ?_ ?_
    · intro w hw
      simp only [List.mem_append, List.mem_cons, List.not_mem_nil, or_false] at hw
      rcases hw with (hw | rfl) | hw
      · exact tok_words h w (List.mem_of_mem_take hw)
      · exact tok_words h _ (List.getElem_mem hk)
      · exact tok_words h w (List.mem_of_mem_drop hw)
    · have h1 := sum_take_drop (Txt.split t " ") k
      have h2 : (Txt.split t " ")[k].length ≤ n := (h.part (by rw [ey]; simp) ek (List.getElem_mem hk)).1
      simp only [List.map_append, List.sum_append, List.map_cons, List.map_nil, List.sum_cons, List.sum_nil, List.length_append, List.length_take, List.length_drop, List.length_cons, List.length_nil] at h1 ⊢
      omega
theorem sp5 (h : Tok n t) (hn : n ≤ 450) (hb : BagOk b0 b1) (p6 : Pl x6) : ∃ e c0 c1 u, spTail cE [.rf (.lst [.int b0, .int b1]), .sh (.str t), .sh (.int r), x3, .sh (.str sg), .sh (.int 5), x6, x7, x8] = .ok (.rf (.lst [.int c0, .int c1]) :: e) (.rt (.sh (.str u))) ∧ BagOk c0 c1 ∧ Tok (2 * n + 2) u := by
  obtain ⟨c0, c1, k, hc, hk, hf⟩ := ws_pre (cE := cE) (sg := sg) (r := r) (x3 := x3) (x7 := x7) (x8 := x8) h hn hb p6 5
  have hl := h.1
  have hs := split_sum2 (x := t) (y := " ") (by rw [ey]; simp) ek
  refine ⟨[.sh (.str t), .sh (.int (k : Nat)), x3, .sh (.str sg), .sh (.int 5), .sh (.lst ((Txt.split t " ").map .str)), x7, x8], c0, c1, Txt.join " " ((Txt.split t " ").take k ++ (Txt.split t " ").drop (k + 1)), ?_, hc, ?_⟩
  · unfold spTail
    refine (seq_nx (e := [.rf (.lst [.int b0, .int b1]), .sh (.str t), .sh (.int r), x3, .sh (.str sg), .sh (.int 5), x6, x7, x8]) ((ifS_f (e := [.rf (.lst [.int b0, .int b1]), .sh (.str t), .sh (.int r), x3, .sh (.str sg), .sh (.int 5), x6, x7, x8]) rfl).trans rfl)).trans ?_
    refine (seq_nx (e := [.rf (.lst [.int b0, .int b1]), .sh (.str t), .sh (.int r), x3, .sh (.str sg), .sh (.int 5), x6, x7, x8]) ((ifS_f (e := [.rf (.lst [.int b0, .int b1]), .sh (.str t), .sh (.int r), x3, .sh (.str sg), .sh (.int 5), x6, x7, x8]) rfl).trans rfl)).trans ?_
    refine (seq_nx (e := [.rf (.lst [.int b0, .int b1]), .sh (.str t), .sh (.int r), x3, .sh (.str sg), .sh (.int 5), x6, x7, x8]) ((ifS_f (e := [.rf (.lst [.int b0, .int b1]), .sh (.str t), .sh (.int r), x3, .sh (.str sg), .sh (.int 5), x6, x7, x8]) rfl).trans rfl)).trans ?_
    refine (seq_nx (e := [.rf (.lst [.int b0, .int b1]), .sh (.str t), .sh (.int r), x3, .sh (.str sg), .sh (.int 5), x6, x7, x8]) ((ifS_f (e := [.rf (.lst [.int b0, .int b1]), .sh (.str t), .sh (.int r), x3, .sh (.str sg), .sh (.int 5), x6, x7, x8]) rfl).trans rfl)).trans ?_
    refine (hf _).trans ?_
    refine (seq_nx (e := [.rf (.lst [.int c0, .int c1]), .sh (.str t), .sh (.int (k : Nat)), x3, .sh (.str sg), .sh (.int 5), .sh (.lst ((Txt.split t " ").map .str)), x7, x8]) ((ifS_f (e := [.rf (.lst [.int c0, .int c1]), .sh (.str t), .sh (.int (k : Nat)), x3, .sh (.str sg), .sh (.int 5), .sh (.lst ((Txt.split t " ").map .str)), x7, x8]) rfl).trans rfl)).trans (ret_ok ?_)
    have a1 := addL (a := ((Txt.split t " ").map D.str).take k) (b := ((Txt.split t " ").map D.str).drop (k + 1)) (by simp; omega)
    have hj : dJoin (.str " ") (.lst (((Txt.split t " ").map D.str).take k ++ ((Txt.split t " ").map D.str).drop (k + 1))) = some (.str (Txt.join " " ((Txt.split t " ").take k ++ (Txt.split t " ").drop (k + 1)))) := by
      have := dJoin_sum (sep := " ") (ts := (Txt.split t " ").take k ++ (Txt.split t " ").drop (k + 1)) (n := 2 * n + 2) (m := n + 2) (s := 1) (by decide +kernel) ?_ ?_ (by omega)
      · rw [List.map_append, List.map_take, List.map_drop] at this
        exact this
      · have h1 := sum_take_drop (Txt.split t " ") k
        rw [drop_at hk] at h1
        simp only [List.map_append, List.sum_append, List.map_cons, List.map_nil, List.sum_cons, List.sum_nil] at h1 ⊢
        omega
      · simp only [List.length_append, List.length_take, List.length_drop]; omega
    have hk1 : ((k : Nat) : Int) + 1 = ((k + 1 : Nat) : Int) := by omega
    simp only [fM1, fC, Rs.bind, isStr, if_true, f2, fSh, fCutL, fVar, fNoP, fP, List.getElem?_cons_zero, List.getElem?_cons_succ, lift, hk1, a1, hj, show dAdd (.int ((k : Nat) : Int)) (.int 1) = some (.int (((k : Nat) : Int) + 1)) from rfl, cutD_to ((Txt.split t " ").map D.str) (k := k) (by simp; omega), cutD_from ((Txt.split t " ").map D.str) (k := k + 1) (by simp; omega)]
  · refine join_tok (by exact tokB (by decide +kernel)) ?_ ?_
    · intro w hw
      simp only [List.mem_append] at hw
      rcases hw with hw | hw
      · exact tok_words h w (List.mem_of_mem_take hw)
      · exact tok_words h w (List.mem_of_mem_drop hw)
    · have h1 := sum_take_drop (Txt.split t " ") k
      rw [drop_at hk] at h1
      simp only [List.map_append, List.sum_append, List.map_cons, List.map_nil, List.sum_cons, List.sum_nil, List.length_append, List.length_take, List.length_drop] at h1 ⊢
      omega
end K20

end

section
set_option Elab.async false
set_option linter.all false
set_option maxRecDepth 100000
set_option maxHeartbeats 4000000
namespace K20
open PySem L2 DL TL
variable {cE : Str → Addr} {t sg : Str} {r : Int} {x3 x6 x7 x8 : Sl} {n : Nat} {b0 b1 : Int}
theorem szLen {s : Str} {n : Nat} (h : Tok n s) (hn : n ≤ 100000) : gLen [.str s] = some (.int s.length) := by
  have := h.sz hn
  simpa [gLen] using szS_le this
theorem spoiled_ok (h : Tok n t) (hn : n ≤ 450) (hb : BagOk b0 b1) : ∃ e c0 c1 u, g__law_spoiled cE [.rf (.lst [.int b0, .int b1]), .sh (.str t)] = .ok (.rf (.lst [.int c0, .int c1]) :: e) (.sh (.str u)) ∧ BagOk c0 c1 ∧ Tok (2 * n + 2) u := by
  have hl := h.1
  obtain ⟨e1, c0, c1, r, h1, hb1, h10, h11⟩ := take_ok (cE := cE) (m := (t.length : Int) + 1) hb (by omega) (by omega)
  obtain ⟨e2, d0, d1, d, h2, hb2, hd⟩ := of_ok (cE := cE) (ds := [.str " ", .str ";", .str "|", .str "-", .str ",", .str "+", .str ":", .str "0", .str "1", .str "2", .str "e", .str "k", .str "f", .str "b", .str "o", .str "s", .str "\n", .str "P", .str "."]) hb1 (by decide) (by decide)
  obtain ⟨e3, g0, g1, w, h3, hb3, h30, h31⟩ := take_ok (cE := cE) (m := 6) hb2 (by omega) (by omega)
  have hsg : ∃ sg : Str, d = .str sg ∧ Tok 1 sg := by
    simp only [List.mem_cons, List.not_mem_nil, or_false] at hd
    rcases hd with rfl | rfl | rfl | rfl | rfl | rfl | rfl | rfl | rfl | rfl | rfl | rfl | rfl | rfl | rfl | rfl | rfl | rfl | rfl <;> exact ⟨_, rfl, tokB (by decide +kernel)⟩
  obtain ⟨sg, rfl, hsg⟩ := hsg
  have hlen := szLen h (by omega : n ≤ 100000)
  have hadd : dAdd (.int (t.length : Int)) (.int 1) = some (.int ((t.length : Int) + 1)) := rfl
  have pre : ∀ q, spTail cE [.rf (.lst [.int g0, .int g1]), .sh (.str t), .sh (.int r), .sh (.lst [.str " ", .str ";", .str "|", .str "-", .str ",", .str "+", .str ":", .str "0", .str "1", .str "2", .str "e", .str "k", .str "f", .str "b", .str "o", .str "s", .str "\n", .str "P", .str "."]), .sh (.str sg), .sh (.int w), .un, .un, .un] = q → f__law_spoiled cE [.rf (.lst [.int b0, .int b1]), .sh (.str t), .un, .un, .un, .un, .un, .un, .un] = q := by
    rintro q rfl
    unfold f__law_spoiled spTail
    simp only [fSeq, fIfS, fIf, fTest, f1, f2, fVar, fC, fN, fCons, fNil, fShR, fFrR, fSh, fCall, fCallR, fSet, fSetO, fRet, fExp, fAnd, fOr, fNot, fAndV, fOrV, fNotV, fIxO, fOM, fBor, fBorT, fBorF, fM1, fSplit, fCutS, fCutL, fNoP, fP, fLst, fNewL, fFor, fiL, fiT, fiS, fiQ, fiR1, fiR2, fiE, fsNil, fYes, fBl, fPar2, fPar3, fPar2O, fAsg, fRaise, fRetO, gNm, gTp, gLs, gsCons, gsNil, put, free_un, free_sh, free_ow, isL_l, pl_un, pl_sh, beq_n, ob?, putOb, reob, backR, back, lift, Rs.bind, List.getElem?_cons_zero, List.getElem?_cons_succ, List.set_cons_zero, List.set_cons_succ, List.map_cons, List.map_nil, List.append_nil, List.nil_append, List.cons_append, List.length_cons, List.length_nil, Option.isSome_some, Option.isSome_none, if_true, if_false, reduceIte, Bool.false_eq_true, Bool.not_true, Bool.not_false, Option.some_or, Option.none_or, Option.map_some, Option.map_none, Option.bind_some, Option.bind_none, Nat.reduceAdd, Nat.reduceSub, Nat.reduceMul, Nat.reduceLeDiff, Nat.reduceLT, Int.reduceAdd, Int.reduceSub, Int.reduceLT, Int.reduceLE, Nat.reduceBEq, Nat.reduceEqDiff, Nat.beq_refl, eq_self_iff_true, hlen, hadd, h1, h2, h3, DL.gLst, show Nat.beq (0 + 1 + 1) 2 = true from rfl]
  have hw : w = 0 ∨ w = 1 ∨ w = 2 ∨ w = 3 ∨ w = 4 ∨ w = 5 := by omega
  have fin : ∀ {e : Ev} {k0 k1 : Int} {u : Str}, spTail cE [.rf (.lst [.int g0, .int g1]), .sh (.str t), .sh (.int r), .sh (.lst [.str " ", .str ";", .str "|", .str "-", .str ",", .str "+", .str ":", .str "0", .str "1", .str "2", .str "e", .str "k", .str "f", .str "b", .str "o", .str "s", .str "\n", .str "P", .str "."]), .sh (.str sg), .sh (.int w), .un, .un, .un] = .ok (.rf (.lst [.int k0, .int k1]) :: e) (.rt (.sh (.str u))) → BagOk k0 k1 → Tok (2 * n + 2) u → ∃ e c0 c1 u, g__law_spoiled cE [.rf (.lst [.int b0, .int b1]), .sh (.str t)] = .ok (.rf (.lst [.int c0, .int c1]) :: e) (.sh (.str u)) ∧ BagOk c0 c1 ∧ Tok (2 * n + 2) u := fun {e k0 k1 u} hq hk hu => ⟨e, k0, k1, u, gOf_rt (pre _ hq), hk, hu⟩
  rcases hw with rfl | rfl | rfl | rfl | rfl | rfl
  · obtain ⟨u, hu, ht⟩ := sp0 (cE := cE) (bag := .lst [.int g0, .int g1]) (r := r) h hsg (by omega)
    exact fin hu hb3 ht
  · obtain ⟨u, hu, ht⟩ := sp1 (cE := cE) (bag := .lst [.int g0, .int g1]) (r := r) (sg := sg) h (by omega)
    exact fin hu hb3 ht
  · obtain ⟨u, hu, ht⟩ := sp2 (cE := cE) (bag := .lst [.int g0, .int g1]) (r := r) h hsg (by omega)
    exact fin hu hb3 ht
  · obtain ⟨e, u, hu, ht⟩ := sp3 (cE := cE) (bag := .lst [.int g0, .int g1]) (r := r) (sg := sg) (x7 := .un) (x8 := .un) h (by omega) (.inl rfl) (.inl rfl)
    exact fin hu hb3 ht
  · obtain ⟨e, k0, k1, u, hu, hk, ht⟩ := sp4 (cE := cE) (r := r) (sg := sg) (x6 := .un) h hn hb3 (.inl rfl)
    exact fin hu hk ht
  · obtain ⟨e, k0, k1, u, hu, hk, ht⟩ := sp5 (cE := cE) (r := r) (sg := sg) (x6 := .un) h hn hb3 (.inl rfl)
    exact fin hu hk ht
end K20

end

section
set_option Elab.async false
set_option linter.all false
set_option maxRecDepth 100000
set_option maxHeartbeats 4000000
namespace K20
open PySem L2 DL TL
variable {cE : Str → Addr} {t : Str} {n : Nat} {b0 b1 : Int}
def odds : List D := [.non, .bl true, .int 0, .tup [], .lst [.str "step 0"], .tup [.str "on"], .str "", .str "step 5", .str "step 00", .str "step", .str "on 0", .str "-, on", .str "step 0,on", .str "step -1", .str "step 0, ", .str " ", .str "--", .lst [.tup [.str "step", .int 0]]]
def OddOk (cE : Str → Addr) (d : D) : Prop := (∃ e, g__law_told cE [.sh d] = .ok e (.sh (.tup [d]))) ∧ dNe (.tup [d]) (.tup [d]) = some (.bl false) ∧ ∃ b, gIsi [d, .ty "bool"] = some (.bl b) ∧ dNe (.bl b) (.bl b) = some (.bl false)
def chkOdd (t : Str) : Bool := (Nat.ble t.length 20 && (tl t).all fun c => decide (c < 1114112)) && ((!(t == ("-" : Str))) && (bad t))
theorem odd_str {t : Str} (h : chkOdd t = true) : ∃ e, g__law_told cE [.sh (.str t)] = .ok e (.sh (.tup [.str t])) := by
  obtain ⟨h1, h2⟩ := Bool.and_eq_true_iff.mp h
  obtain ⟨h3, h4⟩ := Bool.and_eq_true_iff.mp h2
  obtain ⟨e, he⟩ := told_ok (cE := cE) (tokB h1) (by decide)
  have ha : ans t = .tup [.str t] := by
    unfold ans
    rw [if_neg (by simpa using h3), if_pos h4]
  rw [ha] at he
  exact ⟨e, he⟩
theorem odd_non {d : D} (h : fTest (fN gIsi (fCons (fVar 0) (fCons (fC (.ty "str")) fNil))) [.sh d, .un, .un] = .ok [.sh d, .un, .un] false) : ∃ e, g__law_told cE [.sh d] = .ok e (.sh (.tup [d])) := by
  obtain ⟨e, he⟩ := hist_odd (cE := cE) h
  exact told_er he
theorem odd_ok : ∀ d ∈ odds, OddOk cE d := by
  simp only [odds, List.forall_mem_cons]
  refine ⟨⟨odd_non rfl, ?_, _, rfl, ?_⟩, ⟨odd_non rfl, ?_, _, rfl, ?_⟩, ⟨odd_non rfl, ?_, _, rfl, ?_⟩, ⟨odd_non rfl, ?_, _, rfl, ?_⟩, ⟨odd_non rfl, ?_, _, rfl, ?_⟩, ⟨odd_non rfl, ?_, _, rfl, ?_⟩,
    ⟨odd_str (by decide +kernel), ?_, _, rfl, ?_⟩, ⟨odd_str (by decide +kernel), ?_, _, rfl, ?_⟩, ⟨odd_str (by decide +kernel), ?_, _, rfl, ?_⟩, ⟨odd_str (by decide +kernel), ?_, _, rfl, ?_⟩, ⟨odd_str (by decide +kernel), ?_, _, rfl, ?_⟩, ⟨odd_str (by decide +kernel), ?_, _, rfl, ?_⟩, ⟨odd_str (by decide +kernel), ?_, _, rfl, ?_⟩, ⟨odd_str (by decide +kernel), ?_, _, rfl, ?_⟩, ⟨odd_str (by decide +kernel), ?_, _, rfl, ?_⟩, ⟨odd_str (by decide +kernel), ?_, _, rfl, ?_⟩, ⟨odd_str (by decide +kernel), ?_, _, rfl, ?_⟩,
    ⟨odd_non rfl, ?_, _, rfl, ?_⟩, fun _ h => nomatch h⟩ <;> kernel_rfl
/-- the turns of spoiling -/
theorem turns_ok {s0 s1 s3 s6 s7 : Sl} : ∀ (ds : List D) (n : Nat) (t : Str) (b0 b1 : Int) (s5 : Sl), (n + 2) * 2 ^ ds.length ≤ 902 → Tok n t → BagOk b0 b1 → Pl s5 → ∃ c0 c1 u s5', loopF (gNm 5) (fSet 4 (fShR (fCallR 2 2 (g__law_spoiled cE) [] (fCons (fVar 4) fNil)))) ds [s0, s1, .ow (.lst [.int b0, .int b1]), s3, .sh (.str t), s5, s6, s7] = .ok [s0, s1, .ow (.lst [.int c0, .int c1]), s3, .sh (.str u), s5', s6, s7] .nx ∧ Tok 900 u ∧ BagOk c0 c1 ∧ Pl s5'
  | [], n, t, b0, b1, s5, hn, h, hb, p5 => ⟨b0, b1, t, s5, rfl, h.mono (by simp at hn; omega), hb, p5⟩
  | d :: r, n, t, b0, b1, s5, hn, h, hb, p5 => by
    have hn' : (n + 2) * 2 ^ r.length * 2 ≤ 902 := by
      rw [List.length_cons, Nat.pow_succ, ← Nat.mul_assoc] at hn
      exact hn
    have hp : 1 ≤ 2 ^ r.length := Nat.one_le_two_pow
    have hq : (n + 2) * 1 ≤ (n + 2) * 2 ^ r.length := Nat.mul_le_mul_left _ hp
    obtain ⟨e, c0, c1, u, h1, hb1, hu⟩ := spoiled_ok (cE := cE) h (by omega) hb
    obtain ⟨f0, f1', v, s5', h2, hv, hb2, p5'⟩ := turns_ok (s0 := s0) (s1 := s1) (s3 := s3) (s6 := s6) (s7 := s7) r (2 * n + 2) u c0 c1 (.sh d) (by
      rw [show 2 * n + 2 + 2 = (n + 2) * 2 by omega, Nat.mul_assoc, Nat.mul_comm 2, ← Nat.mul_assoc]
      exact hn') hu hb1 Pl.sh
    refine ⟨f0, f1', v, s5', ?_, hv, hb2, p5'⟩
    rw [← h2, loopF]
    simp only [fSeq, fIfS, fIf, fTest, f1, f2, fVar, fC, fN, fCons, fNil, fShR, fFrR, fSh, fCall, fCallR, fSet, fSetO, fRet, fExp, fAnd, fOr, fNot, fAndV, fOrV, fNotV, fIxO, fOM, fBor, fBorT, fBorF, fM1, fSplit, fCutS, fCutL, fNoP, fP, fLst, fNewL, fFor, fiL, fiT, fiS, fiQ, fiR1, fiR2, fiE, fsNil, fYes, fBl, fPar2, fPar3, fPar2O, fAsg, fRaise, fRetO, gNm, gTp, gLs, gsCons, gsNil, put, free_un, free_sh, free_ow, isL_l, pl_un, pl_sh, beq_n, ob?, putOb, reob, backR, back, lift, Rs.bind, List.getElem?_cons_zero, List.getElem?_cons_succ, List.set_cons_zero, List.set_cons_succ, List.map_cons, List.map_nil, List.append_nil, List.nil_append, List.cons_append, List.length_cons, List.length_nil, Option.isSome_some, Option.isSome_none, if_true, if_false, reduceIte, Bool.false_eq_true, Bool.not_true, Bool.not_false, Option.some_or, Option.none_or, Option.map_some, Option.map_none, Option.bind_some, Option.bind_none, Nat.reduceAdd, Nat.reduceSub, Nat.reduceMul, Nat.reduceLeDiff, Nat.reduceLT, Int.reduceAdd, Int.reduceSub, Int.reduceLT, Int.reduceLE, Nat.reduceBEq, Nat.reduceEqDiff, Nat.beq_refl, eq_self_iff_true, p5.free, h1, show Nat.beq (0 + 1 + 1) 2 = true from rfl, show Nat.beq 2 2 = true from rfl]
end K20

end

section
set_option Elab.async false
set_option linter.all false
set_option maxRecDepth 100000
set_option maxHeartbeats 4000000
namespace K20
open PySem L2 DL TL
variable {cE : Str → Addr}
def lb1 (cE : Str → Addr) : Ev → Rs Fl := (fSetO 2 (fFrR (fCall 2 (g__law_bag cE) [] (fCons (fVar 0) (fCons (fVar 1) fNil)))))
def lb2 (cE : Str → Addr) : Ev → Rs Fl := (fSet 3 (fShR (fCallR 2 2 (g__law_history cE) [] (fCons (f2 dAdd (fC (.int 1)) (fShR (fCallR 2 2 (g__law_take cE) [] (fCons (fC (.int 6)) fNil)))) fNil))))
def lb3 (cE : Str → Addr) : Ev → Rs Fl := (fSet 4 (fM1 dJoin (fC (.str ", ")) (fVar 3)))
def lb4 (cE : Str → Addr) : Ev → Rs Fl := (fFor (fiR1 (fCons (fShR (fCallR 2 2 (g__law_of cE) [] (fCons (fN gLst (fCons (fC (.int 1)) (fCons (fC (.int 1)) (fCons (fC (.int 2)) (fCons (fC (.int 3)) (fCons (fC (.int 0)) fNil)))))) fNil))) fNil)) (gNm 5)     (fSet 4 (fShR (fCallR 2 2 (g__law_spoiled cE) [] (fCons (fVar 4) fNil)))))
def lb5 (cE : Str → Addr) : Ev → Rs Fl := (fIfS (fTest (f2 dNe (fShR (fCall 1 (g__law_told cE) [] (fCons (fVar 4) fNil))) (fShR (fCall 1 (g__law_due cE) [] (fCons (fVar 4) fNil))))) (fRet (fC (.bl false))) fsNil)
def lb6 (cE : Str → Addr) : Ev → Rs Fl := (fSet 6 (fShR (fCallR 2 2 (g__law_of cE) [] (fCons (fN gLst (fCons (fC .non) (fCons (fC (.bl true)) (fCons (fC (.int 0)) (fCons (fN gTup fNil) (fCons (fN gLst (fCons (fC (.str "step 0")) fNil)) (fCons (fN gTup (fCons (fC (.str "on")) fNil)) (fCons (fC (.str "")) (fCons (fC (.str "step 5")) (fCons (fC (.str "step 00")) (fCons (fC (.str "step")) (fCons (fC (.str "on 0")) (fCons (fC (.str "-, on")) (fCons (fC (.str "step 0,on")) (fCons (fC (.str "step -1")) (fCons (fC (.str "step 0, ")) (fCons (fC (.str " ")) (fCons (fC (.str "--")) (fCons (fN gLst (fCons (fN gTup (fCons (fC (.str "step")) (fCons (fC (.int 0)) fNil))) fNil)) fNil))))))))))))))))))) fNil))))
def lb7 (cE : Str → Addr) : Ev → Rs Fl := (fSet 7 (fShR (fCall 1 (g__law_told cE) [] (fCons (fVar 6) fNil))))
def lb8 (cE : Str → Addr) : Ev → Rs Fl := (fIfS (fOr (fTest (f2 dNe (fVar 7) (fN gTup (fCons (fVar 6) fNil)))) (fTest (f2 dNe (fN gIsi (fCons (f2 dIx (fVar 7) (fC (.int 0))) (fCons (fC (.ty "bool")) fNil))) (fN gIsi (fCons (fVar 6) (fCons (fC (.ty "bool")) fNil)))))) (fRet (fC (.bl false))) fsNil)
def lawB (cE : Str → Addr) : Ev → Rs Fl := (fSeq (lb1 cE) (fSeq (lb2 cE) (fSeq (lb3 cE) (fSeq (lb4 cE) (fSeq (lb5 cE) (fSeq (lb6 cE) (fSeq (lb7 cE) (lb8 cE))))))))
theorem law_eq : f_law cE = fSeq (fFor (fiR1 (fCons (fN gMax (fCons (fC (.int 1)) (fCons (fN gMin (fCons (fC (.int 10)) (fCons (fN gLen (fCons (fVar 0) fNil)) fNil))) fNil))) fNil)) (gNm 1) (lawB cE)) (fRet (fC (.bl true))) := rfl
section
variable {ns : List Int} {a : Int} {x2 x3 x4 x5 x6 x7 : Sl} {b0 b1 c0 c1 d0 d1 f0 f1' r : Int} {e1 e2 e3 e4 : Ev} {ws : List Str} {k m : Nat} {u : Str} {o : D} {b : Bool}
theorem st1 (f2 : free (some x2) = true) (h1 : g__law_bag cE [Sl.sh (D.fz (List.map D.int ns)), Sl.sh (D.int a)] = Rs.ok e1 (Dr.fr [D.int b0, D.int b1])) : lb1 cE [.sh (.fz (ns.map .int)), .sh (.int a), x2, x3, x4, x5, x6, x7] = .ok [.sh (.fz (ns.map .int)), .sh (.int a), .ow (.lst [.int b0, .int b1]), x3, x4, x5, x6, x7] .nx := by
  unfold lb1
  simp only [fSeq, fIfS, fIf, fTest, DL.f1, DL.f2, fVar, fC, fN, fCons, fNil, fShR, fFrR, fSh, fCall, fCallR, fSet, fSetO, fRet, fExp, fAnd, fOr, fNot, fAndV, fOrV, fNotV, fIxO, fOM, fBor, fBorT, fBorF, fM1, fSplit, fCutS, fCutL, fNoP, fP, fLst, fNewL, fFor, fiL, fiT, fiS, fiQ, fiR1, fiR2, fiE, fsNil, fYes, fBl, fPar2, fPar3, fPar2O, fAsg, fRaise, fRetO, gNm, gTp, gLs, gsCons, gsNil, put, free_un, free_sh, free_ow, isL_l, pl_un, pl_sh, beq_n, ob?, putOb, reob, backR, back, lift, Rs.bind, List.getElem?_cons_zero, List.getElem?_cons_succ, List.set_cons_zero, List.set_cons_succ, List.map_cons, List.map_nil, List.append_nil, List.nil_append, List.cons_append, List.length_cons, List.length_nil, Option.isSome_some, Option.isSome_none, if_true, if_false, reduceIte, Bool.false_eq_true, Bool.not_true, Bool.not_false, Option.some_or, Option.none_or, Option.map_some, Option.map_none, Option.bind_some, Option.bind_none, Nat.reduceAdd, Nat.reduceSub, Nat.reduceMul, Nat.reduceLeDiff, Nat.reduceLT, Int.reduceAdd, Int.reduceSub, Int.reduceLT, Int.reduceLE, Nat.reduceBEq, Nat.reduceEqDiff, Nat.beq_refl, eq_self_iff_true, h1, f2]
theorem st2 (p3 : Pl x3) (h2 : g__law_take cE [Sl.rf (Ob.lst [D.int b0, D.int b1]), Sl.sh (D.int 6)] = Rs.ok (Sl.rf (Ob.lst [D.int c0, D.int c1]) :: e2) (Dr.sh (D.int r))) (hadd : dAdd (.int 1) (.int r) = some (.int (k : Int))) (h3 : g__law_history cE [Sl.rf (Ob.lst [D.int c0, D.int c1]), Sl.sh (D.int ↑k)] = Rs.ok (Sl.rf (Ob.lst [D.int d0, D.int d1]) :: e3) (Dr.fr (List.map D.str ws))) : lb2 cE [.sh (.fz (ns.map .int)), .sh (.int a), .ow (.lst [.int b0, .int b1]), x3, x4, x5, x6, x7] = .ok [.sh (.fz (ns.map .int)), .sh (.int a), .ow (.lst [.int d0, .int d1]), .sh (.lst (ws.map .str)), x4, x5, x6, x7] .nx := by
  unfold lb2
  have q1 : fShR (fCallR 2 2 (g__law_take cE) [] (fCons (fC (.int 6)) fNil)) [.sh (.fz (ns.map .int)), .sh (.int a), .ow (.lst [.int b0, .int b1]), x3, x4, x5, x6, x7] = .ok [.sh (.fz (ns.map .int)), .sh (.int a), .ow (.lst [.int c0, .int c1]), x3, x4, x5, x6, x7] (.int r) := shR_sh (callR_ok (o0 := .lst [.int b0, .int b1]) (ds := [.int 6]) (e := [.sh (.fz (ns.map .int)), .sh (.int a), .ow (.lst [.int b0, .int b1]), x3, x4, x5, x6, x7]) rfl rfl rfl rfl h2)
  exact set_ok (e := [.sh (.fz (ns.map .int)), .sh (.int a), .ow (.lst [.int d0, .int d1]), x3, x4, x5, x6, x7]) (shR_fr (callR_ok (o0 := .lst [.int b0, .int b1]) (o := .lst [.int c0, .int c1]) (ds := [.int k]) (e := [.sh (.fz (ns.map .int)), .sh (.int a), .ow (.lst [.int c0, .int c1]), x3, x4, x5, x6, x7]) rfl (cons_ok (two_ok (fd := fC (.int 1)) (x := .int 1) rfl q1 hadd) rfl) rfl rfl h3)) p3.free
theorem st3 (p4 : Pl x4) (hj : dJoin (D.str (Str.ofString ", ")) (D.lst (List.map D.str ws)) = some (D.str (Txt.join (Str.ofString ", ") ws))) : lb3 cE [.sh (.fz (ns.map .int)), .sh (.int a), x2, .sh (.lst (ws.map .str)), x4, x5, x6, x7] = .ok [.sh (.fz (ns.map .int)), .sh (.int a), x2, .sh (.lst (ws.map .str)), .sh (.str (Txt.join ", " ws)), x5, x6, x7] .nx := by
  unfold lb3
  simp only [fSeq, fIfS, fIf, fTest, DL.f1, DL.f2, fVar, fC, fN, fCons, fNil, fShR, fFrR, fSh, fCall, fCallR, fSet, fSetO, fRet, fExp, fAnd, fOr, fNot, fAndV, fOrV, fNotV, fIxO, fOM, fBor, fBorT, fBorF, fM1, fSplit, fCutS, fCutL, fNoP, fP, fLst, fNewL, fFor, fiL, fiT, fiS, fiQ, fiR1, fiR2, fiE, fsNil, fYes, fBl, fPar2, fPar3, fPar2O, fAsg, fRaise, fRetO, gNm, gTp, gLs, gsCons, gsNil, put, free_un, free_sh, free_ow, isL_l, pl_un, pl_sh, beq_n, ob?, putOb, reob, backR, back, lift, Rs.bind, List.getElem?_cons_zero, List.getElem?_cons_succ, List.set_cons_zero, List.set_cons_succ, List.map_cons, List.map_nil, List.append_nil, List.nil_append, List.cons_append, List.length_cons, List.length_nil, Option.isSome_some, Option.isSome_none, if_true, if_false, reduceIte, Bool.false_eq_true, Bool.not_true, Bool.not_false, Option.some_or, Option.none_or, Option.map_some, Option.map_none, Option.bind_some, Option.bind_none, Nat.reduceAdd, Nat.reduceSub, Nat.reduceMul, Nat.reduceLeDiff, Nat.reduceLT, Int.reduceAdd, Int.reduceSub, Int.reduceLT, Int.reduceLE, Nat.reduceBEq, Nat.reduceEqDiff, Nat.beq_refl, eq_self_iff_true, isStr, hj, p4.free]
theorem st4a (h4 : g__law_of cE [Sl.rf (Ob.lst [D.int d0, D.int d1]), Sl.sh (D.lst [D.int 1, D.int 1, D.int 2, D.int 3, D.int 0])] = Rs.ok (Sl.rf (Ob.lst [D.int f0, D.int f1']) :: e4) (Dr.sh (D.int ↑m))) : (fCons (fShR (fCallR 2 2 (g__law_of cE) [] (fCons (fN gLst (fCons (fC (.int 1)) (fCons (fC (.int 1)) (fCons (fC (.int 2)) (fCons (fC (.int 3)) (fCons (fC (.int 0)) fNil)))))) fNil))) fNil) [.sh (.fz (ns.map .int)), .sh (.int a), .ow (.lst [.int d0, .int d1]), x3, x4, x5, x6, x7] = .ok [.sh (.fz (ns.map .int)), .sh (.int a), .ow (.lst [.int f0, .int f1']), x3, x4, x5, x6, x7] [.int m] := by
  simp only [fSeq, fIfS, fIf, fTest, DL.f1, DL.f2, fVar, fC, fN, fCons, fNil, fShR, fFrR, fSh, fCall, fCallR, fSet, fSetO, fRet, fExp, fAnd, fOr, fNot, fAndV, fOrV, fNotV, fIxO, fOM, fBor, fBorT, fBorF, fM1, fSplit, fCutS, fCutL, fNoP, fP, fLst, fNewL, fFor, fiL, fiT, fiS, fiQ, fiR1, fiR2, fiE, fsNil, fYes, fBl, fPar2, fPar3, fPar2O, fAsg, fRaise, fRetO, gNm, gTp, gLs, gsCons, gsNil, put, free_un, free_sh, free_ow, isL_l, pl_un, pl_sh, beq_n, ob?, putOb, reob, backR, back, lift, Rs.bind, List.getElem?_cons_zero, List.getElem?_cons_succ, List.set_cons_zero, List.set_cons_succ, List.map_cons, List.map_nil, List.append_nil, List.nil_append, List.cons_append, List.length_cons, List.length_nil, Option.isSome_some, Option.isSome_none, if_true, if_false, reduceIte, Bool.false_eq_true, Bool.not_true, Bool.not_false, Option.some_or, Option.none_or, Option.map_some, Option.map_none, Option.bind_some, Option.bind_none, Nat.reduceAdd, Nat.reduceSub, Nat.reduceMul, Nat.reduceLeDiff, Nat.reduceLT, Int.reduceAdd, Int.reduceSub, Int.reduceLT, Int.reduceLE, Nat.reduceBEq, Nat.reduceEqDiff, Nat.beq_refl, eq_self_iff_true, DL.gLst, h4]
theorem st6 (p6 : Pl x6) (h8 : g__law_of cE [Sl.rf (Ob.lst [D.int b0, D.int b1]), Sl.sh (D.lst odds)] = Rs.ok (Sl.rf (Ob.lst [D.int c0, D.int c1]) :: e2) (Dr.sh o)) : lb6 cE [.sh (.fz (ns.map .int)), .sh (.int a), .ow (.lst [.int b0, .int b1]), x3, x4, x5, x6, x7] = .ok [.sh (.fz (ns.map .int)), .sh (.int a), .ow (.lst [.int c0, .int c1]), x3, x4, x5, .sh o, x7] .nx := by
  unfold lb6
  have ha : (fCons (fN gLst (fCons (fC .non) (fCons (fC (.bl true)) (fCons (fC (.int 0)) (fCons (fN gTup fNil) (fCons (fN gLst (fCons (fC (.str "step 0")) fNil)) (fCons (fN gTup (fCons (fC (.str "on")) fNil)) (fCons (fC (.str "")) (fCons (fC (.str "step 5")) (fCons (fC (.str "step 00")) (fCons (fC (.str "step")) (fCons (fC (.str "on 0")) (fCons (fC (.str "-, on")) (fCons (fC (.str "step 0,on")) (fCons (fC (.str "step -1")) (fCons (fC (.str "step 0, ")) (fCons (fC (.str " ")) (fCons (fC (.str "--")) (fCons (fN gLst (fCons (fN gTup (fCons (fC (.str "step")) (fCons (fC (.int 0)) fNil))) fNil)) fNil))))))))))))))))))) fNil) [.sh (.fz (ns.map .int)), .sh (.int a), .ow (.lst [.int b0, .int b1]), x3, x4, x5, x6, x7] = .ok [.sh (.fz (ns.map .int)), .sh (.int a), .ow (.lst [.int b0, .int b1]), x3, x4, x5, x6, x7] [.lst odds] := rfl
  exact set_ok (shR_sh (callR_ok (o0 := .lst [.int b0, .int b1]) rfl ha rfl rfl h8)) p6.free
theorem st7 (p7 : Pl x7) (h9 : g__law_told cE [.sh o] = .ok e1 (.sh (.tup [o]))) : lb7 cE [.sh (.fz (ns.map .int)), .sh (.int a), x2, x3, x4, x5, .sh o, x7] = .ok [.sh (.fz (ns.map .int)), .sh (.int a), x2, x3, x4, x5, .sh o, .sh (.tup [o])] .nx := by
  unfold lb7
  simp only [fSeq, fIfS, fIf, fTest, DL.f1, DL.f2, fVar, fC, fN, fCons, fNil, fShR, fFrR, fSh, fCall, fCallR, fSet, fSetO, fRet, fExp, fAnd, fOr, fNot, fAndV, fOrV, fNotV, fIxO, fOM, fBor, fBorT, fBorF, fM1, fSplit, fCutS, fCutL, fNoP, fP, fLst, fNewL, fFor, fiL, fiT, fiS, fiQ, fiR1, fiR2, fiE, fsNil, fYes, fBl, fPar2, fPar3, fPar2O, fAsg, fRaise, fRetO, gNm, gTp, gLs, gsCons, gsNil, put, free_un, free_sh, free_ow, isL_l, pl_un, pl_sh, beq_n, ob?, putOb, reob, backR, back, lift, Rs.bind, List.getElem?_cons_zero, List.getElem?_cons_succ, List.set_cons_zero, List.set_cons_succ, List.map_cons, List.map_nil, List.append_nil, List.nil_append, List.cons_append, List.length_cons, List.length_nil, Option.isSome_some, Option.isSome_none, if_true, if_false, reduceIte, Bool.false_eq_true, Bool.not_true, Bool.not_false, Option.some_or, Option.none_or, Option.map_some, Option.map_none, Option.bind_some, Option.bind_none, Nat.reduceAdd, Nat.reduceSub, Nat.reduceMul, Nat.reduceLeDiff, Nat.reduceLT, Int.reduceAdd, Int.reduceSub, Int.reduceLT, Int.reduceLE, Nat.reduceBEq, Nat.reduceEqDiff, Nat.beq_refl, eq_self_iff_true, h9, p7.free]
theorem st8 (hne : dNe (D.tup [o]) (D.tup [o]) = some (D.bl false)) (hbi : gIsi [o, D.ty "bool"] = some (D.bl b)) (hbb : dNe (D.bl b) (D.bl b) = some (D.bl false)) : lb8 cE [.sh (.fz (ns.map .int)), .sh (.int a), x2, x3, x4, x5, .sh o, .sh (.tup [o])] = .ok [.sh (.fz (ns.map .int)), .sh (.int a), x2, x3, x4, x5, .sh o, .sh (.tup [o])] .nx := by
  unfold lb8
  have hix : dIx (.tup [o]) (.int 0) = some o := rfl
  simp only [fSeq, fIfS, fIf, fTest, DL.f1, DL.f2, fVar, fC, fN, fCons, fNil, fShR, fFrR, fSh, fCall, fCallR, fSet, fSetO, fRet, fExp, fAnd, fOr, fNot, fAndV, fOrV, fNotV, fIxO, fOM, fBor, fBorT, fBorF, fM1, fSplit, fCutS, fCutL, fNoP, fP, fLst, fNewL, fFor, fiL, fiT, fiS, fiQ, fiR1, fiR2, fiE, fsNil, fYes, fBl, fPar2, fPar3, fPar2O, fAsg, fRaise, fRetO, gNm, gTp, gLs, gsCons, gsNil, put, free_un, free_sh, free_ow, isL_l, pl_un, pl_sh, beq_n, ob?, putOb, reob, backR, back, lift, Rs.bind, List.getElem?_cons_zero, List.getElem?_cons_succ, List.set_cons_zero, List.set_cons_succ, List.map_cons, List.map_nil, List.append_nil, List.nil_append, List.cons_append, List.length_cons, List.length_nil, Option.isSome_some, Option.isSome_none, if_true, if_false, reduceIte, Bool.false_eq_true, Bool.not_true, Bool.not_false, Option.some_or, Option.none_or, Option.map_some, Option.map_none, Option.bind_some, Option.bind_none, Nat.reduceAdd, Nat.reduceSub, Nat.reduceMul, Nat.reduceLeDiff, Nat.reduceLT, Int.reduceAdd, Int.reduceSub, Int.reduceLT, Int.reduceLE, Nat.reduceBEq, Nat.reduceEqDiff, Nat.beq_refl, eq_self_iff_true, DL.gTup, hne, hix, hbi, hbb]
end
theorem turn_ok (ns : List Int) {a : Int} (h0 : 0 ≤ a) (ha : a < 1000) {x2 x3 x4 x5 x6 x7 : Sl} (f2 : free (some x2) = true) (p3 : Pl x3) (p4 : Pl x4) (p5 : Pl x5) (p6 : Pl x6) (p7 : Pl x7) : ∃ y2 y3 y4 y5 y6 y7, lawB cE [.sh (.fz (ns.map .int)), .sh (.int a), x2, x3, x4, x5, x6, x7] = .ok [.sh (.fz (ns.map .int)), .sh (.int a), .ow y2, .sh y3, .sh y4, y5, .sh y6, .sh y7] .nx ∧ Pl y5 := by
  obtain ⟨e1, b0, b1, h1, hb1⟩ := bag_ok (cE := cE) ns h0 ha
  obtain ⟨e2, c0, c1, r, h2, hb2, h20, h21⟩ := take_ok (cE := cE) (m := 6) hb1 (by omega) (by omega)
  obtain ⟨k, hk, hk2⟩ : ∃ k : Nat, 1 + r = (k : Int) ∧ k ≤ 6 := ⟨(1 + r).toNat, by omega, by omega⟩
  obtain ⟨e3, d0, d1, ws, h3, hb3, hws, hwl⟩ := history_ok (cE := cE) (n := k) hb2 (by omega)
  have hsum : ∀ l : List Str, (∀ w ∈ l, Tok 8 w) → (l.map (·.length)).sum ≤ 8 * l.length := by
    intro l
    induction l with
    | nil => intro _; simp
    | cons x r ih =>
      intro h
      have := ih fun w hw => h w (List.mem_cons_of_mem _ hw)
      have := (h x List.mem_cons_self).1
      simp only [List.map_cons, List.sum_cons, List.length_cons]
      omega
  have hs := hsum ws hws
  have hj := dJoin_sum (sep := ", ") (ts := ws) (n := 48) (m := 6) (s := 2) (by decide +kernel) (by omega) (by omega) (by omega)
  have htok : Tok 60 (Txt.join ", " ws) := (Tok.join (sep := ", ") (s := 2) (n := 48) (m := 6) (tokB (by decide +kernel)) (fun w hw => (hws w hw).2) (by omega) (by omega))
  obtain ⟨e4, f0, f1', d, h4, hb4, hd⟩ := of_ok (cE := cE) (ds := [.int 1, .int 1, .int 2, .int 3, .int 0]) hb3 (by decide) (by decide)
  obtain ⟨m, rfl, hm⟩ : ∃ m : Nat, d = .int m ∧ m ≤ 3 := by
    simp only [List.mem_cons, List.not_mem_nil, or_false] at hd
    rcases hd with rfl | rfl | rfl | rfl | rfl
    · exact ⟨1, rfl, by omega⟩
    · exact ⟨1, rfl, by omega⟩
    · exact ⟨2, rfl, by omega⟩
    · exact ⟨3, rfl, by omega⟩
    · exact ⟨0, rfl, by omega⟩
  have hR : okR (m : Int) = true := okR_small (by omega) (by omega)
  have hpw : (60 + 2) * 2 ^ (rangeD 0 (m : Int).toNat).length ≤ 902 := by
    have : (rangeD 0 (m : Int).toNat).length = m := by simp [rangeD]
    rw [this]
    have : m = 0 ∨ m = 1 ∨ m = 2 ∨ m = 3 := by omega
    rcases this with rfl | rfl | rfl | rfl <;> decide
  obtain ⟨g0, g1, u, s5', h5, hu, hb5, p5'⟩ := turns_ok (cE := cE) (s0 := .sh (.fz (ns.map .int))) (s1 := .sh (.int a)) (s3 := .sh (.lst (ws.map .str))) (s6 := x6) (s7 := x7) (rangeD 0 (m : Int).toNat) 60 _ f0 f1' x5 hpw htok hb4 p5
  obtain ⟨e6, h6⟩ := told_ok (cE := cE) hu (by omega)
  obtain ⟨e7, q, h7, hq⟩ := due_ok (cE := cE) hu (by omega)
  have hsame := same_ok hu (by omega)
  obtain ⟨e8, i0, i1, o, h8, hb8, ho⟩ := of_ok (cE := cE) (ds := odds) hb5 (by decide) (by decide)
  obtain ⟨⟨e9, h9⟩, hne, b, hbi, hbb⟩ := odd_ok (cE := cE) o ho
  have hadd : dAdd (.int 1) (.int r) = some (.int (k : Int)) := by rw [← hk]; rfl
  have hdue : fShR (fCall 1 (g__law_due cE) [] (fCons (fVar 4) fNil)) [.sh (.fz (ns.map .int)), .sh (.int a), .ow (.lst [.int g0, .int g1]), .sh (.lst (ws.map .str)), .sh (.str u), s5', x6, x7] = .ok [.sh (.fz (ns.map .int)), .sh (.int a), .ow (.lst [.int g0, .int g1]), .sh (.lst (ws.map .str)), .sh (.str u), s5', x6, x7] (ans u) := by
    rcases hq with rfl | ⟨ds, rfl, hds⟩
    · exact shR_sh (call_ok (cons_ok (var_ok rfl) rfl) rfl h7)
    · rw [hds]
      exact shR_fr (call_ok (cons_ok (var_ok rfl) rfl) rfl h7)
  have ht : fShR (fCall 1 (g__law_told cE) [] (fCons (fVar 4) fNil)) [.sh (.fz (ns.map .int)), .sh (.int a), .ow (.lst [.int g0, .int g1]), .sh (.lst (ws.map .str)), .sh (.str u), s5', x6, x7] = .ok [.sh (.fz (ns.map .int)), .sh (.int a), .ow (.lst [.int g0, .int g1]), .sh (.lst (ws.map .str)), .sh (.str u), s5', x6, x7] (ans u) := shR_sh (call_ok (cons_ok (var_ok rfl) rfl) rfl h6)
  refine ⟨.lst [.int i0, .int i1], .lst (ws.map .str), .str u, s5', o, .tup [o], ?_, p5'⟩
  unfold lawB
  have k4 : lb4 cE [.sh (.fz (ns.map .int)), .sh (.int a), .ow (.lst [.int d0, .int d1]), .sh (.lst (ws.map .str)), .sh (.str (Txt.join ", " ws)), x5, x6, x7] = .ok [.sh (.fz (ns.map .int)), .sh (.int a), .ow (.lst [.int g0, .int g1]), .sh (.lst (ws.map .str)), .sh (.str u), s5', x6, x7] .nx := (for_ok (rg1_ok (st4a h4) hR)).trans h5
  have k5 : lb5 cE [.sh (.fz (ns.map .int)), .sh (.int a), .ow (.lst [.int g0, .int g1]), .sh (.lst (ws.map .str)), .sh (.str u), s5', x6, x7] = .ok [.sh (.fz (ns.map .int)), .sh (.int a), .ow (.lst [.int g0, .int g1]), .sh (.lst (ws.map .str)), .sh (.str u), s5', x6, x7] .nx := (ifS_f (test_ok (two_ok ht hdue hsame))).trans rfl
  exact (seq_nx (st1 f2 h1)).trans ((seq_nx (st2 p3 h2 hadd h3)).trans ((seq_nx (st3 p4 hj)).trans ((seq_nx k4).trans ((seq_nx k5).trans ((seq_nx (st6 p6 h8)).trans ((seq_nx (st7 p7 h9)).trans (st8 hne hbi hbb)))))))
theorem law_true (cE : Str → Addr) (ns : List Int) (hns : ns.length ≤ 63) : ∃ e, g_law cE [.sh (.fz (ns.map .int))] = .ok e (.sh (.bl true)) := by
  obtain ⟨e', h1, h2⟩ := loopF_ind (g := gNm 1) (fb := lawB cE)
    (I := fun _ e => ∃ x1 x2 x3 x4 x5 x6 x7, e = [.sh (.fz (ns.map .int)), x1, x2, x3, x4, x5, x6, x7] ∧ Pl x1 ∧ free (some x2) = true ∧ Pl x3 ∧ Pl x4 ∧ Pl x5 ∧ Pl x6 ∧ Pl x7)
    (rangeD 0 (if (if (ns.length : Int) < 10 then (ns.length : Int) else 10) > 1 then (if (ns.length : Int) < 10 then (ns.length : Int) else 10) else 1 : Int).toNat) 0 [.sh (.fz (ns.map .int)), .un, .un, .un, .un, .un, .un, .un] ⟨_, _, _, _, _, _, _, rfl, .inl rfl, rfl, .inl rfl, .inl rfl, .inl rfl, .inl rfl, .inl rfl⟩ (by
    rintro j d e hd ⟨x1, x2, x3, x4, x5, x6, x7, rfl, p1, f2, p3, p4, p5, p6, p7⟩
    have hj : d = .int j ∧ j < 10 := by
      obtain ⟨hlt, hg⟩ := List.getElem?_eq_some_iff.mp hd
      simp only [rangeD, List.length_map, List.length_range] at hlt
      simp only [rangeD, List.getElem_map, List.getElem_range, Int.zero_add] at hg
      refine ⟨hg.symm, ?_⟩
      omega
    obtain ⟨rfl, hj⟩ := hj
    obtain ⟨y2, y3, y4, y5, y6, y7, h, q5⟩ := turn_ok (cE := cE) ns (a := (j : Int)) (by omega) (by omega) f2 p3 p4 p5 p6 p7
    exact ⟨_, _, by simp only [fSeq, fIfS, fIf, fTest, DL.f1, DL.f2, fVar, fC, fN, fCons, fNil, fShR, fFrR, fSh, fCall, fCallR, fSet, fSetO, fRet, fExp, fAnd, fOr, fNot, fAndV, fOrV, fNotV, fIxO, fOM, fBor, fBorT, fBorF, fM1, fSplit, fCutS, fCutL, fNoP, fP, fLst, fNewL, fFor, fiL, fiT, fiS, fiQ, fiR1, fiR2, fiE, fsNil, fYes, fBl, fPar2, fPar3, fPar2O, fAsg, fRaise, fRetO, gNm, gTp, gLs, gsCons, gsNil, put, free_un, free_sh, free_ow, isL_l, pl_un, pl_sh, beq_n, ob?, putOb, reob, backR, back, lift, Rs.bind, List.getElem?_cons_zero, List.getElem?_cons_succ, List.set_cons_zero, List.set_cons_succ, List.map_cons, List.map_nil, List.append_nil, List.nil_append, List.cons_append, List.length_cons, List.length_nil, Option.isSome_some, Option.isSome_none, if_true, if_false, reduceIte, Bool.false_eq_true, Bool.not_true, Bool.not_false, Option.some_or, Option.none_or, Option.map_some, Option.map_none, Option.bind_some, Option.bind_none, Nat.reduceAdd, Nat.reduceSub, Nat.reduceMul, Nat.reduceLeDiff, Nat.reduceLT, Int.reduceAdd, Int.reduceSub, Int.reduceLT, Int.reduceLE, Nat.reduceBEq, Nat.reduceEqDiff, Nat.beq_refl, eq_self_iff_true, p1.free], .inl h, _, _, _, _, _, _, _, rfl, Pl.sh, rfl, Pl.sh, Pl.sh, q5, Pl.sh, Pl.sh⟩)
  obtain ⟨x1, x2, x3, x4, x5, x6, x7, rfl, _⟩ := h2
  refine ⟨_, gOf_rt (e := [.sh (.fz (ns.map .int)), x1, x2, x3, x4, x5, x6, x7]) ?_⟩
  show f_law cE [.sh (.fz (ns.map .int)), .un, .un, .un, .un, .un, .un, .un] = _
  rw [law_eq]
  refine (seq_nx ((for_ok (e := [.sh (.fz (ns.map .int)), .un, .un, .un, .un, .un, .un, .un]) (rg1_ok (cons_ok (N_ok (cons_ok rfl (cons_ok (N_ok (cons_ok rfl (cons_ok (N_ok (cons_ok (var_ok rfl) rfl) rfl) rfl)) rfl) rfl)) rfl) rfl) ?_)).trans ?_)).trans rfl
  · exact okR_small (by split <;> (try split) <;> simp <;> omega) (by split <;> (try split) <;> simp <;> omega)
  · simpa using h1
end K20

end

section
open PySem PySem.W PySem.Calls PyProof.Rows
set_option maxRecDepth 100000 in
set_option maxHeartbeats 8000000 in
theorem PySem.Challenge.cw_selfchains_k20_texts_of_histories_refuse_holds : PySem.Challenge.rw_selfchains_k20_texts_of_histories_refuse.Holds := by
  w_on; o_law
  refine HandSHeadRun.head_any (r := OpenLaw.row PySem.Challenge.rw_selfchains_k20_texts_of_histories_refuse) (q := view (OpenLaw.row PySem.Challenge.rw_selfchains_k20_texts_of_histories_refuse).prog [15]) (H := K20.hk) (ob := K20.ob) (M := 20000) (loose := K20.loose) (d := HandSHeadRun.topDef (OpenLaw.row PySem.Challenge.rw_selfchains_k20_texts_of_histories_refuse).prog 15) (kwd := []) K20.ob_eq
    (by kernel_rfl) (fun s => by kernel_rfl) K20.run (by kernel_rfl) (by kernel_rfl) (by kernel_rfl) (by rfl) (by first | assumption | decide +kernel) (by decide +kernel) ⟨rfl, rfl, rfl, rfl, rfl, by decide +kernel⟩ ?hw ?hc
  case hw => w_witness2
  case hc =>
    refine DL.walkM (l := PySem.Challenge.rw_selfchains_k20_texts_of_histories_refuse) (n := 63) (k := 5) (x := "_law_script") rfl (by decide) (by kernel_rfl) ⟨rfl, by decide, by decide⟩ ?F
    intro w mg fa h Y G hmg0
    obtain ⟨K, KX, c⟩ := Y
    have hmg : mg ("law" : PySem.Str) = some (.ref fa) := by
      have e : (HandSHeadRun.topDef (OpenLaw.row PySem.Challenge.rw_selfchains_k20_texts_of_histories_refuse).prog 15).name = ("law" : PySem.Str) := by kernel_rfl
      rw [← e]
      exact hmg0
    obtain ⟨fd, hb, hF⟩ := K20.facts (P := (PySem.Challenge.rw_selfchains_k20_texts_of_histories_refuse).prog) (w := w) KX G hmg c
    exact ⟨K, fd, K20.g_law (He.ga K), KX, hb, K20.law_true (He.ga K), hF⟩

end
