import PyProof.Rows.All
import Wide.All
import OpenK.AllK
import Wide.FinOn
import KE.KStateDown
import HandS.ForMost
import HandS.ForExc
import HandS.CallSlots
import HandS.More
import HandS.Defaults
import HandS.HeadHook1
import HandS.Star
import HandS.Style
import HandS.Deep
import HandS.IsInst
import HandS.FStr
import HandS.Text
import HandS.Replace
import KE.SortData
import HandS.Property
import HandS.ClsMeth
import HandS.MakeKw
import HandS.MakeKwOnly
import HandS.ExcOwn
import HandS.RaiseMore
import HandS.ExcInit
import HandS.ExcField
import KE.KExcInit
import PyProof.ExcBaseAll.RuntimeError
import PyProof.ExcBaseAll.LookupError
import PyProof.ExcBaseAll.OverflowError
import HandS.TryOnly
import HandS.TupAny
import HandS.Conv
import HandS.ReCall
import PyProof.Rows.CountFlat
import PyProof.StrCalls6
import Lean
import HandS.Ends
import HandS.Head0
import HandS.Head1
import HandS.Head2
import HandS.HeadEnd
import HandS.HeadHook2
import HandS.HeadHook3
import PySem.Challenge.RW_selfchains_k08_texts_of_standings
import HandS.ReplaceLit
import PyProof.ToksMono
import PyProof.Rows.TupAssign
import PyProof.TupleIter
import KE.KUnpackStar
import HandS.ExcValue

section
set_option Elab.async false
set_option linter.all false
set_option maxRecDepth 100000
set_option maxHeartbeats 2000000
/-! DA: deep values, slots, the state relation, readings by functions of plain data. -/
namespace DL
open PySem L2
abbrev Frag := PySem.W.Frag

/-- a deep value -/
inductive D where
  | non | bl (b : Bool) | int (i : Int) | str (x : Str) | tup (xs : List D) | lst (xs : List D) | fz (xs : List D) | obj (C : Str) (ns : List Str) (ds : List D) | glo (x : Str) | dct (ks : List Key) (ds : List D) | ref (a : Addr) | ty (n : String)

mutual
inductive Rp (K : Frag) (H : Hp) : D → V → Prop
  | non : Rp K H .non .non
  | bl (b : Bool) : Rp K H (.bl b) (.bl b)
  | int (i : Int) : Rp K H (.int i) (.int i)
  | str (x : Str) : Rp K H (.str x) (.str x)
  | ref (a : Addr) : Rp K H (.ref a) (.ref a)
  | ty (n : String) : Rp K H (.ty n) (.ty n)
  | tup {a : Addr} {xs : List V} {ds : List D} : SqT K H a xs → RpA K H ds xs → Rp K H (.tup ds) (.ref a)
  | lst {a : Addr} {xs : List V} {ds : List D} : H a = some (.lst xs) → RpA K H ds xs → Rp K H (.lst ds) (.ref a)
  | fz {a : Addr} {xs : List V} {ds : List D} : SqL K H a xs → RpA K H ds xs → Rp K H (.fz ds) (.ref a)
  | glo (x : Str) : Rp K H (.glo x) (.ref (He.ga K x))
  | obj {a dx : Addr} {C : Str} {fs : List (Str × V)} {ds : List D} : H a = some (.ins (He.ga K C) dx fs) → RpA K H ds (fs.map (·.2)) → Rp K H (.obj C (fs.map (·.1)) ds) (.ref a)
  | dct {a : Addr} {kvs : List (Key × V)} {ds : List D} : H a = some (.dK kvs) → RpA K H ds (kvs.map (·.2)) → Rp K H (.dct (kvs.map (·.1)) ds) (.ref a)
inductive RpA (K : Frag) (H : Hp) : List D → List V → Prop
  | nil : RpA K H [] []
  | cons {v : V} {vs : List V} {d : D} {ds : List D} : Rp K H d v → RpA K H ds vs → RpA K H (d :: ds) (v :: vs)
end

section
variable {K : Frag} {H H' : Hp}
theorem sqT_mono {a : Addr} {xs : List V} (e : Same H H') (h : SqT K H a xs) : SqT K H' a xs := by
  rcases h with (h | ⟨o, h⟩) | h
  · exact .inl (.inl (e _ _ h))
  · exact .inl (.inr ⟨o, e _ _ h⟩)
  · exact .inr h
mutual
theorem Rp.mono (e : Same H H') : ∀ {d : D} {v : V}, Rp K H d v → Rp K H' d v
  | _, _, .non => .non
  | _, _, .bl b => .bl b
  | _, _, .int i => .int i
  | _, _, .str x => .str x
  | _, _, .ref a => .ref a
  | _, _, .ty n => .ty n
  | _, _, .tup h r => .tup (sqT_mono e h) (RpA.mono e r)
  | _, _, .lst h r => .lst (e _ _ h) (RpA.mono e r)
  | _, _, .fz h r => .fz (e.seq h) (RpA.mono e r)
  | _, _, .glo x => .glo x
  | _, _, .obj h r => .obj (e _ _ h) (RpA.mono e r)
  | _, _, .dct h r => .dct (e _ _ h) (RpA.mono e r)
theorem RpA.mono (e : Same H H') : ∀ {ds : List D} {vs : List V}, RpA K H ds vs → RpA K H' ds vs
  | _, _, .nil => .nil
  | _, _, .cons h r => .cons (Rp.mono e h) (RpA.mono e r)
end
theorem RpA.length : ∀ {ds : List D} {vs : List V}, RpA K H ds vs → ds.length = vs.length
  | _, _, .nil => rfl
  | _, _, .cons _ r => congrArg Nat.succ r.length
theorem RpA.get : ∀ {ds : List D} {vs : List V} {i : Nat} {d : D}, RpA K H ds vs → ds[i]? = some d → ∃ v, vs[i]? = some v ∧ Rp K H d v
  | _, _, _, _, .nil, e => by simp at e
  | _, _, 0, _, .cons r _, e => by simp at e; subst e; exact ⟨_, rfl, r⟩
  | _, _, i + 1, d, .cons _ t, e => by
    obtain ⟨u, h1, h2⟩ := RpA.get (i := i) (d := d) t (by simpa using e)
    exact ⟨u, by simpa using h1, h2⟩
theorem RpA.append : ∀ {ds es : List D} {vs us : List V}, RpA K H ds vs → RpA K H es us → RpA K H (ds ++ es) (vs ++ us)
  | _, _, _, _, .nil, s => s
  | _, _, _, _, .cons r t, s => .cons r (RpA.append t s)
theorem RpA.take : ∀ {ds : List D} {vs : List V} (n : Nat), RpA K H ds vs → RpA K H (ds.take n) (vs.take n)
  | _, _, 0, _ => .nil
  | _, _, _ + 1, .nil => .nil
  | _, _, n + 1, .cons r t => .cons r (RpA.take n t)
theorem RpA.drop : ∀ {ds : List D} {vs : List V} (n : Nat), RpA K H ds vs → RpA K H (ds.drop n) (vs.drop n)
  | _, _, 0, r => r
  | _, _, _ + 1, .nil => .nil
  | _, _, n + 1, .cons _ t => RpA.drop n t
theorem RpA.set {d : D} {v : V} (r : Rp K H d v) : ∀ {ds : List D} {vs : List V} (i : Nat), RpA K H ds vs → RpA K H (ds.set i d) (vs.set i v)
  | _, _, _, .nil => .nil
  | _, _, 0, .cons _ t => .cons r t
  | _, _, i + 1, .cons q t => .cons q (RpA.set r i t)
theorem RpA.mem {ds : List D} {vs : List V} {v : V} : RpA K H ds vs → v ∈ vs → ∃ d ∈ ds, Rp K H d v
  | .cons r t, h => by
    rcases List.mem_cons.mp h with e | h
    · exact ⟨_, List.mem_cons_self, e ▸ r⟩
    · obtain ⟨d, hd, q⟩ := RpA.mem t h
      exact ⟨d, List.mem_cons_of_mem _ hd, q⟩
end

/-! ### slots -/
/-- an object that a slot has for itself -/
inductive Ob where
  | lst (ds : List D)
  | ins (C : Str) (ns : List Str) (ds : List D)
/-- a slot: without a value; a shared value; an object of its own; an object of the caller's -/
inductive Sl where
  | un | sh (d : D) | ow (o : Ob) | rf (o : Ob)
abbrev Ev := List Sl
/-- what a run ends in -/
inductive Rs (α : Type) where
  | ok (e : Ev) (a : α) | er (e : Ev) (C : Str) (fl : Str) (d : D) | no
def Rs.bind {α β : Type} (r : Rs α) (f : Ev → α → Rs β) : Rs β := match r with
  | .ok e a => f e a
  | .er e C fl d => .er e C fl d
  | .no => .no

def ObR (K : Frag) (H0 H : Hp) (a : Addr) : Ob → Prop
  | .lst ds => ∃ vs, H a = some (.lst vs) ∧ RpA K H0 ds vs
  | .ins C ns ds => ∃ dx fs, H a = some (.ins (He.ga K C) dx fs) ∧ fs.map (·.1) = ns ∧ RpA K H0 ds (fs.map (·.2))
theorem ObR.some {K : Frag} {H0 H : Hp} {a : Addr} {o : Ob} (h : ObR K H0 H a o) : ∃ u, H a = some u := by
  cases o with
  | lst ds => obtain ⟨vs, e, _⟩ := h; exact ⟨_, e⟩
  | ins C ns ds => obtain ⟨dx, fs, e, _⟩ := h; exact ⟨_, e⟩
theorem ObR.mono {K : Frag} {H0 H1 H H' : Hp} {a : Addr} {o : Ob} (h : ObR K H0 H a o) (s : Same H0 H1) (k : H' a = H a) : ObR K H1 H' a o := by
  cases o with
  | lst ds => obtain ⟨vs, e, r⟩ := h; exact ⟨vs, k.trans e, r.mono s⟩
  | ins C ns ds => obtain ⟨dx, fs, e, n, r⟩ := h; exact ⟨dx, fs, k.trans e, n, r.mono s⟩

/-- where a def was entered: the shared heap, the whole one, the caller's objects by slot; fr: what else is to stand as it is -/
structure En where
  H0 : Hp
  H : Hp
  refs : List (Nat × Addr)
  fr : Hp := fun _ => none

def SlR (K : Frag) (E : En) (H0 H : Hp) (i : Nat) (x : Option (Option V)) : Sl → Prop
  | .un => True
  | .sh d => ∃ v, x = some (some v) ∧ Rp K H0 d v
  | .ow o => ∃ a, x = some (some (.ref a)) ∧ E.H a = none ∧ H0 a = none ∧ ObR K H0 H a o
  | .rf o => ∃ a, x = some (some (.ref a)) ∧ (i, a) ∈ E.refs ∧ H0 a = none ∧ ObR K H0 H a o
/-- slot i has the object at a for itself -/
def Has (σ : St) (env : Ev) (i : Nat) (a : Addr) : Prop := σ[i]? = some (some (.ref a)) ∧ ((∃ o, env[i]? = some (.ow o)) ∨ ∃ o, env[i]? = some (.rf o))

structure StR (K : Frag) (E : En) (H0 H : Hp) (σ : St) (env : Ev) : Prop where
  s0 : Same E.H0 H0
  s1 : Same H0 H
  old : ∀ a, E.H a ≠ none → H0 a = E.H0 a
  kept : ∀ a o, E.H a = some o → (∀ i, (i, a) ∉ E.refs) → H a = some o
  len : σ.length = env.length
  slot : ∀ i s, env[i]? = some s → SlR K E H0 H i (σ[i]?) s
  refs : ∀ i a, (i, a) ∈ E.refs → ∃ o, env[i]? = some (.rf o) ∧ σ[i]? = some (some (.ref a))
  apart : ∀ i j a, Has σ env i a → Has σ env j a → i = j
  frk : ∀ a o, E.fr a = some o → H a = some o ∧ H0 a = none ∧ ∀ i, ¬ Has σ env i a

section
variable {K : Frag} {E : En} {H0 H H1 H' : Hp} {σ : St} {env : Ev}
theorem StR.sh (S : StR K E H0 H σ env) {i : Nat} {d : D} (e : env[i]? = some (.sh d)) : ∃ v, σ[i]? = some (some v) ∧ Rp K H0 d v := S.slot i _ e
theorem StR.has (S : StR K E H0 H σ env) {i : Nat} {a : Addr} (h : Has σ env i a) : H0 a = none ∧ ∃ o, H a = some o := by
  obtain ⟨e, ⟨o, h⟩ | ⟨o, h⟩⟩ := h
  · obtain ⟨b, e', _, n, r⟩ := S.slot i _ h
    rw [e] at e'; cases e'
    exact ⟨n, r.some⟩
  · obtain ⟨b, e', _, n, r⟩ := S.slot i _ h
    rw [e] at e'; cases e'
    exact ⟨n, r.some⟩
theorem StR.live (S : StR K E H0 H σ env) {a : Addr} (n : H a = none) : E.H a = none := by
  cases q : E.H a with
  | none => rfl
  | some o =>
    by_cases h : ∀ i, (i, a) ∉ E.refs
    · rw [S.kept a o q h] at n; cases n
    · obtain ⟨i, hi⟩ := Classical.not_forall.mp h
      have hi := Classical.not_not.mp hi
      obtain ⟨ob, e1, e2⟩ := S.refs i a hi
      obtain ⟨_, u, hu⟩ := S.has (i := i) (a := a) ⟨e2, .inr ⟨ob, e1⟩⟩
      rw [hu] at n; cases n
/-- the heap changes but for the slots' own objects: no tracked thing changes, new ones may be shared -/
theorem StR.grow (S : StR K E H0 H σ env) (s0 : Same H0 H1) (s1 : Same H1 H') (sH : Same H H') (new : ∀ a, H a ≠ none → H1 a = H0 a) : StR K E H1 H' σ env where
  s0 := S.s0.trans s0
  s1 := s1
  old := fun a h => by
    by_cases q : H a = none
    · exact absurd (S.live q) h
    · rw [new a q]; exact S.old a h
  kept := fun a o e h => sH _ _ (S.kept a o e h)
  len := S.len
  slot := fun i s e => by
    have x := S.slot i s e
    cases s with
    | un => exact True.intro
    | sh d => obtain ⟨v, e1, r⟩ := x; exact ⟨v, e1, r.mono s0⟩
    | ow o =>
      obtain ⟨a, e1, n, n0, r⟩ := x
      obtain ⟨u, hu⟩ := r.some
      exact ⟨a, e1, n, by rw [new a (by rw [hu]; simp)]; exact n0, r.mono s0 (by rw [hu]; exact sH _ _ hu)⟩
    | rf o =>
      obtain ⟨a, e1, n, n0, r⟩ := x
      obtain ⟨u, hu⟩ := r.some
      exact ⟨a, e1, n, by rw [new a (by rw [hu]; simp)]; exact n0, r.mono s0 (by rw [hu]; exact sH _ _ hu)⟩
  refs := S.refs
  apart := S.apart
  frk := fun a o e => by
    obtain ⟨h1, h2, h3⟩ := S.frk a o e
    exact ⟨sH _ _ h1, by rw [new a (by rw [h1]; simp)]; exact h2, h3⟩
theorem same_upd {H : Hp} {p : Addr} {o : HO} (n : H p = none) : Same H (upd H p o) := fun b u e => by rw [upd_ne (ne_of_none e n)]; exact e
theorem same_upd2 {H0 H : Hp} {p : Addr} {o : HO} (s : Same H0 H) (n : H p = none) : Same (upd H0 p o) (upd H p o) := fun b u e => by
  by_cases q : b = p
  · subst q; rw [upd_same] at e ⊢; exact e
  · rw [upd_ne q] at e ⊢; exact s _ _ e
/-- a new object, shared -/
theorem StR.new (S : StR K E H0 H σ env) {p : Addr} (o : HO) (n : H p = none) : StR K E (upd H0 p o) (upd H p o) σ env :=
  S.grow (same_upd (S.s1.free n)) (same_upd2 S.s1 n) (same_upd n) fun a h => by
    rw [upd_ne]
    rintro rfl
    exact h n
theorem StR.same_new (S : StR K E H0 H σ env) {p : Addr} (o : HO) (n : H p = none) : Same H0 (upd H0 p o) := same_upd (S.s1.free n)
/-- a new object, not shared (garbage, or something that is tracked besides) -/
theorem StR.newU (S : StR K E H0 H σ env) {p : Addr} (o : HO) (n : H p = none) : StR K E H0 (upd H p o) σ env :=
  S.grow (Same.refl _) (S.s1.trans (same_upd n)) (same_upd n) fun a h => rfl
/-- nought or one new shared object -/
inductive Gr (H0 H : Hp) : Hp → Hp → Prop
  | refl : Gr H0 H H0 H
  | new {p : Addr} (o : HO) (n : H p = none) : Gr H0 H (upd H0 p o) (upd H p o)
theorem StR.gr (S : StR K E H0 H σ env) (g : Gr H0 H H1 H') : Same H0 H1 ∧ StR K E H1 H' σ env := by
  cases g with
  | refl => exact ⟨Same.refl _, S⟩
  | new o n => exact ⟨S.same_new o n, S.new o n⟩
theorem Gr.same (g : Gr H0 H H1 H') (s : Same H0 H) : Same H1 H' := by
  cases g with
  | refl => exact s
  | new o n => exact same_upd2 s n
end

/-! ### readings -/
/-- what a def hands back: a shared value, a new list that is nobody's yet -/
inductive Dr where
  | sh (d : D) | fr (ds : List D)
inductive Fl where
  | nx | rt (d : Dr) | bk | ct
/-- ties a datum to a value, at a state -/
abbrev RelT (α β : Type) := En → St → Ev → Hp → Hp → α → β → Prop
abbrev RD (K : Frag) : RelT D V := fun _ _ _ H1 _ d v => Rp K H1 d v
abbrev RA (K : Frag) : RelT (List D) (List V) := fun _ _ _ H1 _ d v => RpA K H1 d v
abbrev RB : RelT Bool Bool := fun _ _ _ _ _ a b => a = b
/-- a new list, nobody's yet -/
def RF (K : Frag) : RelT (List D) V := fun E σ env H1 H' ds v => ∃ a vs, v = .ref a ∧ H1 a = none ∧ E.H a = none ∧ E.fr a = none ∧ (∀ i, ¬ Has σ env i a) ∧ H' a = some (.lst vs) ∧ RpA K H1 ds vs
def RDr (K : Frag) : RelT Dr V := fun E σ env H1 H' r v => match r with
  | .sh d => Rp K H1 d v
  | .fr ds => RF K E σ env H1 H' ds v
/-- what is wanted of a run's end: R ties the datum to the value -/
def Post {α β : Type} (K : Frag) (W : WX) (R : RelT α β) (E : En) (H0 : Hp) (σ : St) (Q : β → Hp → Prop) : Rs α → Prop
  | .ok env' a => ∀ b H1 H', Same H0 H1 → StR K E H1 H' σ env' → R E σ env' H1 H' a b → Q b H'
  | .er env' C fl d => ∀ v dd H1 H', Same H0 H1 → StR K E H1 H' σ env' → Rp K H1 d v → H1 dd = some (.xd [(fl, v)]) → W (.ref (He.ga K C)) (some dd) σ H'
  | .no => False
def WP {α β : Type} (K : Frag) (W : WX) (R : RelT α β) (f : Ev → Rs α) : St → Hp → (β → Hp → Prop) → Prop :=
  fun σ H Q => ∃ E H0 env, StR K E H0 H σ env ∧ Post K W R E H0 σ Q (f env)
abbrev tDE (K : Frag) (W : WX) (f : Ev → Rs D) : TE := WP K W (RD K) f
abbrev tDT (K : Frag) (W : WX) (f : Ev → Rs Bool) : TT := WP K W RB f
abbrev tDA (K : Frag) (W : WX) (f : Ev → Rs (List D)) : TA := WP K W (RA K) f
/-- .. of a statement's end -/
def PostS (K : Frag) (W : WX) (E : En) (H0 : Hp) (N : Ends) : Rs Fl → Prop
  | .ok env' .nx => ∀ σ' H1 H', Same H0 H1 → StR K E H1 H' σ' env' → N.nx σ' H'
  | .ok env' (.rt d) => ∀ v σ' H1 H', Same H0 H1 → StR K E H1 H' σ' env' → RDr K E σ' env' H1 H' d v → N.rt v H'
  | .ok env' .bk => ∀ σ' H1 H', Same H0 H1 → StR K E H1 H' σ' env' → N.bk σ' H'
  | .ok env' .ct => ∀ σ' H1 H', Same H0 H1 → StR K E H1 H' σ' env' → N.ct σ' H'
  | .er env' C fl d => ∀ v dd σ' H1 H', Same H0 H1 → StR K E H1 H' σ' env' → Rp K H1 d v → H1 dd = some (.xd [(fl, v)]) → W (.ref (He.ga K C)) (some dd) σ' H'
  | .no => False
def tDS (K : Frag) (W : WX) (f : Ev → Rs Fl) : TS := fun N σ H => ∃ E H0 env, StR K E H0 H σ env ∧ PostS K W E H0 N (f env)

section
variable {K : Frag} {W : WX} {E : En} {H0 H1 H : Hp} {σ : St} {env : Ev} {α β γ δ : Type} {R : RelT α β} {R' : RelT γ δ}
theorem Post.up {Q : β → Hp → Prop} (s : Same H0 H1) : ∀ {r : Rs α}, Post K W R E H0 σ Q r → Post K W R E H1 σ Q r
  | .ok _ _, h => fun b G H' s1 S r => h b G H' (s.trans s1) S r
  | .er _ _ _ _, h => fun v dd G H' s1 S r => h v dd G H' (s.trans s1) S r
  | .no, h => h
theorem PostS.up {N : Ends} (s : Same H0 H1) : ∀ {r : Rs Fl}, PostS K W E H0 N r → PostS K W E H1 N r
  | .ok _ .nx, h => fun σ' G H' s1 => h σ' G H' (s.trans s1)
  | .ok _ (.rt _), h => fun v σ' G H' s1 => h v σ' G H' (s.trans s1)
  | .ok _ .bk, h => fun σ' G H' s1 => h σ' G H' (s.trans s1)
  | .ok _ .ct, h => fun σ' G H' s1 => h σ' G H' (s.trans s1)
  | .er _ _ _ _, h => fun v dd σ' G H' s1 => h v dd σ' G H' (s.trans s1)
  | .no, h => h
/-- a reading in a row with what follows -/
theorem WP.bind {f : Ev → Rs α} {k : Ev → α → Rs γ} {Q : δ → Hp → Prop} {Q' : β → Hp → Prop} (S : StR K E H0 H σ env) (h : Post K W R' E H0 σ Q ((f env).bind k))
    (hk : ∀ env' a b H1 H', StR K E H1 H' σ env' → Same H0 H1 → R E σ env' H1 H' a b → Post K W R' E H1 σ Q (k env' a) → Q' b H') : WP K W R f σ H Q' := by
  refine ⟨E, H0, env, S, ?_⟩
  cases e : f env with
  | ok env' a =>
    rw [e] at h
    exact fun b H1 H' s S' r => hk env' a b H1 H' S' s r (h.up s)
  | er env' C fl d =>
    rw [e] at h
    exact h
  | no =>
    rw [e] at h
    exact h
/-- .. with a statement's rest -/
theorem WP.bindS {f : Ev → Rs α} {k : Ev → α → Rs Fl} {N : Ends} {Q' : β → Hp → Prop} (S : StR K E H0 H σ env) (h : PostS K W E H0 N ((f env).bind k))
    (hk : ∀ env' a b H1 H', StR K E H1 H' σ env' → Same H0 H1 → R E σ env' H1 H' a b → PostS K W E H1 N (k env' a) → Q' b H') : WP K W R f σ H Q' := by
  refine ⟨E, H0, env, S, ?_⟩
  cases e : f env with
  | ok env' a =>
    rw [e] at h
    exact fun b H1 H' s S' r => hk env' a b H1 H' S' s r (h.up s)
  | er env' C fl d =>
    rw [e] at h
    exact fun v dd H1 H' => h v dd σ H1 H'
  | no =>
    rw [e] at h
    exact h
end
/-- a value, or a stop -/
def lift {α : Type} (e : Ev) : Option α → Rs α
  | some a => .ok e a
  | none => .no
section
variable {X : Cx} {W : WX} {K : Frag}
theorem pe_mono {e : Expr} {t t' : TE} (h : PE X e t) (m : ∀ σ H Q, t' σ H Q → t σ H Q) : PE X e t' := ⟨fun pins s σ H Q I q => h.run pins s σ H Q I (m σ H Q q)⟩
theorem pt_mono {e : Expr} {t t' : TT} (h : PT X e t) (m : ∀ σ H Q, t' σ H Q → t σ H Q) : PT X e t' := ⟨fun pins s σ H Q I q => h.run pins s σ H Q I (m σ H Q q)⟩
theorem pw_mono {e : Expr} {t t' : TT} (h : PW X e t) (m : ∀ σ H Q, t' σ H Q → t σ H Q) : PW X e t' := ⟨fun wh pins s σ H Q I q => h.run wh pins s σ H Q I (m σ H Q q)⟩
theorem pa_mono {e : List Expr} {t t' : TA} (h : PA X e t) (m : ∀ σ H Q, t' σ H Q → t σ H Q) : PA X e t' := ⟨fun pos pins s σ H Q I q => h.run pos pins s σ H Q I (m σ H Q q)⟩
theorem ps_mono {e : Stmt} {t t' : TS} (h : PS X e t) (m : ∀ N σ H, t' N σ H → t N σ H) : PS X e t' := ⟨fun pins s σ H N I q => h.run pins s σ H N I (m N σ H q)⟩
theorem pss_mono {e : List Stmt} {t t' : TS} (h : PSs X e t) (m : ∀ N σ H, t' N σ H → t N σ H) : PSs X e t' := ⟨fun pins s σ H N I q => h.run pins s σ H N I (m N σ H q)⟩
end
abbrev DE (X : Cx) (W : WX) (e : Expr) (f : Ev → Rs D) : Prop := PE X e (tDE X.K W f)
abbrev DT (X : Cx) (W : WX) (e : Expr) (f : Ev → Rs Bool) : Prop := PT X e (tDT X.K W f)
abbrev DW (X : Cx) (W : WX) (e : Expr) (f : Ev → Rs Bool) : Prop := PW X e (tDT X.K W f)
abbrev DA (X : Cx) (W : WX) (es : List Expr) (f : Ev → Rs (List D)) : Prop := PA X es (tDA X.K W f)
abbrev DS (X : Cx) (W : WX) (st : Stmt) (f : Ev → Rs Fl) : Prop := PS X st (tDS X.K W f)
abbrev DSs (X : Cx) (W : WX) (st : List Stmt) (f : Ev → Rs Fl) : Prop := PSs X st (tDS X.K W f)

/-! ### the first rules -/
def fVar (i : Nat) (env : Ev) : Rs D := match env[i]? with
  | some (.sh d) => .ok env d
  | _ => .no
def fC (d : D) (env : Ev) : Rs D := .ok env d
def f1 (g : D → Option D) (fa : Ev → Rs D) (env : Ev) : Rs D := (fa env).bind fun e x => lift e (g x)
def f2 (g : D → D → Option D) (fa fb : Ev → Rs D) (env : Ev) : Rs D := (fa env).bind fun e x => (fb e).bind fun e' y => lift e' (g x y)
def fNil (env : Ev) : Rs (List D) := .ok env []
def fCons (fa : Ev → Rs D) (fr : Ev → Rs (List D)) (env : Ev) : Rs (List D) := (fa env).bind fun e x => (fr e).bind fun e' xs => .ok e' (x :: xs)
/-- by values: an operation keeps to a function of the data -/
def V1 (K : Frag) (r : V → Hp → VK → Prop) (g : D → Option D) : Prop := ∀ (H0 H : Hp) (x d : D) (v : V) (Q : VK), Same H0 H → Rp K H0 x v → g x = some d → (∀ v' H1 H', Gr H0 H H1 H' → Rp K H1 d v' → Q v' H') → r v H Q
def V2 (K : Frag) (r : V → V → Hp → VK → Prop) (g : D → D → Option D) : Prop := ∀ (H0 H : Hp) (x y d : D) (v u : V) (Q : VK), Same H0 H → Rp K H0 x v → Rp K H0 y u → g x y = some d → (∀ v' H1 H', Gr H0 H H1 H' → Rp K H1 d v' → Q v' H') → r v u H Q
def VN (K : Frag) (r : List V → Hp → VK → Prop) (g : List D → Option D) : Prop := ∀ (H0 H : Hp) (xs : List D) (d : D) (vs : List V) (Q : VK), Same H0 H → RpA K H0 xs vs → g xs = some d → (∀ v' H1 H', Gr H0 H H1 H' → Rp K H1 d v' → Q v' H') → r vs H Q
section
variable {X : Cx} {W : WX} {K : Frag} {E : En} {H0 H : Hp} {σ : St} {env : Ev}
theorem Post.fin {Q : VK} {o : Option D} (S : StR K E H0 H σ env) (h : Post K W (RD K) E H0 σ Q (lift env o)) {P : Prop} (k : ∀ d, o = some d → (∀ v' H1 H', Gr H0 H H1 H' → Rp K H1 d v' → Q v' H') → P) : P := by
  cases o with
  | none => exact (show False from h).elim
  | some d => exact k d rfl fun v' H1 H' g r => let ⟨s, S'⟩ := S.gr g; h v' H1 H' s S' r
theorem Post.here {α β : Type} {R : RelT α β} {Q : β → Hp → Prop} {a : α} (S : StR K E H0 H σ env) (h : Post K W R E H0 σ Q (.ok env a)) {b : β} (r : R E σ env H0 H a b) : Q b H := h b H0 H (Same.refl _) S r
theorem de_var {i : Nat} {x : Str} {pos : Pos} (hN : X.N[i]? = some x := by rfl) (hv : Vis X.env.scope x := by first | exact Or.inl rfl | exact Or.inr (Or.inl rfl) | exact Or.inr (Or.inr rfl)) (hd : (x == ("__debug__" : Str)) = false := by decide)
    (hcd : (x == ("__classdict__" : Str)) = false := by decide) : DE X W (.Name x pos) (fVar i) := by
  refine pe_mono (pe_var hN hv hd hcd) fun σ H Q h => ?_
  obtain ⟨E, H0, env, S, h⟩ := h
  unfold fVar at h
  split at h
  · rename_i d e
    obtain ⟨v, e1, r⟩ := S.sh e
    exact ⟨v, e1, Post.here S h r⟩
  · exact (show False from h).elim
theorem de_c {e : Expr} {v : V} {d : D} (h : PE X e (tC v)) (r : ∀ H, Rp X.K H d v) : DE X W e (fC d) := by
  refine pe_mono h fun σ H Q q => ?_
  obtain ⟨E, H0, env, S, q⟩ := q
  exact Post.here S q (r _)
theorem de_int {i j pos} : DE X W (.Constant (.int i) j pos) (fC (.int i)) := de_c pe_int fun _ => .int i
theorem de_bl {b j pos} : DE X W (.Constant (.bool b) j pos) (fC (.bl b)) := de_c pe_bl fun _ => .bl b
theorem de_non {j pos} : DE X W (.Constant .none j pos) (fC .non) := de_c pe_non fun _ => .non
theorem de_str {x j pos} : DE X W (.Constant (.str x) j pos) (fC (.str x)) := de_c pe_str fun _ => .str x
theorem da_nil : DA X W [] fNil := pa_mono pa_nil fun σ H Q q => by
  obtain ⟨E, H0, env, S, q⟩ := q
  exact Post.here S q .nil
theorem da_cons {e : Expr} {es : List Expr} {fa : Ev → Rs D} {fr : Ev → Rs (List D)} (ha : DE X W e fa) (hr : DA X W es fr) (hs : starEach (e :: es) X.env = (false, eval e X.env) :: starEach es X.env := by rfl) : DA X W (e :: es) (fCons fa fr) := by
  refine pa_mono (pa_cons ha hr hs) fun σ H Q q => ?_
  obtain ⟨E, H0, env, S, q⟩ := q
  exact WP.bind S q fun e1 x v H1 H' S1 s1 r1 q1 => WP.bind S1 q1 fun e2 xs vs H2 H'' S2 s2 r2 q2 => Post.here S2 q2 (.cons (r1.mono s2) r2)
theorem de_op {op : Operator} {a b : Expr} {fa fb : Ev → Rs D} {r : R2} {g : D → D → Option D} {pos : Pos} (ho : OpR X (binaryOp op) r) (hv : V2 X.K r g) (ha : DE X W a fa) (hb : DE X W b fb) : DE X W (.BinOp a op b pos) (f2 g fa fb) := by
  refine pe_mono (pe_op ho ha hb) fun σ H Q q => ?_
  obtain ⟨E, H0, env, S, q⟩ := q
  exact WP.bind S q fun e1 x v H1 H' S1 s1 r1 q1 => WP.bind S1 q1 fun e2 y u H2 H'' S2 s2 r2 q2 => q2.fin S2 fun d ed k => hv H2 H'' x y d v u Q S2.s1 (r1.mono s2) r2 ed k
theorem de_cmp {op : CmpOp} {a b : Expr} {fa fb : Ev → Rs D} {r : R2} {g : D → D → Option D} {pos : Pos} (ho : OpR X (compareOp op) r) (hv : V2 X.K r g) (ha : DE X W a fa) (hb : DE X W b fb) (hm : behindInMarks op b = false := by first | exact nomark _ | rfl | with_unfolding_all rfl) : DE X W (.Compare a [op] [b] pos) (f2 g fa fb) := by
  refine pe_mono (pe_cmpR ho ha hb hm) fun σ H Q q => ?_
  obtain ⟨E, H0, env, S, q⟩ := q
  exact WP.bind S q fun e1 x v H1 H' S1 s1 r1 q1 => WP.bind S1 q1 fun e2 y u H2 H'' S2 s2 r2 q2 => q2.fin S2 fun d ed k => hv H2 H'' x y d v u Q S2.s1 (r1.mono s2) r2 ed k
theorem de_ix {a b : Expr} {fa fb : Ev → Rs D} {r : R2} {g : D → D → Option D} {pos : Pos} (ho : IxR X r) (hv : V2 X.K r g) (ha : DE X W a fa) (hb : DE X W b fb) (hs : PlainIx b := by exact fun _ _ => rfl) : DE X W (.Subscript a b pos) (f2 g fa fb) := by
  refine pe_mono (pe_ix ho ha hb hs) fun σ H Q q => ?_
  obtain ⟨E, H0, env, S, q⟩ := q
  exact WP.bind S q fun e1 x v H1 H' S1 s1 r1 q1 => WP.bind S1 q1 fun e2 y u H2 H'' S2 s2 r2 q2 => q2.fin S2 fun d ed k => hv H2 H'' x y d v u Q S2.s1 (r1.mono s2) r2 ed k
def fN (g : List D → Option D) (fa : Ev → Rs (List D)) (env : Ev) : Rs D := (fa env).bind fun e xs => lift e (g xs)
theorem de_N {e : Expr} {es : List Expr} {fa : Ev → Rs (List D)} {r : List V → Hp → VK → Prop} {g : List D → Option D} (hv : VN X.K r g) (ha : DA X W es fa) (h : PE X e (tCB r (tDA X.K W fa))) : DE X W e (fN g fa) := by
  refine pe_mono h fun σ H Q q => ?_
  obtain ⟨E, H0, env, S, q⟩ := q
  exact WP.bind S q fun e1 xs vs H1 H' S1 s1 r1 q1 => q1.fin S1 fun d ed k => hv H1 H' xs d vs Q S1.s1 r1 ed k
theorem de_callB {x : Str} {p pos : Pos} {e : Expr} {es : List Expr} {fa : Ev → Rs (List D)} {id : String} {r : List V → Hp → VK → Prop} {g : List D → Option D} (hc : CallR X (.builtin id) r) (hv : VN X.K r g) (hm : X.mg x = none) (hb : bootBuiltins x = some (.builtin id)) (ha : DA X W (e :: es) fa) (hg : Gl X x := by rfl) (hn : x ≠ "__name__" := by decide) (hdb : (x == ("__debug__" : Str)) = false := by decide)
    (he : starEach (e :: es) X.env = (false, eval e X.env) :: starEach es X.env := by rfl) (hpl : (backTo pos (starEach es X.env)).any (·.1) = false := by rfl) : DE X W (.Call (.Name x p) (e :: es) [] pos) (fN g fa) :=
  de_N hv ha (pe_callB hc hg hm hb ha hn hdb he hpl)
theorem de_callTy {x : Str} {p pos : Pos} {e : Expr} {es : List Expr} {fa : Ev → Rs (List D)} {T : String} {r : List V → Hp → VK → Prop} {g : List D → Option D} (hc : CallR X (.type T) r) (hv : VN X.K r g) (hm : X.mg x = none) (hb : bootBuiltins x = some (.type T)) (ha : DA X W (e :: es) fa) (hg : Gl X x := by rfl) (hn : x ≠ "__name__" := by decide) (hdb : (x == ("__debug__" : Str)) = false := by decide)
    (he : starEach (e :: es) X.env = (false, eval e X.env) :: starEach es X.env := by rfl) (hpl : (backTo pos (starEach es X.env)).any (·.1) = false := by rfl) : DE X W (.Call (.Name x p) (e :: es) [] pos) (fN g fa) :=
  de_N hv ha (pe_callTy hc hg hm hb ha hn hdb he hpl)
/-- displays -/
def gTup (ds : List D) : Option D := if ds.length ≤ 1000 then some (.tup ds) else none
def gLst (ds : List D) : Option D := if ds.length ≤ 1000 then some (.lst ds) else none
theorem le_line {n : Nat} (h : n ≤ 1000) : n ≤ sizeLine := Nat.le_of_lt (small1000 h)
theorem vn_tup : VN K (fun xs H Q => xs.length ≤ sizeLine ∧ ∀ p, H p = none → Q (.ref p) (upd H p (.tup xs))) gTup := by
  intro H0 H xs d vs Q s r e k
  unfold gTup at e
  split at e
  · rename_i hz
    cases e
    refine ⟨by rw [← r.length]; exact le_line hz, fun p n => k _ _ _ (.new (.tup vs) n) (.tup (SqT.of upd_same) (r.mono (same_upd (s.free n))))⟩
  · cases e
theorem vn_lst : VN K (fun xs H Q => xs.length ≤ sizeLine ∧ ∀ p, H p = none → Q (.ref p) (upd H p (.lst xs))) gLst := by
  intro H0 H xs d vs Q s r e k
  unfold gLst at e
  split at e
  · rename_i hz
    cases e
    refine ⟨by rw [← r.length]; exact le_line hz, fun p n => k _ _ _ (.new (.lst vs) n) (.lst upd_same (r.mono (same_upd (s.free n))))⟩
  · cases e
theorem de_tup {es : List Expr} {fa : Ev → Rs (List D)} {x1} {pos : Pos} (ha : DA X W es fa) : DE X W (.Tuple es x1 pos) (fN gTup fa) := de_N vn_tup ha (pe_tup ha)
theorem de_lst {es : List Expr} {fa : Ev → Rs (List D)} {pos : Pos} (ha : DA X W es fa) : DE X W (.List es pos) (fN gLst fa) := de_N vn_lst ha (pe_lst ha)
end
end DL

end

section
set_option Elab.async false
set_option linter.all false
set_option maxRecDepth 100000
set_option maxHeartbeats 2000000
/-! DB: tests, statements, slots, loops, comprehensions. -/
namespace DL
open PySem L2
/-- what a body's rules lean on -/
structure Bd (X : Cx) (W : WX) (k : Nat) : Prop where
  tk : Takes X W
  hp : PassesOwn (model X.prog X.w) X.A X.env X.xe
  hc : X.calm = true
  nd : X.N.Nodup
  hr : Room k X.A
abbrev W0 : WX := fun _ _ _ _ => False

/-! ### tests -/
def fTest (fa : Ev → Rs D) (env : Ev) : Rs Bool := (fa env).bind fun e x => match x with
  | .bl b => .ok e b
  | _ => .no
def fAnd (fa fb : Ev → Rs Bool) (env : Ev) : Rs Bool := (fa env).bind fun e b => if b = true then fb e else .ok e false
def fOr (fa fb : Ev → Rs Bool) (env : Ev) : Rs Bool := (fa env).bind fun e b => if b = true then .ok e true else fb e
def fNot (fa : Ev → Rs Bool) (env : Ev) : Rs Bool := (fa env).bind fun e b => .ok e (!b)
def fIf (fc : Ev → Rs Bool) (fa fb : Ev → Rs D) (env : Ev) : Rs D := (fc env).bind fun e b => if b = true then fa e else fb e
def fBl (fa : Ev → Rs Bool) (env : Ev) : Rs D := (fa env).bind fun e b => .ok e (.bl b)
section
variable {X : Cx} {W : WX} {a b c : Expr} {rest : List Expr} {fa fb : Ev → Rs D} {ga gb gc : Ev → Rs Bool} {pos : Pos}
theorem rp_bl {K : Frag} {H : Hp} {b : Bool} {v : V} (r : Rp K H (.bl b) v) : v = .bl b := by cases r; rfl
theorem rp_int {K : Frag} {H : Hp} {b : Int} {v : V} (r : Rp K H (.int b) v) : v = .int b := by cases r; rfl
theorem rp_str {K : Frag} {H : Hp} {b : Str} {v : V} (r : Rp K H (.str b) v) : v = .str b := by cases r; rfl
theorem rp_non {K : Frag} {H : Hp} {v : V} (r : Rp K H .non v) : v = .non := by cases r; rfl
/-- a value that is a bool, as a test -/
theorem dt_of {e : Expr} (h : PT X e (tB (tDE X.K W fa))) : DT X W e (fTest fa) := by
  refine pt_mono h fun σ H Q q => ?_
  obtain ⟨E, H0, env, S, q⟩ := q
  refine WP.bind S q fun e1 x v H1 H' S1 s1 r1 q1 => ?_
  cases x with
  | bl b => exact ⟨b, rp_bl r1, Post.here S1 q1 rfl⟩
  | _ => exact (show False from q1).elim
theorem dt_val (h : DE X W a fa) (he : ∀ whole, isTrue a X.env whole = (do let v ← whole; standAt a.pos; holding [v] (truthy v)) := by intro _; rfl) : DT X W a (fTest fa) := dt_of (pt_val h he)
theorem dt_cmp {op : CmpOp} {r : R2} {g : D → D → Option D} (ho : OpR X (compareOp op) r) (hv : V2 X.K r g) (ha : DE X W a fa) (hb : DE X W b fb) (hm : behindInMarks op b = false := by first | exact nomark _ | rfl | with_unfolding_all rfl) : DT X W (.Compare a [op] [b] pos) (fTest (f2 g fa fb)) := by
  refine pt_mono (pt_cmpR ho ha hb hm) fun σ H Q q => ?_
  obtain ⟨E, H0, env, S, q⟩ := q
  have q' : Post X.K W RB E H0 σ Q ((fa env).bind fun e x => ((fb e).bind fun e' y => (lift e' (g x y))).bind fun e x => match x with | .bl b => .ok e b | _ => .no) := by
    cases h : fa env with
    | ok e x => simpa only [Rs.bind, fTest, f2, h] using q
    | er => simpa only [Rs.bind, fTest, f2, h] using q
    | no => simpa only [Rs.bind, fTest, f2, h] using q
  refine WP.bind S q' fun e1 x v H1 H' S1 s1 r1 q1 => ?_
  have q1' : Post X.K W RB E H1 σ Q ((fb e1).bind fun e' y => (lift e' (g x y)).bind fun e x => match x with | .bl b => .ok e b | _ => .no) := by
    cases h : fb e1 with
    | ok e x => simpa only [Rs.bind, h] using q1
    | er => simpa only [Rs.bind, h] using q1
    | no => simpa only [Rs.bind, h] using q1
  refine WP.bind S1 q1' fun e2 y u H2 H'' S2 s2 r2 q2 => ?_
  cases h : g x y with
  | none =>
    rw [h] at q2
    exact (show False from q2).elim
  | some d =>
    rw [h] at q2
    refine hv H2 H'' x y d v u _ S2.s1 (r1.mono s2) r2 h fun v' G G' gr r' => ?_
    obtain ⟨s3, S3⟩ := S2.gr gr
    cases d with
    | bl b => exact ⟨b, rp_bl r', Post.here S3 (Post.up s3 (show Post X.K W RB E H2 σ Q (.ok e2 b) from q2)) rfl⟩
    | _ => exact (show False from q2).elim
theorem dw_and1 (ha : DT X W a ga) : DW X W (.BoolOp .And [a] pos) ga := pw_and1 ha
theorem dw_or1 (ha : DT X W a ga) : DW X W (.BoolOp .Or [a] pos) ga := pw_or1 ha
theorem dw_and (ha : DT X W a ga) (hb : DW X W (.BoolOp .And (b :: rest) pos) gb) : DW X W (.BoolOp .And (a :: b :: rest) pos) (fAnd ga gb) := by
  refine pw_mono (pw_and ha hb) fun σ H Q q => ?_
  obtain ⟨E, H0, env, S, q⟩ := q
  refine WP.bind S q fun e1 x v H1 H' S1 s1 r1 q1 => ?_
  have r1 : x = v := r1
  subst r1
  cases x with
  | true => exact iteT ⟨E, H1, e1, S1, q1⟩
  | false => exact iteF (Post.here S1 q1 rfl)
theorem dw_or (ha : DT X W a ga) (hb : DW X W (.BoolOp .Or (b :: rest) pos) gb) : DW X W (.BoolOp .Or (a :: b :: rest) pos) (fOr ga gb) := by
  refine pw_mono (pw_or ha hb) fun σ H Q q => ?_
  obtain ⟨E, H0, env, S, q⟩ := q
  refine WP.bind S q fun e1 x v H1 H' S1 s1 r1 q1 => ?_
  have r1 : x = v := r1
  subst r1
  cases x with
  | true => exact iteT (Post.here S1 q1 rfl)
  | false => exact iteF ⟨E, H1, e1, S1, q1⟩
theorem dt_not (ha : DT X W a ga) : DT X W (.UnaryOp .Not a pos) (fNot ga) := by
  refine pt_mono (pt_not ha) fun σ H Q q => ?_
  obtain ⟨E, H0, env, S, q⟩ := q
  refine WP.bind S q fun e1 x v H1 H' S1 s1 r1 q1 => ?_
  have r1 : x = v := r1
  subst r1
  exact Post.here S1 q1 rfl
theorem de_if (hc : DT X W c gc) (ha : DE X W a fa) (hb : DE X W b fb) : DE X W (.IfExp c a b pos) (fIf gc fa fb) := by
  refine pe_mono (pe_ifExp hc ha hb) fun σ H Q q => ?_
  obtain ⟨E, H0, env, S, q⟩ := q
  refine WP.bind S q fun e1 x v H1 H' S1 s1 r1 q1 => ?_
  have r1 : x = v := r1
  subst r1
  cases x with
  | true => exact iteT ⟨E, H1, e1, S1, q1⟩
  | false => exact iteF ⟨E, H1, e1, S1, q1⟩
/-- as values: all are bools -/
def fAndV (fa fb : Ev → Rs D) (env : Ev) : Rs D := (fa env).bind fun e x => match x with
  | .bl true => fb e
  | .bl false => .ok e (.bl false)
  | _ => .no
def fOrV (fa fb : Ev → Rs D) (env : Ev) : Rs D := (fa env).bind fun e x => match x with
  | .bl true => .ok e (.bl true)
  | .bl false => fb e
  | _ => .no
def fNotV (fa : Ev → Rs D) (env : Ev) : Rs D := (fa env).bind fun e x => match x with
  | .bl b => .ok e (.bl (!b))
  | _ => .no
theorem de_one {op} (h : DE X W a fa) : DE X W (.BoolOp op [a] pos) fa := pe_one h
theorem de_and (ha : DE X W a fa) (hb : DE X W (.BoolOp .And (b :: rest) pos) fb) : DE X W (.BoolOp .And (a :: b :: rest) pos) (fAndV fa fb) := by
  refine pe_mono (pe_and ha hb) fun σ H Q q => ?_
  obtain ⟨E, H0, env, S, q⟩ := q
  refine WP.bind S q fun e1 x v H1 H' S1 s1 r1 q1 => ?_
  cases x with
  | bl c =>
    refine ⟨c, rp_bl r1, ?_⟩
    cases c with
    | true => exact iteT ⟨E, H1, e1, S1, q1⟩
    | false => exact iteF (Post.here S1 q1 (.bl false))
  | _ => exact (show False from q1).elim
theorem de_or (ha : DE X W a fa) (hb : DE X W (.BoolOp .Or (b :: rest) pos) fb) : DE X W (.BoolOp .Or (a :: b :: rest) pos) (fOrV fa fb) := by
  refine pe_mono (pe_or ha hb) fun σ H Q q => ?_
  obtain ⟨E, H0, env, S, q⟩ := q
  refine WP.bind S q fun e1 x v H1 H' S1 s1 r1 q1 => ?_
  cases x with
  | bl c =>
    refine ⟨c, rp_bl r1, ?_⟩
    cases c with
    | true => exact iteT (Post.here S1 q1 (.bl true))
    | false => exact iteF ⟨E, H1, e1, S1, q1⟩
  | _ => exact (show False from q1).elim
theorem de_not (ha : DE X W a fa) : DE X W (.UnaryOp .Not a pos) (fNotV fa) := by
  refine pe_mono (pe_not ha) fun σ H Q q => ?_
  obtain ⟨E, H0, env, S, q⟩ := q
  refine WP.bind S q fun e1 x v H1 H' S1 s1 r1 q1 => ?_
  cases x with
  | bl c => exact ⟨c, rp_bl r1, Post.here S1 q1 (.bl (!c))⟩
  | _ => exact (show False from q1).elim
end

/-! ### slots -/
section
variable {K : Frag} {E : En} {H0 H H1 H' : Hp} {σ : St} {env : Ev}
theorem get_set {α : Type} {l : List α} {i j : Nat} {x : α} (h : i < l.length) : (l.set i x)[j]? = if j = i then some x else l[j]? := by
  by_cases e : j = i
  · subst e; rw [if_pos rfl, List.getElem?_set_self h]
  · rw [if_neg e, List.getElem?_set_ne (Ne.symm e)]
/-- what a slot may be put instead of: not a caller's object -/
def free : Option Sl → Bool
  | some (.rf _) => false
  | some _ => true
  | none => false
theorem free_lt {i : Nat} (h : free env[i]? = true) : i < env.length := by
  by_cases q : i < env.length
  · exact q
  · rw [List.getElem?_eq_none (by omega)] at h; cases h
theorem has_set {i j : Nat} {a : Addr} {v : Option V} {s : Sl} (hl : σ.length = env.length) (hi : i < env.length) (hj : j ≠ i) : Has (σ.set i v) (env.set i s) j a ↔ Has σ env j a := by
  unfold Has
  rw [get_set (by omega), get_set hi, if_neg hj, if_neg hj]
theorem StR.put (S : StR K E H0 H σ env) {i : Nat} (hf : free env[i]? = true) {v : V} {s : Sl} (hs : SlR K E H0 H i (some (some v)) s) (ha : ∀ a, v = .ref a → (∃ o, s = .ow o) → ∀ j, ¬ Has σ env j a)
    (hnr : ∀ o, s ≠ .rf o) (hfr : ∀ a o, v = .ref a → s = .ow o → E.fr a = none) : StR K E H0 H (σ.set i (some v)) (env.set i s) := by
  have hi := free_lt hf
  have hl := S.len
  refine { S with len := by simp [hl], slot := fun j t e => ?_, refs := fun j a h => ?_, apart := fun j k a h1 h2 => ?_, frk := fun a o h => ?_ }
  · rw [get_set hi] at e
    rw [get_set (by omega)]
    by_cases q : j = i
    · subst q
      rw [if_pos rfl] at e ⊢
      cases e
      exact hs
    · rw [if_neg q] at e ⊢
      exact S.slot j t e
  · obtain ⟨o, e1, e2⟩ := S.refs j a h
    have q : j ≠ i := by rintro rfl; rw [e1] at hf; cases hf
    exact ⟨o, by rw [get_set hi, if_neg q]; exact e1, by rw [get_set (by omega), if_neg q]; exact e2⟩
  · have key : ∀ b, Has (σ.set i (some v)) (env.set i s) i b → v = .ref b ∧ ∃ o, s = .ow o := fun b hb => by
      obtain ⟨e1, e2⟩ := hb
      rw [get_set (by omega), if_pos rfl] at e1
      rw [get_set hi, if_pos rfl] at e2
      refine ⟨by simpa using e1, ?_⟩
      rcases e2 with ⟨o, e2⟩ | ⟨o, e2⟩
      · exact ⟨o, by simpa using e2⟩
      · exact absurd (by simpa using e2) (hnr o)
    by_cases qj : j = i
    · by_cases qk : k = i
      · rw [qj, qk]
      · subst qj
        obtain ⟨e1, e2⟩ := key a h1
        exact absurd ((has_set hl hi qk).mp h2) (ha a e1 e2 k)
    · by_cases qk : k = i
      · subst qk
        obtain ⟨e1, e2⟩ := key a h2
        exact absurd ((has_set hl hi qj).mp h1) (ha a e1 e2 j)
      · exact S.apart j k a ((has_set hl hi qj).mp h1) ((has_set hl hi qk).mp h2)
  · obtain ⟨h1, h2, h3⟩ := S.frk a o h
    refine ⟨h1, h2, fun j hj => ?_⟩
    by_cases q : j = i
    · subst q
      obtain ⟨e1, e2⟩ := hj
      rw [get_set (by omega), if_pos rfl] at e1
      rw [get_set hi, if_pos rfl] at e2
      have e1 : v = .ref a := by simpa using e1
      rcases e2 with ⟨ob, e2⟩ | ⟨ob, e2⟩
      · rw [hfr a ob e1 (by simpa using e2)] at h; cases h
      · exact hnr ob (by simpa using e2)
    · exact h3 j ((has_set hl hi q).mp hj)
/-- a shared value is stored -/
theorem StR.putSh (S : StR K E H0 H σ env) {i : Nat} (hf : free env[i]? = true) {v : V} {d : D} (r : Rp K H0 d v) : StR K E H0 H (σ.set i (some v)) (env.set i (.sh d)) :=
  S.put hf ⟨v, rfl, r⟩ (fun _ _ ⟨_, q⟩ => nomatch q) (fun _ q => nomatch q) fun _ _ _ q => nomatch q
theorem StR.putOw (S : StR K E H0 H σ env) {i : Nat} (hf : free env[i]? = true) {v : V} {ds : List D} (r : RF K E σ env H0 H ds v) : StR K E H0 H (σ.set i (some v)) (env.set i (.ow (.lst ds))) := by
  obtain ⟨a, vs, rfl, n0, nE, nf, nh, e, r⟩ := r
  exact S.put hf ⟨a, rfl, nE, n0, vs, e, r⟩ (fun b q _ => by cases q; exact nh) (fun _ q => nomatch q) fun b o q _ => by cases q; exact nf
/-- a new list becomes shared -/
theorem StR.share (S : StR K E H0 H σ env) {v : V} {ds : List D} (r : RF K E σ env H0 H ds v) : ∃ H1, Same H0 H1 ∧ StR K E H1 H σ env ∧ Rp K H1 (.lst ds) v := by
  obtain ⟨a, vs, rfl, n0, nE, nf, nh, e, r⟩ := r
  have s : Same H0 (upd H0 a (.lst vs)) := same_upd n0
  refine ⟨upd H0 a (.lst vs), s, ?_, .lst upd_same (r.mono s)⟩
  have ne : ∀ i b, Has σ env i b → b ≠ a := fun i b hb z => nh i (z ▸ hb)
  refine { S with s0 := S.s0.trans s, s1 := fun b o q => ?_, old := fun b q => ?_, slot := fun i t q => ?_, frk := fun b o q => ?_ }
  · by_cases z : b = a
    · subst z; rw [upd_same] at q; rw [e]; exact q
    · rw [upd_ne z] at q; exact S.s1 _ _ q
  · rw [upd_ne (by rintro rfl; exact q nE)]
    exact S.old b q
  · have x := S.slot i t q
    cases t with
    | un => exact True.intro
    | sh d => obtain ⟨v, e1, r⟩ := x; exact ⟨v, e1, r.mono s⟩
    | ow o =>
      obtain ⟨b, e1, n, n0, r⟩ := x
      exact ⟨b, e1, n, by rw [upd_ne (ne i b ⟨e1, .inl ⟨o, q⟩⟩)]; exact n0, r.mono s rfl⟩
    | rf o =>
      obtain ⟨b, e1, n, n0, r⟩ := x
      exact ⟨b, e1, n, by rw [upd_ne (ne i b ⟨e1, .inr ⟨o, q⟩⟩)]; exact n0, r.mono s rfl⟩
  · obtain ⟨h1, h2, h3⟩ := S.frk b o q
    refine ⟨h1, ?_, h3⟩
    rw [upd_ne (by rintro rfl; rw [nf] at q; cases q)]
    exact h2
/-- an object that slot i has is changed -/
def ob? : Option Sl → Option Ob
  | some (.ow o) => some o
  | some (.rf o) => some o
  | _ => none
def reob (o : Ob) : Sl → Sl
  | .ow _ => .ow o
  | .rf _ => .rf o
  | s => s
def putOb (env : Ev) (i : Nat) (o : Ob) : Ev := match env[i]? with
  | some s => env.set i (reob o s)
  | none => env
theorem StR.obj (S : StR K E H0 H σ env) {i : Nat} {o : Ob} (h : ob? env[i]? = some o) : ∃ a, σ[i]? = some (some (.ref a)) ∧ H0 a = none ∧ ObR K H0 H a o ∧ Has σ env i a := by
  unfold ob? at h
  split at h
  · rename_i o' e
    cases h
    obtain ⟨a, e1, _, n, r⟩ := S.slot i _ e
    exact ⟨a, e1, n, r, e1, .inl ⟨_, e⟩⟩
  · rename_i o' e
    cases h
    obtain ⟨a, e1, _, n, r⟩ := S.slot i _ e
    exact ⟨a, e1, n, r, e1, .inr ⟨_, e⟩⟩
  · cases h
/-- behind a change of the object at a (and new things): slot i's -/
theorem StR.chg (S : StR K E H0 H σ env) {i : Nat} {a : Addr} {o' : Ob} (h : Has σ env i a) (s0 : Same H0 H1) (s1 : Same H1 H') (k : ∀ b u, H b = some u → b ≠ a → H' b = some u) (new : ∀ b, H b ≠ none → H1 b = H0 b) (r : ObR K H1 H' a o') : StR K E H1 H' σ (putOb env i o') := by
  obtain ⟨ha0, u0, hau⟩ := S.has h
  have key : ∀ j t, (putOb env i o')[j]? = some t → ∃ t0, env[j]? = some t0 ∧ t = if j = i then reob o' t0 else t0 := fun j t e => by
    unfold putOb at e
    cases q : env[i]? with
    | none =>
      obtain ⟨_, ⟨o, z⟩ | ⟨o, z⟩⟩ := h <;> (rw [z] at q; cases q)
    | some s =>
      rw [q] at e
      have hi : i < env.length := (List.getElem?_eq_some_iff.mp q).1
      rw [show (match some s with | some s => env.set i (reob o' s) | none => env) = env.set i (reob o' s) from rfl, get_set hi] at e
      by_cases z : j = i
      · subst z
        rw [if_pos rfl] at e
        exact ⟨s, q, by rw [if_pos rfl]; exact (Option.some.inj e).symm⟩
      · rw [if_neg z] at e
        exact ⟨t, e, by rw [if_neg z]⟩
  have keyR : ∀ j t0, env[j]? = some t0 → (putOb env i o')[j]? = some (if j = i then reob o' t0 else t0) := fun j t0 e => by
    unfold putOb
    cases q : env[i]? with
    | none =>
      obtain ⟨_, ⟨o, z⟩ | ⟨o, z⟩⟩ := h <;> (rw [z] at q; cases q)
    | some s =>
      have hi : i < env.length := (List.getElem?_eq_some_iff.mp q).1
      rw [show (match some s with | some s => env.set i (reob o' s) | none => env) = env.set i (reob o' s) from rfl, get_set hi]
      by_cases z : j = i
      · subst z
        rw [q] at e; cases e
        rw [if_pos rfl, if_pos rfl]
      · rw [if_neg z, if_neg z]; exact e
  have hasR : ∀ j b, Has σ (putOb env i o') j b → Has σ env j b := fun j b ⟨e1, e2⟩ => by
    refine ⟨e1, ?_⟩
    rcases e2 with ⟨o, e2⟩ | ⟨o, e2⟩
    · obtain ⟨t0, q1, q2⟩ := key j _ e2
      by_cases z : j = i
      · rw [if_pos z] at q2
        cases t0 with
        | ow o0 => exact .inl ⟨_, q1⟩
        | rf o0 => exact .inr ⟨_, q1⟩
        | un => cases q2
        | sh d => cases q2
      · rw [if_neg z] at q2
        subst q2
        exact .inl ⟨_, q1⟩
    · obtain ⟨t0, q1, q2⟩ := key j _ e2
      by_cases z : j = i
      · rw [if_pos z] at q2
        cases t0 with
        | ow o0 => exact .inl ⟨_, q1⟩
        | rf o0 => exact .inr ⟨_, q1⟩
        | un => cases q2
        | sh d => cases q2
      · rw [if_neg z] at q2
        subst q2
        exact .inr ⟨_, q1⟩
  refine { s0 := S.s0.trans s0, s1 := s1, old := fun b q => ?_, kept := fun b o e q => ?_, len := ?_, slot := fun j t e => ?_, refs := fun j b q => ?_, apart := fun j k b h1 h2 => S.apart j k b (hasR j b h1) (hasR k b h2), frk := fun b o q => ?_ }
  · by_cases z : H b = none
    · exact absurd (S.live z) q
    · rw [new b z]; exact S.old b q
  · refine k b o (S.kept b o e q) ?_
    rintro rfl
    obtain ⟨e1, ⟨ob, e2⟩ | ⟨ob, e2⟩⟩ := h
    · obtain ⟨b', e1', n, _⟩ := S.slot i _ e2
      rw [e1] at e1'; cases e1'
      rw [n] at e; cases e
    · obtain ⟨b', e1', n, _⟩ := S.slot i _ e2
      rw [e1] at e1'; cases e1'
      exact q i n
  · rw [S.len]
    unfold putOb
    split <;> simp
  · obtain ⟨t0, q1, q2⟩ := key j t e
    have x := S.slot j t0 q1
    by_cases z : j = i
    · subst z
      rw [if_pos rfl] at q2
      subst q2
      cases t0 with
      | un => exact True.intro
      | sh d => obtain ⟨v, e1, r⟩ := x; exact ⟨v, e1, r.mono s0⟩
      | ow o =>
        obtain ⟨b, e1, n, n0, _⟩ := x
        obtain ⟨h1, _⟩ := h
        rw [e1] at h1
        have : b = a := by simpa using h1
        subst this
        exact ⟨b, e1, n, by rw [new b (by rw [hau]; simp)]; exact n0, r⟩
      | rf o =>
        obtain ⟨b, e1, n, n0, _⟩ := x
        obtain ⟨h1, _⟩ := h
        rw [e1] at h1
        have : b = a := by simpa using h1
        subst this
        exact ⟨b, e1, n, by rw [new b (by rw [hau]; simp)]; exact n0, r⟩
    · rw [if_neg z] at q2
      subst q2
      cases t with
      | un => exact True.intro
      | sh d => obtain ⟨v, e1, r⟩ := x; exact ⟨v, e1, r.mono s0⟩
      | ow o =>
        obtain ⟨b, e1, n, n0, r0⟩ := x
        obtain ⟨u, hu⟩ := r0.some
        have nb : b ≠ a := by
          rintro rfl
          exact z (S.apart j i b ⟨e1, .inl ⟨_, q1⟩⟩ h)
        exact ⟨b, e1, n, by rw [new b (by rw [hu]; simp)]; exact n0, r0.mono s0 (by rw [hu]; exact k b u hu nb)⟩
      | rf o =>
        obtain ⟨b, e1, n, n0, r0⟩ := x
        obtain ⟨u, hu⟩ := r0.some
        have nb : b ≠ a := by
          rintro rfl
          exact z (S.apart j i b ⟨e1, .inr ⟨_, q1⟩⟩ h)
        exact ⟨b, e1, n, by rw [new b (by rw [hu]; simp)]; exact n0, r0.mono s0 (by rw [hu]; exact k b u hu nb)⟩
  · obtain ⟨o, e1, e2⟩ := S.refs j b q
    have := keyR j _ e1
    by_cases z : j = i
    · rw [if_pos z] at this
      exact ⟨o', this, e2⟩
    · rw [if_neg z] at this
      exact ⟨o, this, e2⟩
  · obtain ⟨h1, h2, h3⟩ := S.frk b o q
    have nb : b ≠ a := by rintro rfl; exact h3 i h
    exact ⟨k b o h1 nb, by rw [new b (by rw [h1]; simp)]; exact h2, fun j hj => h3 j (hasR j b hj)⟩
end

/-! ### statements -/
def fsNil (env : Ev) : Rs Fl := .ok env .nx
def fSeq (f g : Ev → Rs Fl) (env : Ev) : Rs Fl := (f env).bind fun e fl => match fl with
  | .nx => g e
  | fl => .ok e fl
def fRet (fa : Ev → Rs D) (env : Ev) : Rs Fl := (fa env).bind fun e d => .ok e (.rt (.sh d))
def fExp (fa : Ev → Rs D) (env : Ev) : Rs Fl := (fa env).bind fun e _ => .ok e .nx
def fIfS (fc : Ev → Rs Bool) (fa fb : Ev → Rs Fl) (env : Ev) : Rs Fl := (fc env).bind fun e b => if b = true then fa e else fb e
def put (env : Ev) (i : Nat) (s : Sl) : Option Ev := if free env[i]? = true then some (env.set i s) else none
def fSet (i : Nat) (fa : Ev → Rs D) (env : Ev) : Rs Fl := (fa env).bind fun e d => match put e i (.sh d) with
  | some e' => .ok e' .nx
  | none => .no
section
variable {X : Cx} {W : WX} {k : Nat} {a b c : Expr} {st : Stmt} {sts : List Stmt} {fa fb : Ev → Rs D} {gc : Ev → Rs Bool} {f g : Ev → Rs Fl} {pos : Pos}
theorem PostS.nx {K : Frag} {E : En} {H0 H : Hp} {σ : St} {env : Ev} {N : Ends} (S : StR K E H0 H σ env) (h : PostS K W E H0 N (.ok env .nx)) : N.nx σ H := h σ H0 H (Same.refl _) S
theorem dss_nil : DSs X W [] fsNil := pss_mono pss_nil fun N σ H q => by
  obtain ⟨E, H0, env, S, q⟩ := q
  exact PostS.nx S q
theorem tDS_seq {K : Frag} {N : Ends} {σ : St} {H : Hp} (q : tDS K W (fSeq f g) N σ H) : tSeq (tDS K W f) (tDS K W g) N σ H := by
  obtain ⟨E, H0, env, S, q⟩ := q
  refine ⟨E, H0, env, S, ?_⟩
  unfold fSeq at q
  cases h : f env with
  | ok env' fl =>
    rw [h] at q
    cases fl with
    | nx => exact fun σ' H1 H' s S' => ⟨E, H1, env', S', PostS.up s q⟩
    | rt d => exact q
    | bk => exact q
    | ct => exact q
  | er env' C fl d =>
    rw [h] at q
    exact q
  | no =>
    rw [h] at q
    exact q
theorem dss_cons (h1 : DS X W st f) (h2 : DSs X W sts g) : DSs X W (st :: sts) (fSeq f g) := pss_mono (pss_cons h1 h2) fun N σ H q => tDS_seq q
theorem dss_one (h1 : DS X W st f) : DSs X W [st] f := pss_one h1
theorem ds_ret (h : DE X W a fa) : DS X W (.Return (some a) pos) (fRet fa) := by
  refine ps_mono (ps_ret h) fun N σ H q => ?_
  obtain ⟨E, H0, env, S, q⟩ := q
  exact WP.bindS S q fun e1 x v H1 H' S1 s1 r1 q1 => q1 v σ H1 H' (Same.refl _) S1 r1
theorem ds_retN : DS X W (.Return none pos) (fRet (fC .non)) := by
  refine ps_mono ps_retN fun N σ H q => ?_
  obtain ⟨E, H0, env, S, q⟩ := q
  exact q .non σ H0 H (Same.refl _) S .non
theorem ds_expr (h : DE X W a fa) (hs : swapsWith a none pos.line X.env = pure false := by rfl) : DS X W (.Expr a pos) (fExp fa) := by
  refine ps_mono (ps_expr h hs) fun N σ H q => ?_
  obtain ⟨E, H0, env, S, q⟩ := q
  exact WP.bindS S q fun e1 x v H1 H' S1 s1 r1 q1 => PostS.nx S1 q1
theorem ds_pass : DS X W (.Pass pos) fsNil := ps_mono ps_pass fun N σ H q => by
  obtain ⟨E, H0, env, S, q⟩ := q
  exact PostS.nx S q
theorem ds_continue : DS X W (.Continue pos) (fun env => .ok env .ct) := ps_mono ps_continue fun N σ H q => by
  obtain ⟨E, H0, env, S, q⟩ := q
  exact q σ H0 H (Same.refl _) S
theorem ds_break : DS X W (.Break pos) (fun env => .ok env .bk) := ps_mono ps_break fun N σ H q => by
  obtain ⟨E, H0, env, S, q⟩ := q
  exact q σ H0 H (Same.refl _) S
theorem ds_if {ss ts : List Stmt} (hc : DT X W c gc) (ha : DSs X W ss f) (hb : DSs X W ts g) : DS X W (.If c ss ts pos) (fIfS gc f g) := by
  refine ps_mono (ps_if hc ha hb) fun N σ H q => ?_
  obtain ⟨E, H0, env, S, q⟩ := q
  refine WP.bindS S q fun e1 x v H1 H' S1 s1 r1 q1 => ?_
  have r1 : x = v := r1
  subst r1
  cases x with
  | true => exact iteT ⟨E, H1, e1, S1, q1⟩
  | false => exact iteF ⟨E, H1, e1, S1, q1⟩
theorem ds_set {i : Nat} {x : Str} {pos' : Pos} (B : Bd X W k) (he : DE X W a fa) (hi : X.N[i]? = some x := by rfl) (hx : Loc X.env.scope x := by first | exact Or.inl rfl | exact Or.inr rfl) (hs : swapsWith a (some (.Name x pos')) pos.line X.env = pure false := by rfl) (hf : X.fn x = true ∨ X.env.scope.names.lookup x = some .local := by first | exact .inl rfl | exact .inr rfl | assumption) :
    DS X W (.Assign [.Name x pos'] a pos) (fSet i fa) := by
  refine ps_mono (ps_set (i := i) B.nd hi hx he hs hf) fun N σ H q => ?_
  obtain ⟨E, H0, env, S, q⟩ := q
  refine WP.bindS S q fun e1 d v H1 H' S1 s1 r1 q1 => ?_
  by_cases hfr : free e1[i]? = true
  · simp only [Rs.bind, put, if_pos hfr] at q1
    exact q1 _ H1 H' (Same.refl _) (S1.putSh hfr r1)
  · simp only [Rs.bind, put, if_neg hfr] at q1
    exact (show False from q1).elim
end
/-! ### new lists -/
abbrev DF (X : Cx) (W : WX) (e : Expr) (f : Ev → Rs (List D)) : Prop := PE X e (WP X.K W (RF X.K) f)
def fSh (f : Ev → Rs (List D)) (env : Ev) : Rs D := (f env).bind fun e ds => .ok e (.lst ds)
def fSetO (i : Nat) (fa : Ev → Rs (List D)) (env : Ev) : Rs Fl := (fa env).bind fun e ds => match put e i (.ow (.lst ds)) with
  | some e' => .ok e' .nx
  | none => .no
section
variable {X : Cx} {W : WX} {k : Nat} {a b c : Expr} {f : Ev → Rs (List D)} {pos : Pos}
theorem DF.de (h : DF X W a f) : DE X W a (fSh f) := by
  refine pe_mono h fun σ H Q q => ?_
  obtain ⟨E, H0, env, S, q⟩ := q
  refine WP.bind S q fun e1 ds v H1 H' S1 s1 r1 q1 => ?_
  obtain ⟨G, s, S2, r⟩ := S1.share r1
  exact q1 v G H' s S2 r
theorem ds_setO {i : Nat} {x : Str} {pos' : Pos} (B : Bd X W k) (he : DF X W a f) (hi : X.N[i]? = some x := by rfl) (hx : Loc X.env.scope x := by first | exact Or.inl rfl | exact Or.inr rfl) (hs : swapsWith a (some (.Name x pos')) pos.line X.env = pure false := by rfl) (hf : X.fn x = true ∨ X.env.scope.names.lookup x = some .local := by first | exact .inl rfl | exact .inr rfl | assumption) :
    DS X W (.Assign [.Name x pos'] a pos) (fSetO i f) := by
  refine ps_mono (ps_set (i := i) B.nd hi hx he hs hf) fun N σ H q => ?_
  obtain ⟨E, H0, env, S, q⟩ := q
  refine WP.bindS S q fun e1 d v H1 H' S1 s1 r1 q1 => ?_
  by_cases hfr : free e1[i]? = true
  · simp only [Rs.bind, put, if_pos hfr] at q1
    exact q1 _ H1 H' (Same.refl _) (S1.putOw hfr r1)
  · simp only [Rs.bind, put, if_neg hfr] at q1
    exact (show False from q1).elim
/-- a new list just laid -/
theorem StR.laid {K : Frag} {E : En} {H0 H : Hp} {σ : St} {env : Ev} {ds : List D} {vs : List V} {p : Addr} (S : StR K E H0 H σ env) (r : RpA K H0 ds vs) (n : H p = none) : StR K E H0 (upd H p (.lst vs)) σ env ∧ RF K E σ env H0 (upd H p (.lst vs)) ds (.ref p) := by
  refine ⟨S.newU _ n, p, vs, rfl, S.s1.free n, S.live n, ?_, fun i h => ?_, upd_same, r⟩
  · cases q : E.fr p with
    | none => rfl
    | some o => rw [(S.frk p o q).1] at n; cases n
  · obtain ⟨_, o, e⟩ := S.has h
    rw [e] at n; cases n
def small (n : Nat) : Bool := Nat.ble n 1000
def fLst (fa : Ev → Rs (List D)) (env : Ev) : Rs (List D) := (fa env).bind fun e ds => if small ds.length = true then .ok e ds else .no
theorem small_le {n : Nat} (h : small n = true) : n ≤ 1000 := Nat.le_of_ble_eq_true h
theorem df_lst {es : List Expr} {fa : Ev → Rs (List D)} (ha : DA X W es fa) : DF X W (.List es pos) (fLst fa) := by
  refine pe_mono (pe_lst ha) fun σ H Q q => ?_
  obtain ⟨E, H0, env, S, q⟩ := q
  refine WP.bind S q fun e1 ds vs H1 H' S1 s1 r1 q1 => ?_
  by_cases hz : small ds.length = true
  · rw [if_pos hz] at q1
    refine ⟨by rw [← RpA.length r1]; exact le_line (small_le hz), fun p n => ?_⟩
    obtain ⟨S2, r2⟩ := S1.laid r1 n
    exact q1 _ H1 _ (Same.refl _) S2 r2
  · rw [if_neg hz] at q1
    exact (show False from q1).elim
end
end DL

end

section
set_option Elab.async false
set_option linter.all false
set_option maxRecDepth 100000
set_option maxHeartbeats 2000000
/-! DC: targets, iterables, loops, comprehensions. -/
namespace DL
open PySem L2
/-! ### targets -/
/-- σ' is σ but for the slots is -/
def ChgIn (is : List Nat) (σ σ' : St) : Prop := σ'.length = σ.length ∧ ∀ j, j ∉ is → σ'[j]? = σ[j]?
theorem ChgIn.refl {is : List Nat} {σ : St} : ChgIn is σ σ := ⟨rfl, fun _ _ => rfl⟩
theorem ChgIn.trans {is js : List Nat} {σ σ1 σ2 : St} (a : ChgIn is σ σ1) (b : ChgIn js σ1 σ2) : ChgIn (is ++ js) σ σ2 :=
  ⟨b.1.trans a.1, fun j h => (b.2 j fun z => h (List.mem_append_right _ z)).trans (a.2 j fun z => h (List.mem_append_left _ z))⟩
theorem ChgIn.set {i : Nat} {σ : St} {x : Option V} : ChgIn [i] σ (σ.set i x) := ⟨by simp, fun j h => by rw [List.getElem?_set_ne]; rintro rfl; exact h List.mem_cons_self⟩
def tDG (K : Frag) (is : List Nat) (g : D → Ev → Option Ev) : TG := fun v σ H Q => ∃ E H0 env d env', StR K E H0 H σ env ∧ Rp K H0 d v ∧ g d env = some env' ∧ ∀ σ', StR K E H0 H σ' env' → ChgIn is σ σ' → Q σ' H
def tDGs (K : Frag) (is : List Nat) (g : List D → Ev → Option Ev) : TGs := fun vs σ H Q => ∃ E H0 env ds env', StR K E H0 H σ env ∧ RpA K H0 ds vs ∧ g ds env = some env' ∧ ∀ σ', StR K E H0 H σ' env' → ChgIn is σ σ' → Q σ' H
abbrev DG (X : Cx) (tg : Expr) (is : List Nat) (g : D → Ev → Option Ev) : Prop := PG X tg (tDG X.K is g)
abbrev DGs (X : Cx) (tg : List Expr) (is : List Nat) (g : List D → Ev → Option Ev) : Prop := PGs X tg (tDGs X.K is g)
def gNm (i : Nat) (d : D) (env : Ev) : Option Ev := put env i (.sh d)
def gsNil (ds : List D) (env : Ev) : Option Ev := match ds with
  | [] => some env
  | _ => none
def gsCons (g : D → Ev → Option Ev) (gs : List D → Ev → Option Ev) (ds : List D) (env : Ev) : Option Ev := match ds with
  | d :: r => (g d env).bind fun e => gs r e
  | [] => none
def gTp (gs : List D → Ev → Option Ev) (d : D) (env : Ev) : Option Ev := match d with
  | .tup ds => gs ds env
  | _ => none
def gLs (gs : List D → Ev → Option Ev) (d : D) (env : Ev) : Option Ev := match d with
  | .lst ds => gs ds env
  | _ => none
section
variable {X : Cx} {W : WX} {k : Nat} {pos : Pos} {e : Expr} {es : List Expr} {is js : List Nat} {g : D → Ev → Option Ev} {gs : List D → Ev → Option Ev}
theorem pg_mono {e : Expr} {t t' : TG} (h : PG X e t) (m : ∀ v σ H Q, t' v σ H Q → t v σ H Q) : PG X e t' := ⟨fun pins s σ H v u Q I r q => h.run pins s σ H v u Q I r (m v σ H Q q)⟩
theorem pgs_mono {e : List Expr} {t t' : TGs} (h : PGs X e t) (m : ∀ v σ H Q, t' v σ H Q → t v σ H Q) : PGs X e t' := ⟨fun pins s σ H v u Q I r q => h.run pins s σ H v u Q I r (m v σ H Q q)⟩
theorem put_some {env env' : Ev} {i : Nat} {s : Sl} (h : put env i s = some env') : free env[i]? = true ∧ env' = env.set i s := by
  unfold put at h
  split at h
  · rename_i q; cases h; exact ⟨q, rfl⟩
  · cases h
theorem dg_name {i : Nat} {x : Str} (nd : X.N.Nodup) (hi : X.N[i]? = some x := by rfl) (hx : Loc X.env.scope x := by first | exact Or.inl rfl | exact Or.inr rfl) (hf : X.fn x = true ∨ X.env.scope.names.lookup x = some .local := by first | exact .inl rfl | exact .inr rfl | assumption) : DG X (.Name x pos) [i] (gNm i) := by
  refine pg_mono (pg_name (i := i) nd hi hx hf) fun v σ H Q q => ?_
  obtain ⟨E, H0, env, d, env', S, r, e, k⟩ := q
  obtain ⟨hf, rfl⟩ := put_some e
  exact k _ (S.putSh hf r) ChgIn.set
theorem dgs_nil : DGs X [] [] gsNil := by
  refine pgs_mono pgs_nil fun v σ H Q q => ?_
  obtain ⟨E, H0, env, ds, env', S, r, e, k⟩ := q
  cases r with
  | nil => cases e; exact ⟨rfl, k σ S ChgIn.refl⟩
  | cons _ _ => cases e
theorem dgs_cons (h1 : DG X e is g) (h2 : DGs X es js gs) (hs : (assignEach (e :: es) X.env).map (·.2) = assign e X.env :: (assignEach es X.env).map (·.2) := by rfl) : DGs X (e :: es) (is ++ js) (gsCons g gs) := by
  refine pgs_mono (pgs_cons h1 h2 hs) fun vs σ H Q q => ?_
  obtain ⟨E, H0, env, ds, env', S, r, e, k⟩ := q
  cases r with
  | nil => cases e
  | cons r1 r2 =>
    obtain ⟨env1, e1, e2⟩ := Option.bind_eq_some_iff.mp e
    exact ⟨_, _, rfl, E, H0, env, _, env1, S, r1, e1, fun σ1 S1 c1 => ⟨E, H0, env1, _, env', S1, r2, e2, fun σ2 S2 c2 => k σ2 S2 (c1.trans c2)⟩⟩
theorem dg_tup {kk : Nat} {n : Nat} (hc : X.calm = true) (h : DGs X es is gs) (hn : (assignEach es X.env).length = n := by rfl) (hst : (assignEach es X.env).findIdx? (·.1) = none := by rfl) (hl : ∀ ds env e', gs ds env = some e' → ds.length = n) : DG X (.Tuple es kk pos) is (gTp gs) := by
  refine pg_mono (pg_tup hc h hn hst) fun v σ H Q q => ?_
  obtain ⟨E, H0, env, d, env', S, r, e, k⟩ := q
  cases r with
  | tup ht ra => exact ⟨_, _, rfl, sqT_mono S.s1 ht, by rw [← ra.length]; exact hl _ _ _ e, E, H0, env, _, env', S, ra, e, k⟩
  | _ => cases e
theorem dg_lst {kk : Nat} {n : Nat} (hc : X.calm = true) (h : DGs X es is gs) (hn : (assignEach es X.env).length = n := by rfl) (hst : (assignEach es X.env).findIdx? (·.1) = none := by rfl) (hl : ∀ ds env e', gs ds env = some e' → ds.length = n) : DG X (.Tuple es kk pos) is (gLs gs) := by
  refine pg_mono (pg_lst hc h hn hst) fun v σ H Q q => ?_
  obtain ⟨E, H0, env, d, env', S, r, e, k⟩ := q
  cases r with
  | lst ht ra => exact ⟨_, _, rfl, .inl (.inl (S.s1 _ _ ht)), by rw [← ra.length]; exact hl _ _ _ e, E, H0, env, _, env', S, ra, e, k⟩
  | _ => cases e
theorem gs_len0 {ds : List D} {env e' : Ev} (h : gsNil ds env = some e') : ds.length = 0 := by
  cases ds with
  | nil => rfl
  | cons _ _ => cases h
theorem gs_lenS {n : Nat} (h : ∀ ds env e', gs ds env = some e' → ds.length = n) : ∀ ds env e', gsCons g gs ds env = some e' → ds.length = n + 1 := fun ds env e' q => by
  cases ds with
  | nil => cases q
  | cons d r =>
    obtain ⟨e1, _, q2⟩ := Option.bind_eq_some_iff.mp q
    rw [List.length_cons, h r e1 e' q2]
/-- target = value -/
def fAsg (fa : Ev → Rs D) (g : D → Ev → Option Ev) (env : Ev) : Rs Fl := (fa env).bind fun e d => match g d e with
  | some e' => .ok e' .nx
  | none => .no
theorem ds_asg {a tg : Expr} {fa : Ev → Rs D} (ha : DE X W a fa) (hg : DG X tg is g) (hs : swapsWithSole [tg] a pos.line X.env = pure false := by rfl) (hw : swappedStores [tg] a X.env = pure none := by rfl)
    (h1 : (assignEach [tg] X.env).map (·.2) = [assign tg X.env] := by rfl) : DS X W (.Assign [tg] a pos) (fAsg fa g) := by
  refine ps_mono (ps_asg ha hg hs hw h1) fun N σ H q => ?_
  obtain ⟨E, H0, env, S, q⟩ := q
  refine WP.bindS S q fun e1 d v H1 H' S1 s1 r1 q1 => ?_
  cases e : g d e1 with
  | none => rw [e] at q1; exact (show False from q1).elim
  | some e2 =>
    rw [e] at q1
    exact ⟨E, H1, e1, d, e2, S1, r1, e, fun σ' S' _ => q1 σ' H1 H' (Same.refl _) S'⟩
end

/-! ### iterables -/
/-- the iterator gives ds, one after another, as long as what is shared stands -/
structure ItR (K : Frag) (J : It) (H1 : Hp) (ds : List D) : Prop where
  go : ∀ i H, Same H1 H → i < ds.length → J.go i H
  yld : ∀ i H0 H x H' d, Same H1 H0 → Same H0 H → ds[i]? = some d → J.yld i H x H' → ∃ H0', Gr H0 H H0' H' ∧ Rp K H0' d x
  stop : ∀ i H, Same H1 H → ds.length ≤ i → J.stop i H
abbrev RI (K : Frag) : RelT (List D) It := fun _ _ _ H1 _ ds J => ItR K J H1 ds
abbrev DI (X : Cx) (W : WX) (tg iter : Expr) (f : Ev → Rs (List D)) : Prop := PI X tg iter (WP X.K W (RI X.K) f)
section
variable {X : Cx} {W : WX} {k : Nat} {tg e : Expr} {fa : Ev → Rs D} {fs : Ev → Rs (List D)} {pos p : Pos}
theorem pi_mono {t t' : TI} (h : PI X tg e t) (m : ∀ σ H Q, t' σ H Q → t σ H Q) : PI X tg e t' := ⟨fun pins s σ H R I q => h.run pins s σ H R I (m σ H R q)⟩
theorem itR_list {K : Frag} {H1 : Hp} {a : Addr} {vs : List V} {ds : List D} (h : SqL K H1 a vs) (r : RpA K H1 ds vs) : ItR K (Itl K a) H1 ds where
  go := fun i H s hi => by
    have q : i < vs.length := by rw [← r.length]; exact hi
    exact ⟨vs, vs[i], s.seq h, by simp [q]⟩
  yld := fun i H0 H x H' d s0 s1 e y => by
    obtain ⟨rfl, y⟩ := y
    obtain ⟨v, e1, r1⟩ := r.get e
    have := y vs ((s0.trans s1).seq h)
    rw [e1] at this; cases this
    exact ⟨H0, .refl, r1.mono s0⟩
  stop := fun i H s hi => ⟨vs, s.seq h, by rw [← r.length]; exact hi⟩
theorem itR_tup {K : Frag} {H1 : Hp} {a : Addr} {vs : List V} {ds : List D} (h : SqT K H1 a vs) (r : RpA K H1 ds vs) : ItR K (Itt K a) H1 ds where
  go := fun i H s hi => by
    have q : i < vs.length := by rw [← r.length]; exact hi
    exact ⟨vs, vs[i], sqT_mono s h, by simp [q]⟩
  yld := fun i H0 H x H' d s0 s1 e y => by
    obtain ⟨rfl, y⟩ := y
    obtain ⟨v, e1, r1⟩ := r.get e
    have := y vs (sqT_mono (s0.trans s1) h)
    rw [e1] at this; cases this
    exact ⟨H0, .refl, r1.mono s0⟩
  stop := fun i H s hi => ⟨vs, sqT_mono s h, by rw [← r.length]; exact hi⟩
def enumD : Nat → List D → List D
  | _, [] => []
  | n, d :: r => .tup [.int n, d] :: enumD (n + 1) r
theorem enumD_length : ∀ (n : Nat) (ds : List D), (enumD n ds).length = ds.length
  | _, [] => rfl
  | n, d :: r => congrArg Nat.succ (enumD_length (n + 1) r)
theorem enumD_get : ∀ {n : Nat} {ds : List D} {i : Nat} {d : D}, (enumD n ds)[i]? = some d → ∃ z, ds[i]? = some z ∧ d = .tup [.int (n + i : Nat), z]
  | _, [], _, _, h => by simp [enumD] at h
  | n, z :: r, 0, d, h => by simp [enumD] at h; exact ⟨z, by simp, by simpa using h.symm⟩
  | n, z :: r, i + 1, d, h => by
    obtain ⟨y, h1, h2⟩ := enumD_get (n := n + 1) (ds := r) (i := i) (d := d) (by simpa [enumD] using h)
    exact ⟨y, by simpa using h1, by rw [h2, show n + 1 + i = n + (i + 1) by omega]⟩
theorem itR_enum {K : Frag} {H1 : Hp} {a : Addr} {vs : List V} {ds : List D} (h : SqL K H1 a vs) (r : RpA K H1 ds vs) : ItR K (Ite K a) H1 (enumD 0 ds) where
  go := fun i H s hi => by
    rw [enumD_length] at hi
    have q : i < vs.length := by rw [← r.length]; exact hi
    exact ⟨vs, vs[i], s.seq h, by simp [q]⟩
  yld := fun i H0 H x H' d s0 s1 e y => by
    obtain ⟨T, z, rfl, n, rfl, y⟩ := y
    obtain ⟨dz, e2, rfl⟩ := enumD_get e
    obtain ⟨v, e1, r1⟩ := r.get e2
    have hv : v = z := by
      have := y vs ((s0.trans s1).seq h)
      rw [e1] at this
      exact Option.some.inj this
    subst hv
    refine ⟨_, .new (.tup [.int (i : Nat), v]) n, .tup (SqT.of upd_same) (.cons ?_ (.cons (r1.mono (s0.trans (same_upd (s1.free n)))) .nil))⟩
    rw [Nat.zero_add]
    exact .int _
  stop := fun i H s hi => ⟨vs, s.seq h, by rw [← r.length]; rw [enumD_length] at hi; exact hi⟩
def rangeD (lo : Int) (n : Nat) : List D := (List.range n).map fun i => .int (lo + (i : Nat))
theorem itR_range {K : Frag} {H1 : Hp} (lo : Int) (n : Nat) : ItR K (Itr lo n) H1 (rangeD lo n) where
  go := fun i H s hi => by
    show i < n
    simpa [rangeD] using hi
  yld := fun i H0 H x H' d s0 s1 e y => by
    obtain ⟨rfl, rfl⟩ := y
    have hi : i < n := by
      have := (List.getElem?_eq_some_iff.mp e).1
      simpa [rangeD] using this
    have : d = .int (lo + (i : Nat)) := by
      simp [rangeD, hi] at e
      exact e.symm
    subst this
    exact ⟨H0, .refl, .int _⟩
  stop := fun i H s hi => by
    show n ≤ i
    simpa [rangeD] using hi
def strD (x : Str) : List D := x.cps.toList.map fun c => .str ⟨#[c]⟩
theorem itR_str {K : Frag} {H1 : Hp} (x : Str) : ItR K (Its x) H1 (strD x) where
  go := fun i H s hi => by
    show i < x.cps.size
    simpa [strD] using hi
  yld := fun i H0 H v H' d s0 s1 e y => by
    obtain ⟨rfl, c, e1, rfl⟩ := y
    simp [strD] at e
    obtain ⟨c', e2, rfl⟩ := e
    rw [e2] at e1; cases e1
    exact ⟨H0, .refl, .str _⟩
  stop := fun i H s hi => by
    show x.cps.size ≤ i
    simpa [strD] using hi
def fiL (fa : Ev → Rs D) (env : Ev) : Rs (List D) := (fa env).bind fun e d => match d with
  | .lst ds => .ok e ds
  | .fz ds => .ok e ds
  | _ => .no
def fiT (fa : Ev → Rs D) (env : Ev) : Rs (List D) := (fa env).bind fun e d => match d with
  | .tup ds => .ok e ds
  | _ => .no
def fiS (fa : Ev → Rs D) (env : Ev) : Rs (List D) := (fa env).bind fun e d => match d with
  | .str x => .ok e (strD x)
  | _ => .no
theorem di_list (h : DE X W e fa) : DI X W tg e (fiL fa) := by
  refine pi_mono (pi_list h) fun σ H Q q => ?_
  obtain ⟨E, H0, env, S, q⟩ := q
  refine WP.bind S q fun e1 d v H1 H' S1 s1 r1 q1 => ?_
  cases r1 with
  | lst h r => exact ⟨_, rfl, ⟨_, .inl (.inl (S1.s1 _ _ h))⟩, Post.here S1 q1 (itR_list (.inl (.inl h)) r)⟩
  | fz h r => exact ⟨_, rfl, ⟨_, S1.s1.seq h⟩, Post.here S1 q1 (itR_list h r)⟩
  | _ => exact (show False from q1).elim
theorem di_tup (h : DE X W e fa) : DI X W tg e (fiT fa) := by
  refine pi_mono (pi_tup h) fun σ H Q q => ?_
  obtain ⟨E, H0, env, S, q⟩ := q
  refine WP.bind S q fun e1 d v H1 H' S1 s1 r1 q1 => ?_
  cases r1 with
  | tup h r => exact ⟨_, rfl, ⟨_, sqT_mono S1.s1 h⟩, Post.here S1 q1 (itR_tup h r)⟩
  | _ => exact (show False from q1).elim
theorem di_str (h : DE X W e fa) : DI X W tg e (fiS fa) := by
  refine pi_mono (pi_str h) fun σ H Q q => ?_
  obtain ⟨E, H0, env, S, q⟩ := q
  refine WP.bind S q fun e1 d v H1 H' S1 s1 r1 q1 => ?_
  cases d with
  | str x => exact ⟨x, rp_str r1, Post.here S1 q1 (itR_str x)⟩
  | _ => exact (show False from q1).elim
/-- the bound of a range -/
def okR (n : Int) : Bool := decide (-(2 ^ 62) ≤ n ∧ n < 2 ^ 62)
def fiR1 (fa : Ev → Rs (List D)) (env : Ev) : Rs (List D) := (fa env).bind fun e ds => match ds with
  | [.int n] => if okR n = true then .ok e (rangeD 0 n.toNat) else .no
  | _ => .no
def fiR2 (fa : Ev → Rs (List D)) (env : Ev) : Rs (List D) := (fa env).bind fun e ds => match ds with
  | [.int m, .int n] => if okR m = true ∧ okR n = true then .ok e (rangeD m (n - m).toNat) else .no
  | _ => .no
theorem rpa1 {K : Frag} {H : Hp} {d : D} {vs : List V} (r : RpA K H [d] vs) : ∃ v, vs = [v] ∧ Rp K H d v := by
  cases r with
  | cons a b => cases b; exact ⟨_, rfl, a⟩
theorem rpa2 {K : Frag} {H : Hp} {d d2 : D} {vs : List V} (r : RpA K H [d, d2] vs) : ∃ v u, vs = [v, u] ∧ Rp K H d v ∧ Rp K H d2 u := by
  cases r with
  | cons a b => obtain ⟨u, rfl, q⟩ := rpa1 b; exact ⟨_, _, rfl, a, q⟩
theorem rpa3 {K : Frag} {H : Hp} {d d2 d3 : D} {vs : List V} (r : RpA K H [d, d2, d3] vs) : ∃ v u t, vs = [v, u, t] ∧ Rp K H d v ∧ Rp K H d2 u ∧ Rp K H d3 t := by
  cases r with
  | cons a b => obtain ⟨u, t, rfl, q, q'⟩ := rpa2 b; exact ⟨_, _, _, rfl, a, q, q'⟩
theorem di_range1 {a : Expr} (hm : X.mg "range" = none) (ha : DA X W [a] fs) (hg : Gl X "range" := by rfl) (hs : starEach [a] X.env = [(false, eval a X.env)] := by rfl) : DI X W tg (.Call (.Name "range" p) [a] [] pos) (fiR1 fs) := by
  refine pi_mono (pi_range1 hg hm ha hs) fun σ H Q q => ?_
  obtain ⟨E, H0, env, S, q⟩ := q
  refine WP.bind S q fun e1 ds vs H1 H' S1 s1 r1 q1 => ?_
  split at q1
  · rename_i n
    split at q1
    · rename_i hn
      obtain ⟨v, rfl, r⟩ := rpa1 r1
      have hn := of_decide_eq_true hn
      exact ⟨n, by rw [rp_int r], hn.1, hn.2, Post.here S1 q1 (by simpa using itR_range 0 n.toNat)⟩
    · exact (show False from q1).elim
  · exact (show False from q1).elim
theorem di_range2 {a b : Expr} (hm : X.mg "range" = none) (ha : DA X W [a, b] fs) (hg : Gl X "range" := by rfl) (hs : starEach [a, b] X.env = [(false, eval a X.env), (false, eval b X.env)] := by rfl) (hs2 : starEach [b] X.env = [(false, eval b X.env)] := by rfl) : DI X W tg (.Call (.Name "range" p) [a, b] [] pos) (fiR2 fs) := by
  refine pi_mono (pi_range2 hg hm ha hs hs2) fun σ H Q q => ?_
  obtain ⟨E, H0, env, S, q⟩ := q
  refine WP.bind S q fun e1 ds vs H1 H' S1 s1 r1 q1 => ?_
  split at q1
  · rename_i m n
    split at q1
    · rename_i hn
      obtain ⟨v, u, rfl, r, r'⟩ := rpa2 r1
      have h1 := of_decide_eq_true hn.1
      have h2 := of_decide_eq_true hn.2
      exact ⟨m, n, by rw [rp_int r, rp_int r'], ⟨h1.1, h1.2, h2.1, h2.2⟩, Post.here S1 q1 (itR_range m (n - m).toNat)⟩
    · exact (show False from q1).elim
  · exact (show False from q1).elim
def fiE (fa : Ev → Rs (List D)) (env : Ev) : Rs (List D) := (fa env).bind fun e ds => match ds with
  | [.lst ds] => .ok e (enumD 0 ds)
  | [.fz ds] => .ok e (enumD 0 ds)
  | _ => .no
theorem di_enum {a : Expr} {elts : List Expr} {kk : Nat} {tpos : Pos} (hm : X.mg "enumerate" = none) (ha : DA X W [a] fs) (hg : Gl X "enumerate" := by rfl) (hs : starEach [a] X.env = [(false, eval a X.env)] := by rfl) : DI X W (.Tuple elts kk tpos) (.Call (.Name "enumerate" p) [a] [] pos) (fiE fs) := by
  refine pi_mono (pi_enum hg hm ha hs) fun σ H Q q => ?_
  obtain ⟨E, H0, env, S, q⟩ := q
  refine WP.bind S q fun e1 ds vs H1 H' S1 s1 r1 q1 => ?_
  split at q1
  · obtain ⟨v, rfl, r⟩ := rpa1 r1
    cases r with
    | lst h r => exact ⟨_, _, rfl, .inl (.inl (S1.s1 _ _ h)), Post.here S1 q1 (itR_enum (.inl (.inl h)) r)⟩
  · obtain ⟨v, rfl, r⟩ := rpa1 r1
    cases r with
    | fz h r => exact ⟨_, _, rfl, S1.s1.seq h, Post.here S1 q1 (itR_enum h r)⟩
  · exact (show False from q1).elim
end

/-! ### for -/
def loopF (g : D → Ev → Option Ev) (fb : Ev → Rs Fl) : List D → Ev → Rs Fl
  | [], env => .ok env .nx
  | d :: r, env => match g d env with
    | none => .no
    | some e1 => (fb e1).bind fun e fl => match fl with
      | .nx => loopF g fb r e
      | .ct => loopF g fb r e
      | .bk => .ok e .nx
      | .rt d => .ok e (.rt d)
def fFor (fi : Ev → Rs (List D)) (g : D → Ev → Option Ev) (fb : Ev → Rs Fl) (env : Ev) : Rs Fl := (fi env).bind fun e ds => loopF g fb ds e
section
variable {X : Cx} {W : WX} {k : Nat} {tg iter : Expr} {fi : Ev → Rs (List D)} {g : D → Ev → Option Ev} {is : List Nat} {fb : Ev → Rs Fl} {body : List Stmt} {pos : Pos}
theorem ds_for (B : Bd X W k) (hi : DI X W tg iter fi) (hg : DG X tg is g) (hb : DSs X W body fb) (hs : ∀ x, foldedSetIterable iter X.env x = pure x := by intro _; rfl) : DS X W (.For tg iter body [] pos) (fFor fi g fb) := by
  refine ps_mono (ps_for B.hp B.hc hi hg hb hs) fun N σ H q => ?_
  obtain ⟨E, H0, env, S, q⟩ := q
  refine WP.bindS S q fun e1 ds J H1 H' S1 s1 J1 q1 => ?_
  refine ⟨fun i m σ' G => m = ds.length - i ∧ i ≤ ds.length ∧ ∃ G0 e, StR X.K E G0 G σ' e ∧ Same H1 G0 ∧ PostS X.K W E G0 N (loopF g fb (ds.drop i) e), ⟨_, rfl, Nat.zero_le _, H1, e1, S1, Same.refl _, by simpa using q1⟩, ?_⟩
  rintro i m σ' G ⟨rfl, hi, G0, e, SG, sG, qG⟩
  by_cases hlt : i < ds.length
  · right
    have hd : ds[i]? = some ds[i] := by simp [hlt]
    rw [List.drop_eq_getElem_cons hlt] at qG
    refine ⟨J1.go i G (sG.trans SG.s1) hlt, fun σ2 G2 => ∃ G0' e', StR X.K E G0' G2 σ2 e' ∧ Same H1 G0' ∧ PostS X.K W E G0' N (loopF g fb (ds.drop (i + 1)) e'), fun σ2 G2 ⟨G0', e', a1, a2, a3⟩ => ⟨_, Nat.sub_lt_sub_left hlt (Nat.lt_succ_self i), rfl, hlt, G0', e', a1, a2, a3⟩, fun x G2 y => ?_⟩
    obtain ⟨G0', gr, rx⟩ := J1.yld i G0 G x G2 _ sG SG.s1 hd y
    obtain ⟨s3, S3⟩ := SG.gr gr
    have q3 := qG.up s3
    unfold loopF at q3
    cases hge : g ds[i] e with
    | none => rw [hge] at q3; exact (show False from q3).elim
    | some e2 =>
      rw [hge] at q3
      dsimp only at q3
      refine ⟨E, G0', e, _, e2, S3, rx, hge, fun σ3 S4 _ => ⟨E, G0', e2, S4, ?_⟩⟩
      cases hfb : fb e2 with
      | ok e3 fl =>
        rw [hfb] at q3
        cases fl with
        | nx => exact fun σ4 G1 G3 s5 S5 => ⟨G1, e3, S5, (sG.trans s3).trans s5, PostS.up s5 q3⟩
        | ct => exact fun σ4 G1 G3 s5 S5 => ⟨G1, e3, S5, (sG.trans s3).trans s5, PostS.up s5 q3⟩
        | bk => exact q3
        | rt d => exact q3
      | er e3 C fl d =>
        rw [hfb] at q3
        exact q3
      | no =>
        rw [hfb] at q3
        exact q3
  · left
    have e0 : ds.drop i = [] := List.drop_eq_nil_of_le (by omega)
    rw [e0] at qG
    exact ⟨J1.stop i G (sG.trans SG.s1) (by omega), PostS.nx SG qG⟩
end

/-! ### comprehensions -/
/-- the block's own slots forgotten -/
def wipeE (env : Ev) : List Nat → Ev
  | [] => env
  | v :: vs => (wipeE env vs).set v .un
theorem wipeE_length (env : Ev) : ∀ vs, (wipeE env vs).length = env.length
  | [] => rfl
  | v :: vs => by unfold wipeE; rw [List.length_set, wipeE_length env vs]
theorem wipeE_get {env : Ev} {j : Nat} {s : Sl} : ∀ {vs : List Nat}, (wipeE env vs)[j]? = some s → s = .un ∨ (env[j]? = some s ∧ j ∉ vs)
  | [], h => .inr ⟨h, by simp⟩
  | v :: vs, h => by
    unfold wipeE at h
    by_cases e : v = j
    · subst e
      by_cases q : v < (wipeE env vs).length
      · rw [List.getElem?_set_self q] at h; cases h; exact .inl rfl
      · rw [List.getElem?_eq_none (by simp; omega)] at h; cases h
    · rw [List.getElem?_set_ne e] at h
      rcases wipeE_get h with h | ⟨h1, h2⟩
      · exact .inl h
      · exact .inr ⟨h1, by simp only [Rs.bind, List.mem_cons, not_or]; exact ⟨fun z => e z.symm, h2⟩⟩
theorem wipeE_out {env : Ev} {j : Nat} : ∀ {vs : List Nat}, j ∉ vs → (wipeE env vs)[j]? = env[j]?
  | [], _ => rfl
  | v :: vs, h => by
    unfold wipeE
    rw [List.getElem?_set_ne (fun e => h (by rw [e]; exact List.mem_cons_self)), wipeE_out fun z => h (List.mem_cons_of_mem _ z)]
/-- the own slots as they were -/
def backE (env0 env : Ev) : List Nat → Ev
  | [] => env
  | v :: vs => (backE env0 env vs).set v ((env0[v]?).getD .un)
theorem backE_length (env0 env : Ev) : ∀ vs, (backE env0 env vs).length = env.length
  | [] => rfl
  | v :: vs => by unfold backE; rw [List.length_set, backE_length env0 env vs]
theorem backE_get {env0 env : Ev} (hl : env.length = env0.length) {j : Nat} {s : Sl} : ∀ {vs : List Nat}, (backE env0 env vs)[j]? = some s → (j ∈ vs ∧ env0[j]? = some s) ∨ (env[j]? = some s ∧ j ∉ vs)
  | [], h => .inr ⟨h, by simp⟩
  | v :: vs, h => by
    unfold backE at h
    by_cases e : v = j
    · subst e
      by_cases q : v < (backE env0 env vs).length
      · rw [List.getElem?_set_self q] at h
        rw [backE_length, hl] at q
        refine .inl ⟨List.mem_cons_self, ?_⟩
        rw [List.getElem?_eq_getElem q] at h ⊢
        exact h
      · rw [List.getElem?_eq_none (by simp; omega)] at h; cases h
    · rw [List.getElem?_set_ne e] at h
      rcases backE_get hl h with ⟨h1, h2⟩ | ⟨h1, h2⟩
      · exact .inl ⟨List.mem_cons_of_mem _ h1, h2⟩
      · exact .inr ⟨h1, by simp only [Rs.bind, List.mem_cons, not_or]; exact ⟨fun z => e z.symm, h2⟩⟩
def plainSl : Option Sl → Bool
  | some .un => true
  | some (.sh _) => true
  | _ => false
/-- one item -/
def stepC (vs : List Nat) (g : D → Ev → Option Ev) (ft : Ev → Rs Bool) (fe : Ev → Rs D) (d : D) (acc : List D) (env : Ev) : Option (Ev × List D) := match g d env with
  | none => none
  | some e1 => match ft e1 with
    | .ok e2 true => (match fe e2 with
      | .ok e3 y => if small acc.length = true then some (wipeE e3 vs, acc ++ [y]) else none
      | _ => none)
    | .ok e2 false => some (wipeE e2 vs, acc)
    | _ => none
def loopC (vs : List Nat) (g : D → Ev → Option Ev) (ft : Ev → Rs Bool) (fe : Ev → Rs D) : List D → List D → Ev → Option (Ev × List D)
  | [], acc, env => some (env, acc)
  | d :: r, acc, env => match stepC vs g ft fe d acc env with
    | some (e, a) => loopC vs g ft fe r a e
    | none => none
def fLc (vs : List Nat) (fi : Ev → Rs (List D)) (g : D → Ev → Option Ev) (ft : Ev → Rs Bool) (fe : Ev → Rs D) (env : Ev) : Rs (List D) := (fi env).bind fun e ds =>
  if (vs.all fun v => plainSl e[v]?) = true then match loopC vs g ft fe ds [] (wipeE e vs) with
    | some (e', acc) => .ok (backE e e' vs) acc
    | none => .no
  else .no
section
variable {K : Frag} {E : En} {H0 H H1 H' : Hp} {σ : St} {env : Ev}
theorem wipe_get {σ : St} {j : Nat} : ∀ {vs : List Nat}, (wipe σ vs)[j]? = if j ∈ vs ∧ j < σ.length then some none else σ[j]?
  | [] => by simp [wipe]
  | v :: vs => by
    unfold wipe
    by_cases e : v = j
    · subst e
      by_cases q : v < σ.length
      · rw [List.getElem?_set_self (by rw [wipe_length]; exact q), if_pos ⟨List.mem_cons_self, q⟩]
      · rw [List.getElem?_eq_none (by simp [wipe_length]; omega), if_neg (fun z => q z.2), List.getElem?_eq_none (by omega)]
    · rw [List.getElem?_set_ne e, wipe_get]
      by_cases q : j ∈ vs ∧ j < σ.length
      · rw [if_pos q, if_pos ⟨List.mem_cons_of_mem _ q.1, q.2⟩]
      · rw [if_neg q, if_neg]
        rintro ⟨h1, h2⟩
        rcases List.mem_cons.mp h1 with z | z
        · exact e z.symm
        · exact q ⟨z, h2⟩
theorem wipe_chg {is vs : List Nat} {σ σ' : St} (h : ChgIn is σ σ') (hs : ∀ i ∈ is, i ∈ vs) : wipe σ' vs = wipe σ vs := by
  refine List.ext_getElem? fun j => ?_
  rw [wipe_get, wipe_get, h.1]
  by_cases q : j ∈ vs ∧ j < σ.length
  · rw [if_pos q, if_pos q]
  · rw [if_neg q, if_neg q]
    by_cases z : j ∈ vs
    · have : ¬ j < σ.length := fun y => q ⟨z, y⟩
      rw [List.getElem?_eq_none (by rw [h.1]; omega), List.getElem?_eq_none (by omega)]
    · exact h.2 j fun y => z (hs j y)
/-- the state with the own slots forgotten -/
theorem StR.wiped (S : StR K E H0 H σ env) {vs : List Nat} (hv : ∀ j a, (j, a) ∈ E.refs → j ∉ vs) {σ' : St} (hσ : wipe σ' vs = wipe σ vs) (hl : σ'.length = σ.length) : StR K E H0 H σ' (wipeE env vs) := by
  have get : ∀ j, j ∉ vs → σ'[j]? = σ[j]? := fun j hj => by
    have := congrArg (fun l => l[j]?) hσ
    simp only [Rs.bind, wipe_get] at this
    rw [if_neg (fun z => hj z.1), if_neg (fun z => hj z.1)] at this
    exact this
  have has : ∀ j a, Has σ' (wipeE env vs) j a → Has σ env j a := fun j a ⟨e1, e2⟩ => by
    rcases e2 with ⟨o, e2⟩ | ⟨o, e2⟩
    · rcases wipeE_get e2 with z | ⟨z1, z2⟩
      · cases z
      · exact ⟨by rw [← get j z2]; exact e1, .inl ⟨o, z1⟩⟩
    · rcases wipeE_get e2 with z | ⟨z1, z2⟩
      · cases z
      · exact ⟨by rw [← get j z2]; exact e1, .inr ⟨o, z1⟩⟩
  refine { S with len := by rw [hl, wipeE_length]; exact S.len, slot := fun j s e => ?_, refs := fun j a h => ?_, apart := fun i j a h1 h2 => S.apart i j a (has i a h1) (has j a h2), frk := fun a o h => ?_ }
  · rcases wipeE_get e with rfl | ⟨z1, z2⟩
    · exact True.intro
    · rw [get j z2]
      exact S.slot j s z1
  · obtain ⟨o, e1, e2⟩ := S.refs j a h
    have nj : j ∉ vs := hv j a h
    exact ⟨o, by rw [wipeE_out nj]; exact e1, by rw [get j nj]; exact e2⟩
  · obtain ⟨h1, h2, h3⟩ := S.frk a o h
    exact ⟨h1, h2, fun i hi => h3 i (has i a hi)⟩
/-- .. and back -/
theorem StR.back (S : StR K E H0 H σ env) {vs : List Nat} (hv : ∀ v ∈ vs, plainSl env[v]? = true) {env' : Ev} (S' : StR K E H1 H' (wipe σ vs) env') (s : Same H0 H1) : StR K E H1 H' σ (backE env env' vs) := by
  have hl : env'.length = env.length := by rw [← S'.len, wipe_length, S.len]
  have get : ∀ j, j ∉ vs → (wipe σ vs)[j]? = σ[j]? := fun j hj => by rw [wipe_get, if_neg (fun z => hj z.1)]
  have key : ∀ j s, (backE env env' vs)[j]? = some s → (j ∈ vs ∧ env[j]? = some s ∧ (s = .un ∨ ∃ d, s = .sh d)) ∨ (env'[j]? = some s ∧ j ∉ vs) := fun j s e => by
    rcases backE_get hl e with ⟨h1, h2⟩ | h
    · refine .inl ⟨h1, h2, ?_⟩
      have := hv j h1
      rw [h2] at this
      cases s with
      | un => exact .inl rfl
      | sh d => exact .inr ⟨d, rfl⟩
      | ow o => cases this
      | rf o => cases this
    · exact .inr h
  have keyR : ∀ j s, env'[j]? = some s → j ∉ vs → (backE env env' vs)[j]? = some s := by
    intro j s e hj
    clear key
    induction vs with
    | nil => exact e
    | cons v vs ih =>
      unfold backE
      rw [List.getElem?_set_ne (fun z => hj (by rw [z]; exact List.mem_cons_self))]
      have hj' : j ∉ vs := fun z => hj (List.mem_cons_of_mem _ z)
      clear ih
      -- by the plain recursion
      have all : ∀ us : List Nat, j ∉ us → (backE env env' us)[j]? = some s := by
        intro us
        induction us with
        | nil => exact fun _ => e
        | cons u us ih =>
          intro h
          unfold backE
          rw [List.getElem?_set_ne (fun z => h (by rw [z]; exact List.mem_cons_self))]
          exact ih fun z => h (List.mem_cons_of_mem _ z)
      exact all vs hj'
  have has : ∀ j a, Has σ (backE env env' vs) j a → Has (wipe σ vs) env' j a := fun j a ⟨e1, e2⟩ => by
    rcases e2 with ⟨o, e2⟩ | ⟨o, e2⟩
    · rcases key j _ e2 with ⟨_, _, z | ⟨d, z⟩⟩ | ⟨z1, z2⟩
      · cases z
      · cases z
      · exact ⟨by rw [get j z2]; exact e1, .inl ⟨o, z1⟩⟩
    · rcases key j _ e2 with ⟨_, _, z | ⟨d, z⟩⟩ | ⟨z1, z2⟩
      · cases z
      · cases z
      · exact ⟨by rw [get j z2]; exact e1, .inr ⟨o, z1⟩⟩
  refine { S' with len := by rw [backE_length, hl]; exact S.len, slot := fun j t e => ?_, refs := fun j a h => ?_, apart := fun i j a h1 h2 => S'.apart i j a (has i a h1) (has j a h2), frk := fun a o h => ?_ }
  · rcases key j t e with ⟨h1, h2, h3⟩ | ⟨z1, z2⟩
    · rcases h3 with rfl | ⟨d, rfl⟩
      · exact True.intro
      · obtain ⟨v, e1, r⟩ := S.sh h2
        exact ⟨v, e1, r.mono s⟩
    · have := S'.slot j t z1
      rw [get j z2] at this
      exact this
  · obtain ⟨o, e1, e2⟩ := S'.refs j a h
    have nj : j ∉ vs := fun z => by
      rw [wipe_get] at e2
      split at e2
      · cases e2
      · rename_i q
        have : ¬ j < σ.length := fun y => q ⟨z, y⟩
        rw [List.getElem?_eq_none (by omega)] at e2
        cases e2
    exact ⟨o, keyR j _ e1 nj, by rw [← get j nj]; exact e2⟩
  · obtain ⟨h1, h2, h3⟩ := S'.frk a o h
    exact ⟨h1, h2, fun i hi => h3 i (has i a hi)⟩
/-- with a thing more that is to stand -/
def En.and (E : En) (a : Addr) (o : HO) : En := { E with fr := upd E.fr a o }
theorem StR.and (S : StR K E H0 H σ env) {a : Addr} {o : HO} (e : H a = some o) (n : H0 a = none) (h : ∀ i, ¬ Has σ env i a) : StR K (E.and a o) H0 H σ env := by
  refine ⟨S.s0, S.s1, S.old, S.kept, S.len, fun i s q => ?_, S.refs, S.apart, fun b u q => ?_⟩
  · have x := S.slot i s q
    cases s <;> exact x
  · by_cases z : b = a
    · subst z
      have q : upd E.fr b o b = some u := q
      rw [upd_same] at q
      cases q
      exact ⟨e, n, h⟩
    · have q : upd E.fr a o b = some u := q
      rw [upd_ne z] at q
      exact S.frk b u q
theorem StR.unand {a : Addr} {o : HO} (S : StR K (E.and a o) H0 H σ env) (n : E.fr a = none) : StR K E H0 H σ env ∧ H a = some o ∧ H0 a = none ∧ ∀ i, ¬ Has σ env i a := by
  obtain ⟨h1, h2, h3⟩ := S.frk a o (show upd E.fr a o a = some o from upd_same)
  refine ⟨⟨S.s0, S.s1, S.old, S.kept, S.len, fun i s q => ?_, S.refs, S.apart, fun b u q => ?_⟩, h1, h2, h3⟩
  · have x := S.slot i s q
    cases s <;> exact x
  · by_cases z : b = a
    · subst z; rw [n] at q; cases q
    · exact S.frk b u (show upd E.fr a o b = some u by rw [upd_ne z]; exact q)
end
end DL

end

section
set_option Elab.async false
set_option linter.all false
set_option maxRecDepth 100000
set_option maxHeartbeats 2000000
/-! DD: comprehensions, defs and calls. -/
namespace DL
open PySem L2
section
variable {K : Frag} {E : En} {H0 H H1 H' : Hp} {σ : St} {env : Ev}
theorem StR.noRef (S : StR K E H0 H σ env) {vs : List Nat} (hv : ∀ v ∈ vs, plainSl env[v]? = true) : ∀ j a, (j, a) ∈ E.refs → j ∉ vs := fun j a h z => by
  obtain ⟨o, e1, _⟩ := S.refs j a h
  have := hv j z
  rw [e1] at this; cases this
/-- an untracked thing of nobody's changes -/
theorem StR.updU (S : StR K E H0 H σ env) {a : Addr} {o : HO} (n0 : H0 a = none) (nE : E.H a = none) (nf : E.fr a = none) (nh : ∀ i, ¬ Has σ env i a) : StR K E H0 (upd H a o) σ env := by
  refine ⟨S.s0, fun b u q => ?_, S.old, fun b u q h => ?_, S.len, fun i s q => ?_, S.refs, S.apart, fun b u q => ?_⟩
  · rw [upd_ne (ne_of_none q n0)]
    exact S.s1 _ _ q
  · rw [upd_ne (ne_of_none q nE)]
    exact S.kept _ _ q h
  · have x := S.slot i s q
    cases s with
    | un => exact True.intro
    | sh d => exact x
    | ow ob =>
      obtain ⟨b, e1, n, n0', r⟩ := x
      have nb : b ≠ a := by rintro rfl; exact nh i ⟨e1, .inl ⟨_, q⟩⟩
      exact ⟨b, e1, n, n0', r.mono (Same.refl _) (upd_ne nb)⟩
    | rf ob =>
      obtain ⟨b, e1, n, n0', r⟩ := x
      have nb : b ≠ a := by rintro rfl; exact nh i ⟨e1, .inr ⟨_, q⟩⟩
      exact ⟨b, e1, n, n0', r.mono (Same.refl _) (upd_ne nb)⟩
  · obtain ⟨h1, h2, h3⟩ := S.frk b u q
    have nb : b ≠ a := by rintro rfl; rw [nf] at q; cases q
    exact ⟨by rw [upd_ne nb]; exact h1, h2, h3⟩
theorem Gr.at_ {a : Addr} {u : HO} (g : Gr H0 H H1 H') (e : H a = some u) : H' a = some u ∧ H1 a = H0 a := by
  cases g with
  | refl => exact ⟨e, rfl⟩
  | new o n => exact ⟨by rw [upd_ne (ne_of_none e n)]; exact e, by rw [upd_ne (ne_of_none e n)]⟩
theorem wipe_wipe {vs : List Nat} {σ : St} : wipe (wipe σ vs) vs = wipe σ vs := by
  refine List.ext_getElem? fun j => ?_
  rw [wipe_get, wipe_get, wipe_length]
  by_cases q : j ∈ vs ∧ j < σ.length
  · simp [q]
  · simp [q]
theorem has_wipe {vs : List Nat} {env : Ev} {σ σ2 : St} (hσ : wipe σ2 vs = wipe σ vs) {i : Nat} {a : Addr} (h : Has (wipe σ vs) (wipeE env vs) i a) : Has σ2 env i a := by
  obtain ⟨e1, e2⟩ := h
  have key : ∀ s, (wipeE env vs)[i]? = some s → s ≠ .un → env[i]? = some s ∧ i ∉ vs := fun s e ne => by
    rcases wipeE_get e with z | z
    · exact absurd z ne
    · exact z
  have get : i ∉ vs → σ2[i]? = some (some (.ref a)) := fun hi => by
    rw [← hσ, wipe_get, if_neg (fun z => hi z.1)] at e1
    exact e1
  rcases e2 with ⟨o, e2⟩ | ⟨o, e2⟩
  · obtain ⟨z1, z2⟩ := key _ e2 (fun z => nomatch z)
    exact ⟨get z2, .inl ⟨o, z1⟩⟩
  · obtain ⟨z1, z2⟩ := key _ e2 (fun z => nomatch z)
    exact ⟨get z2, .inr ⟨o, z1⟩⟩
end
abbrev DTs (X : Cx) (W : WX) (es : List Expr) (f : Ev → Rs Bool) : Prop := PTs X es (tDT X.K W f)
def fYes (env : Ev) : Rs Bool := .ok env true
section
variable {X : Cx} {W : WX} {k : Nat} {tg iter elt c : Expr} {ifs : List Expr} {fi : Ev → Rs (List D)} {g : D → Ev → Option Ev} {is : List Nat} {ft : Ev → Rs Bool} {fe : Ev → Rs D} {pos : Pos} {scope : Scope} {own : List (Str × Nat)}
theorem dts_nil : DTs X W [] fYes := ⟨fun pins s σ H Q I h => by
  obtain ⟨E, H0, env, S, q⟩ := h
  exact pts_nil.run pins s σ H Q I (Post.here S q rfl)⟩
theorem dts_one (h : DT X W c ft) : DTs X W [c] ft := pts_one h
theorem lc_read {vs : List Nat} (his : ∀ i ∈ is, i ∈ vs) {σ : St} {H : Hp} {Q : VK} (q : WP X.K W (RF X.K) (fLc vs fi g ft fe) σ H Q) : tLc (WP X.K W (RI X.K) fi) (tDG X.K is g) (tDT X.K W0 ft) (tDE X.K W0 fe) vs σ H Q := by
  obtain ⟨E, H0, env, S, q⟩ := q
  refine WP.bind S q fun e1 ds J H1 H' S1 s1 J1 q1 D hD => ?_
  by_cases hv : (vs.all fun v => plainSl e1[v]?) = true
  rotate_left
  · rw [if_neg hv] at q1
    exact (show False from q1).elim
  rw [if_pos hv] at q1
  have hv : ∀ v ∈ vs, plainSl e1[v]? = true := List.all_eq_true.mp hv
  have nr := S1.noRef hv
  have nE := S1.live hD
  have nf : E.fr D = none := by
    cases z : E.fr D with
    | none => rfl
    | some o => rw [(S1.frk D o z).1] at hD; cases hD
  have SW : StR X.K E H1 H' (wipe σ vs) (wipeE e1 vs) := S1.wiped nr wipe_wipe (wipe_length _ _)
  have nhD : ∀ i, ¬ Has (wipe σ vs) (wipeE e1 vs) i D := fun i h => by
    obtain ⟨_, o, e⟩ := SW.has h
    rw [e] at hD; cases hD
  refine ⟨fun i m G => m = ds.length - i ∧ i ≤ ds.length ∧ ∃ G0 e acc vacc, StR X.K E G0 G (wipe σ vs) e ∧ Same H1 G0 ∧ G D = some (.lst vacc) ∧ G0 D = none ∧ (∀ i, ¬ Has (wipe σ vs) e i D) ∧ RpA X.K G0 acc vacc ∧
      ∃ e' accf, loopC vs g ft fe (ds.drop i) acc e = some (e', accf) ∧ Post X.K W (RF X.K) E H1 σ Q (.ok (backE e1 e' vs) accf), ?_, ?_⟩
  · refine ⟨_, rfl, Nat.zero_le _, H1, wipeE e1 vs, [], [], SW.newU _ hD, Same.refl _, upd_same, S1.s1.free hD, nhD, .nil, ?_⟩
    rw [List.drop_zero]
    cases hl : loopC vs g ft fe ds [] (wipeE e1 vs) with
    | none => rw [hl] at q1; exact (show False from q1).elim
    | some r =>
      obtain ⟨e', accf⟩ := r
      rw [hl] at q1
      exact ⟨e', accf, rfl, q1⟩
  · rintro i m G ⟨rfl, hi, G0, e, acc, vacc, SG, sG, eD, n0, nh, ra, e', accf, hl, qf⟩
    by_cases hlt : i < ds.length
    · right
      have hd : ds[i]? = some ds[i] := by simp [hlt]
      rw [List.drop_eq_getElem_cons hlt] at hl
      unfold loopC at hl
      refine ⟨J1.go i G (sG.trans SG.s1) hlt, fun G => ∃ G0 e acc vacc, StR X.K E G0 G (wipe σ vs) e ∧ Same H1 G0 ∧ G D = some (.lst vacc) ∧ G0 D = none ∧ (∀ i, ¬ Has (wipe σ vs) e i D) ∧ RpA X.K G0 acc vacc ∧
        ∃ e' accf, loopC vs g ft fe (ds.drop (i + 1)) acc e = some (e', accf) ∧ Post X.K W (RF X.K) E H1 σ Q (.ok (backE e1 e' vs) accf), fun G' h => ⟨_, Nat.sub_lt_sub_left hlt (Nat.lt_succ_self i), rfl, hlt, h⟩, fun x G2 y => ?_⟩
      obtain ⟨G0', gr, rx⟩ := J1.yld i G0 G x G2 _ sG SG.s1 hd y
      obtain ⟨s3, S3⟩ := SG.gr gr
      obtain ⟨eD2, n02⟩ := gr.at_ eD
      have S3' := S3.and eD2 (n02.trans n0) nh
      cases hst : stepC vs g ft fe ds[i] acc e with
      | none => rw [hst] at hl; cases hl
      | some r =>
        obtain ⟨er, accr⟩ := r
        rw [hst] at hl
        dsimp only at hl
        unfold stepC at hst
        cases hge : g ds[i] e with
        | none => rw [hge] at hst; cases hst
        | some e2 =>
          rw [hge] at hst
          dsimp only at hst
          refine ⟨_, G0', e, _, e2, S3', rx, hge, fun σ2 S4 c4 => ?_⟩
          have hw : wipe σ2 vs = wipe σ vs := (wipe_chg c4 his).trans wipe_wipe
          have hwl : σ2.length = σ.length := c4.1.trans (wipe_length _ _)
          have fin : ∀ {G1 G3 : Hp} {e3 : Ev} {acc2 : List DL.D} {vacc2 : List V} {σ2 : St}, wipe σ2 vs = wipe σ vs → StR X.K (E.and D (.lst vacc)) G1 G3 σ2 e3 → Same H1 G1 → RpA X.K G1 acc2 vacc2 → (er, accr) = (wipeE e3 vs, acc2) → ∀ G4, (G4 = G3 ∧ vacc2 = vacc ∨ G4 = upd G3 D (.lst vacc2)) →
              ∃ G0 e acc vacc, StR X.K E G0 G4 (wipe σ vs) e ∧ Same H1 G0 ∧ G4 D = some (.lst vacc) ∧ G0 D = none ∧ (∀ i, ¬ Has (wipe σ vs) e i D) ∧ RpA X.K G0 acc vacc ∧
              ∃ e' accf, loopC vs g ft fe (ds.drop (i + 1)) acc e = some (e', accf) ∧ Post X.K W (RF X.K) E H1 σ Q (.ok (backE e1 e' vs) accf) := by
            intro G1 G3 e3 acc2 vacc2 σ2 hw S5 s5 r5 eq G4 h4
            obtain ⟨S6, eD6, n06, nh6⟩ := S5.unand nf
            cases eq
            have hwl2 : σ2.length = σ.length := by
              have := congrArg List.length hw
              simpa [wipe_length] using this
            have S7 : StR X.K E G1 G3 (wipe σ vs) (wipeE e3 vs) := S6.wiped nr (by rw [wipe_wipe]; exact hw.symm) (by rw [wipe_length]; exact hwl2.symm)
            have nh7 : ∀ i, ¬ Has (wipe σ vs) (wipeE e3 vs) i D := fun i h => nh6 i (has_wipe hw h)
            rcases h4 with ⟨rfl, rfl⟩ | rfl
            · exact ⟨G1, _, _, _, S7, s5, eD6, n06, nh7, r5, _, _, hl, qf⟩
            · exact ⟨G1, _, _, _, S7.updU n06 nE nf nh7, s5, upd_same, n06, nh7, r5, _, _, hl, qf⟩
          refine ⟨hw, _, G0', e2, S4, ?_⟩
          cases hft : ft e2 with
          | ok e3 b =>
            rw [hft] at hst
            cases b with
            | true =>
              dsimp only at hst
              intro b' G1 G3 s5 S5 eb
              have eb : true = b' := eb
              subst eb
              refine iteT ⟨_, G1, e3, S5, ?_⟩
              cases hfe : fe e3 with
              | ok e4 yy =>
                rw [hfe] at hst
                dsimp only at hst
                split at hst
                · rename_i hsm
                  intro v G1' G3' s6 S6 r6
                  obtain ⟨_, eD6, _, _⟩ := S6.unand nf
                  have s7 := ((sG.trans s3).trans s5).trans s6
                  refine ⟨vacc, eD6, by rw [← ra.length]; exact small1000 (small_le hsm), ?_⟩
                  exact fin hw S6 s7 ((ra.mono ((s3.trans s5).trans s6)).append (.cons r6 .nil)) (Option.some.inj hst).symm _ (.inr rfl)
                · cases hst
              | er => rw [hfe] at hst; cases hst
              | no => rw [hfe] at hst; cases hst
            | false =>
              dsimp only at hst
              intro b' G1 G3 s5 S5 eb
              have eb : false = b' := eb
              subst eb
              exact iteF (fin hw S5 ((sG.trans s3).trans s5) (ra.mono (s3.trans s5)) (Option.some.inj hst).symm _ (.inl ⟨rfl, rfl⟩))
          | er => rw [hft] at hst; cases hst
          | no => rw [hft] at hst; cases hst
    · left
      have e0 : ds.drop i = [] := List.drop_eq_nil_of_le (by omega)
      rw [e0] at hl
      unfold loopC at hl
      cases hl
      refine ⟨J1.stop i G (sG.trans SG.s1) (by omega), ?_⟩
      have SB := S1.back hv SG sG
      refine qf _ G0 G sG SB ⟨D, vacc, rfl, n0, nE, nf, fun i h => ?_, eD, ra⟩
      -- slots of the end
      obtain ⟨c1, c2⟩ := h
      have hle : e.length = e1.length := by rw [← SG.len, wipe_length, S1.len]
      have : ∀ s, (backE e1 e vs)[i]? = some s → (∃ o, s = .ow o ∨ s = .rf o) → e[i]? = some s ∧ i ∉ vs := fun s es ho => by
        rcases backE_get hle es with ⟨z1, z2⟩ | z
        · have := hv i z1
          rw [z2] at this
          obtain ⟨o, rfl | rfl⟩ := ho <;> cases this
        · exact z
      rcases c2 with ⟨o, c2⟩ | ⟨o, c2⟩
      · obtain ⟨z1, z2⟩ := this _ c2 ⟨o, .inl rfl⟩
        exact nh i ⟨by rw [wipe_get, if_neg (fun z => z2 z.1)]; exact c1, .inl ⟨o, z1⟩⟩
      · obtain ⟨z1, z2⟩ := this _ c2 ⟨o, .inr rfl⟩
        exact nh i ⟨by rw [wipe_get, if_neg (fun z => z2 z.1)]; exact c1, .inr ⟨o, z1⟩⟩
theorem df_lc (B : Bd X W k) (hi : DI X W tg iter fi) (ok : BlkOk X.N X.env.scope scope own) (his : ∀ i ∈ is, i ∈ own.map (·.2))
    (hg : ∀ (s : Shared) (H : Hp) (C : Addr) (cl : List (Str × Addr)) (fp : List Addr), DG (X.blk s H scope (compEnvC scope cl C X.env) fp) tg is g)
    (ht : ∀ (s : Shared) (H : Hp) (C : Addr) (cl : List (Str × Addr)) (fp : List Addr), DTs (X.blk s H scope (compEnvC scope cl C X.env) fp) W0 ifs ft)
    (he : ∀ (s : Shared) (H : Hp) (C : Addr) (cl : List (Str × Addr)) (fp : List Addr), DE (X.blk s H scope (compEnvC scope cl C X.env) fp) W0 elt fe) (hs : ∀ x, foldedSetIterable iter X.env x = pure x := by intro _; rfl) :
    DF X W (.ListComp elt [⟨tg, iter, ifs, 0⟩] scope pos) (fLc (own.map (·.2)) fi g ft fe) :=
  pe_mono (pe_lc (g := tDG X.K is g) (tt := tDT X.K W0 ft) (te := tDE X.K W0 fe) B.hc B.nd hi ok hg ht he hs) fun σ H Q q => lc_read his q
/-- name = [..] -/
theorem ds_setLc {i : Nat} {y : Str} {py spos : Pos} (B : Bd X W k) (hi : DI X W tg iter fi) (ok : BlkOk X.N X.env.scope scope own) (his : ∀ i ∈ is, i ∈ own.map (·.2))
    (hg : ∀ (s : Shared) (H : Hp) (C : Addr) (cl : List (Str × Addr)) (fp : List Addr), DG (X.blk s H scope (compEnvC scope cl C X.env) fp) tg is g)
    (ht : ∀ (s : Shared) (H : Hp) (C : Addr) (cl : List (Str × Addr)) (fp : List Addr), DTs (X.blk s H scope (compEnvC scope cl C X.env) fp) W0 ifs ft)
    (he : ∀ (s : Shared) (H : Hp) (C : Addr) (cl : List (Str × Addr)) (fp : List Addr), DE (X.blk s H scope (compEnvC scope cl C X.env) fp) W0 elt fe)
    (hsw : swapsWith (.ListComp elt [⟨tg, iter, ifs, 0⟩] scope pos) (some (.Name y py)) spos.line X.env = pure true) (hy : X.N[i]? = some y := by rfl) (hyl : X.env.scope.names.lookup y = some .local := by rfl) (hs : ∀ x, foldedSetIterable iter X.env x = pure x := by intro _; rfl) :
    DS X W (.Assign [.Name y py] (.ListComp elt [⟨tg, iter, ifs, 0⟩] scope pos) spos) (fSet i (fSh (fLc (own.map (·.2)) fi g ft fe))) := by
  refine ps_mono (ps_setLc (i := i) (g := tDG X.K is g) (tt := tDT X.K W0 ft) (te := tDE X.K W0 fe) B.hc B.nd hy hyl hsw hi ok hg ht he hs) fun N σ H q => lc_read his ?_
  obtain ⟨E, H0, env, S, q⟩ := q
  have q' : PostS X.K W E H0 N ((fLc (own.map (·.2)) fi g ft fe env).bind fun e ds => match put e i (.sh (.lst ds)) with | some e' => .ok e' .nx | none => .no) := by
    cases h : fLc (own.map (·.2)) fi g ft fe env with
    | ok e x =>
      simp only [Rs.bind, fSet, fSh, h] at q
      exact q
    | er =>
      simp only [Rs.bind, fSet, fSh, h] at q
      exact q
    | no =>
      simp only [Rs.bind, fSet, fSh, h] at q
      exact q
  refine WP.bindS S q' fun e1 ds v H1 H' S1 s1 r1 q1 => ?_
  by_cases hfr : free e1[i]? = true
  · simp only [Rs.bind, put, if_pos hfr] at q1
    obtain ⟨G, s, S2, r⟩ := S1.share r1
    exact q1 _ G H' s (S2.putSh hfr r)
  · simp only [Rs.bind, put, if_neg hfr] at q1
    exact (show False from q1).elim
/-- .. as a list of the slot's own -/
theorem ds_setLcO {i : Nat} {y : Str} {py spos : Pos} (B : Bd X W k) (hi : DI X W tg iter fi) (ok : BlkOk X.N X.env.scope scope own) (his : ∀ i ∈ is, i ∈ own.map (·.2))
    (hg : ∀ (s : Shared) (H : Hp) (C : Addr) (cl : List (Str × Addr)) (fp : List Addr), DG (X.blk s H scope (compEnvC scope cl C X.env) fp) tg is g)
    (ht : ∀ (s : Shared) (H : Hp) (C : Addr) (cl : List (Str × Addr)) (fp : List Addr), DTs (X.blk s H scope (compEnvC scope cl C X.env) fp) W0 ifs ft)
    (he : ∀ (s : Shared) (H : Hp) (C : Addr) (cl : List (Str × Addr)) (fp : List Addr), DE (X.blk s H scope (compEnvC scope cl C X.env) fp) W0 elt fe)
    (hsw : swapsWith (.ListComp elt [⟨tg, iter, ifs, 0⟩] scope pos) (some (.Name y py)) spos.line X.env = pure true) (hy : X.N[i]? = some y := by rfl) (hyl : X.env.scope.names.lookup y = some .local := by rfl) (hs : ∀ x, foldedSetIterable iter X.env x = pure x := by intro _; rfl) :
    DS X W (.Assign [.Name y py] (.ListComp elt [⟨tg, iter, ifs, 0⟩] scope pos) spos) (fSetO i (fLc (own.map (·.2)) fi g ft fe)) := by
  refine ps_mono (ps_setLc (i := i) (g := tDG X.K is g) (tt := tDT X.K W0 ft) (te := tDE X.K W0 fe) B.hc B.nd hy hyl hsw hi ok hg ht he hs) fun N σ H q => lc_read his ?_
  obtain ⟨E, H0, env, S, q⟩ := q
  refine WP.bindS S q fun e1 ds v H1 H' S1 s1 r1 q1 => ?_
  by_cases hfr : free e1[i]? = true
  · simp only [Rs.bind, put, if_pos hfr] at q1
    exact q1 _ H1 H' (Same.refl _) (S1.putOw hfr r1)
  · simp only [Rs.bind, put, if_neg hfr] at q1
    exact (show False from q1).elim
end

theorem Bd.blk {X : Cx} {W : WX} {k : Nat} (B : Bd X W k) {s : Shared} {H : Hp} {scope : Scope} {cenv : PySem.Env} {fp : List Addr} : Bd (X.blk s H scope cenv fp) W0 k :=
  ⟨takes0, PassesOwn.never, B.hc, B.nd, B.hr⟩
/-! ### defs and their promises -/
/-- the arguments: shared values, the caller's objects -/
structure ArgR (K : Frag) (H0 H : Hp) (as : List Sl) (vs : List V) : Prop where
  len : as.length = vs.length
  arg : ∀ (i : Nat) (s : Sl), as[i]? = some s → (∃ d v, s = .sh d ∧ vs[i]? = some v ∧ Rp K H0 d v) ∨ ∃ o a, s = .rf o ∧ vs[i]? = some (.ref a) ∧ H0 a = none ∧ ObR K H0 H a o
  apart : ∀ (i j : Nat) (a : Addr) (o o' : Ob), as[i]? = some (.rf o) → as[j]? = some (.rf o') → vs[i]? = some (.ref a) → vs[j]? = some (.ref a) → i = j
structure Aft (K : Frag) (H0 H : Hp) (as : List Sl) (vs : List V) (e : Ev) (H1 H' : Hp) : Prop where
  s0 : Same H0 H1
  s1 : Same H1 H'
  new : ∀ b, H b ≠ none → H1 b = H0 b
  kept : ∀ b u, H b = some u → (∀ (i : Nat) (o : Ob), as[i]? = some (.rf o) → vs[i]? ≠ some (.ref b)) → H' b = some u
  refs : ∀ (i : Nat) (o : Ob) (a : Addr), as[i]? = some (.rf o) → vs[i]? = some (.ref a) → ∃ o', e[i]? = some (.rf o') ∧ ObR K H1 H' a o'
/-- what is handed back, at the caller's -/
def RBack (K : Frag) (H H1 H' : Hp) (v : V) : Dr → Prop
  | .sh d => Rp K H1 d v
  | .fr ds => ∃ a vs, v = .ref a ∧ H1 a = none ∧ H a = none ∧ H' a = some (.lst vs) ∧ RpA K H1 ds vs
def PostD (K : Frag) (H0 H : Hp) (as : List Sl) (vs : List V) (Q : VK) (E : XK) : Rs Dr → Prop
  | .ok e r => ∀ v H1 H', Aft K H0 H as vs e H1 H' → RBack K H H1 H' v r → Q v H'
  | .er e C fl d => ∀ v dd H1 H', Aft K H0 H as vs e H1 H' → Rp K H1 d v → H1 dd = some (.xd [(fl, v)]) → E (.ref (He.ga K C)) (some dd) H'
  | .no => False
def spD (K : Frag) (n : Nat) (g : List Sl → Rs Dr) : Sp := fun vs H Q E => vs.length = n ∧ ∃ H0 as, Same H0 H ∧ ArgR K H0 H as vs ∧ PostD K H0 H as vs Q E (g as)
/-- a body's function as a def's -/
def gOf (m : Nat) (f : Ev → Rs Fl) (as : List Sl) : Rs Dr := match f (as ++ List.replicate (m - as.length) .un) with
  | .ok e .nx => .ok e (.sh .non)
  | .ok e (.rt d) => .ok e d
  | .er e C fl d => .er e C fl d
  | _ => .no
def refsOf (as : List Sl) (vs : List V) : List (Nat × Addr) := (List.range as.length).filterMap fun (i : Nat) => match as[i]?, vs[i]? with
  | some (.rf _), some (.ref a) => some (i, a)
  | _, _ => none
theorem mem_refsOf {as : List Sl} {vs : List V} {i : Nat} {a : Addr} : (i, a) ∈ refsOf as vs ↔ (∃ o, as[i]? = some (.rf o)) ∧ vs[i]? = some (.ref a) := by
  unfold refsOf
  rw [List.mem_filterMap]
  constructor
  · rintro ⟨j, hj, e⟩
    split at e
    · rename_i o b h1 h2
      cases e
      exact ⟨⟨o, h1⟩, h2⟩
    · cases e
  · rintro ⟨⟨o, h1⟩, h2⟩
    refine ⟨i, List.mem_range.mpr (List.getElem?_eq_some_iff.mp h1).1, ?_⟩
    rw [h1, h2]
theorem start_get {N : List Str} {vs : List V} {i : Nat} {v : V} (h : vs[i]? = some v) : (L2.start N vs)[i]? = some (some v) := by
  unfold L2.start
  have hi := (List.getElem?_eq_some_iff.mp h).1
  rw [List.getElem?_append_left (by simpa using hi), List.getElem?_map, h]
  rfl
theorem entry {K : Frag} {H0 H : Hp} {as : List Sl} {vs : List V} {N : List Str} (A : ArgR K H0 H as vs) (s : Same H0 H) (hn : as.length ≤ N.length) :
    StR K ⟨H0, H, refsOf as vs, fun _ => none⟩ H0 H (L2.start N vs) (as ++ List.replicate (N.length - as.length) Sl.un) := by
  have get : ∀ (i : Nat) (t : Sl), (as ++ List.replicate (N.length - as.length) Sl.un)[i]? = some t → as[i]? = some t ∨ t = .un := fun i t e => by
    by_cases hi : i < as.length
    · rw [List.getElem?_append_left hi] at e; exact .inl e
    · rw [List.getElem?_append_right (by omega), List.getElem?_replicate] at e
      split at e
      · exact .inr (by cases e; rfl)
      · cases e
  have has : ∀ i a, Has (L2.start N vs) (as ++ List.replicate (N.length - as.length) Sl.un) i a → (∃ o, as[i]? = some (.rf o)) ∧ vs[i]? = some (.ref a) := fun i a ⟨e1, e2⟩ => by
    have key : ∀ (t : Sl), (as ++ List.replicate (N.length - as.length) Sl.un)[i]? = some t → t ≠ .un → as[i]? = some t := fun t e ne => (get i t e).resolve_right ne
    rcases e2 with ⟨o, e2⟩ | ⟨o, e2⟩
    · have q := key _ e2 (fun z => nomatch z)
      rcases A.arg i _ q with ⟨d, v, z, _⟩ | ⟨o', b, z, _⟩ <;> cases z
    · have q := key _ e2 (fun z => nomatch z)
      rcases A.arg i _ q with ⟨d, v, z, _⟩ | ⟨o', b, z, e3, _⟩
      · cases z
      · rw [start_get e3] at e1
        cases e1
        exact ⟨⟨o, q⟩, e3⟩
  refine ⟨Same.refl _, s, fun _ _ => rfl, fun _ _ e _ => e, ?_, fun i t e => ?_, fun i a h => ?_, fun i j a h1 h2 => ?_, fun _ _ h => nomatch h⟩
  · unfold L2.start
    have := A.len
    simp
    omega
  · rcases get i t e with q | rfl
    · rcases A.arg i t q with ⟨d, v, rfl, e1, r⟩ | ⟨o, a, rfl, e1, n, r⟩
      · exact ⟨v, start_get e1, r⟩
      · exact ⟨a, start_get e1, mem_refsOf.mpr ⟨⟨o, q⟩, e1⟩, n, r⟩
    · exact True.intro
  · obtain ⟨⟨o, e1⟩, e2⟩ := mem_refsOf.mp h
    exact ⟨o, by rw [List.getElem?_append_left (List.getElem?_eq_some_iff.mp e1).1]; exact e1, start_get e2⟩
  · obtain ⟨⟨o, q1⟩, q2⟩ := has i a h1
    obtain ⟨⟨o', q3⟩, q4⟩ := has j a h2
    exact A.apart i j a o o' q1 q3 q2 q4
theorem StR.aft {K : Frag} {H0 H H1 H' : Hp} {as : List Sl} {vs : List V} {σ : St} {e : Ev} (S : StR K ⟨H0, H, refsOf as vs, fun _ => none⟩ H1 H' σ e) : Aft K H0 H as vs e H1 H' where
  s0 := S.s0
  s1 := S.s1
  new := S.old
  kept := fun b u q h => S.kept b u q fun i hi => by
    obtain ⟨⟨o, e1⟩, e2⟩ := mem_refsOf.mp hi
    exact h i o e1 e2
  refs := fun i o a e1 e2 => by
    obtain ⟨o', q1, q2⟩ := S.refs i a (mem_refsOf.mpr ⟨⟨o, e1⟩, e2⟩)
    obtain ⟨b, q3, _, _, r⟩ := S.slot i _ q1
    rw [q2] at q3
    cases q3
    exact ⟨o', q1, r⟩
section
variable {P : Program} {w : World} {K : Frag} {mg : Str → Option Value} {base : Heap} {x qual : Str} {params : Arguments} {body : List Stmt} {scope : Scope} {dvs : List V} {kws : List (Str × V)} {f : Addr} {fd : FuncData} {N ps : List Str} {k : Nat}
/-- THE RULE for a def: its body's function -/
theorem def_ok {fb : Ev → Rs Fl} (F : FunD K x qual params body scope dvs kws f fd) (S : FnScope N ps scope)
    (hb : ∀ (cdv : Value) (A : Around) (outer : List Env) (s : Shared) (H : Hp) (E : XK), Bd (cxOf (L2.CX P w) P w K mg base N qual scope f cdv A outer s H E) (fun cls d _ H => E cls d H) k → DSs (cxOf (L2.CX P w) P w K mg base N qual scope f cdv A outer s H E) (fun cls d _ H => E cls d H) body fb) :
    FnOk P w K mg base (L2.CX P w) (k + 1) f fd ps (spD K ps.length (gOf N.length fb)) := by
  refine F.ok S (fun vs H Q E h => h.1) fun cdv A outer s H vs Q E hr h => ⟨tDS K (fun cls d _ H => E cls d H) fb, hb cdv A outer s H E ⟨takes_of rfl rfl rfl rfl, passes_of rfl, rfl, S.nd, hr⟩, ?_⟩
  obtain ⟨hl, H0, as, sm, A, h⟩ := h
  have hpl : ps.length ≤ N.length := by have := congrArg List.length S.pre; rw [List.length_take] at this; omega
  refine ⟨_, H0, _, entry (N := N) A sm (by rw [A.len, hl]; exact hpl), ?_⟩
  unfold gOf at h
  cases e : fb (as ++ List.replicate (N.length - as.length) .un) with
  | ok e' fl =>
    rw [e] at h
    cases fl with
    | nx => exact fun σ' H1 H' _ S' => h .non H1 H' S'.aft Rp.non
    | rt d =>
      intro v σ' H1 H' _ S' r
      refine h v H1 H' S'.aft ?_
      cases d with
      | sh d => exact r
      | fr ds =>
        obtain ⟨a, vs, rfl, n0, nE, nf, nh, e, r⟩ := r
        exact ⟨a, vs, rfl, n0, nE, e, r⟩
    | bk => exact (show False from h).elim
    | ct => exact (show False from h).elim
  | er e' C fl d =>
    rw [e] at h
    exact fun v dd σ' H1 H' _ S' r q => h v dd H1 H' S'.aft r q
  | no =>
    rw [e] at h
    exact (show False from h).elim
end
/-! ### calls -/
/-- a def of the text: its promise, how it is found, its defaults -/
def Dfn (P : Program) (w : World) (K : Frag) (mg : Str → Option Value) (base : Heap) (k : Nat) (x : Str) (n : Nat) (dv : List D) (g : List Sl → Rs Dr) : Prop :=
  ∃ f fd ps ds vs, FnOk P w K mg base (L2.CX P w) k f fd ps (spD K n g) ∧ mg x = some (.ref f) ∧ PySem.W.keepIn K (.ref f) = true ∧ Binds K fd ps ds ∧ Vals vs ds ∧ ∀ H, RpA K H dv vs
/-- a result at the caller's slots -/
def back (e : Ev) : Rs Dr → Rs Dr
  | .ok _ r => .ok e r
  | .er _ C fl d => .er e C fl d
  | .no => .no
def fCall (n : Nat) (g : List Sl → Rs Dr) (dv : List D) (fa : Ev → Rs (List D)) (env : Ev) : Rs Dr := (fa env).bind fun e ds => if Nat.beq (ds ++ dv).length n = true then back e (g ((ds ++ dv).map .sh)) else .no
/-- with slot i's object as the first argument -/
def backR (e : Ev) (i : Nat) : Rs Dr → Rs Dr
  | .ok e' r => (match (e'[0]? : Option Sl) with
    | some (Sl.rf o) => .ok (putOb e i o) r
    | _ => .no)
  | .er e' C fl d => (match (e'[0]? : Option Sl) with
    | some (Sl.rf o) => .er (putOb e i o) C fl d
    | _ => .no)
  | .no => .no
def fCallR (i n : Nat) (g : List Sl → Rs Dr) (dv : List D) (fa : Ev → Rs (List D)) (env : Ev) : Rs Dr := if (ob? env[i]?).isSome = true then (fa env).bind fun e ds => if Nat.beq ((ds ++ dv).length + 1) n = true then (match ob? e[i]? with
  | some o => backR e i (g (.rf o :: (ds ++ dv).map .sh))
  | none => .no) else .no
  else .no
abbrev DX (X : Cx) (W : WX) (e : Expr) (f : Ev → Rs Dr) : Prop := PE X e (WP X.K W (RDr X.K) f)
def fShR (f : Ev → Rs Dr) (env : Ev) : Rs D := (f env).bind fun e r => match r with
  | .sh d => .ok e d
  | .fr ds => .ok e (.lst ds)
def fFrR (f : Ev → Rs Dr) (env : Ev) : Rs (List D) := (f env).bind fun e r => match r with
  | .fr ds => .ok e ds
  | _ => .no
section
variable {X : Cx} {W : WX} {k j n : Nat} {a e : Expr} {es : List Expr} {f : Ev → Rs Dr} {fa : Ev → Rs (List D)} {g : List Sl → Rs Dr} {dv : List D} {x : Str} {p pos : Pos}
theorem DX.de (h : DX X W a f) : DE X W a (fShR f) := by
  refine pe_mono h fun σ H Q q => ?_
  obtain ⟨E, H0, env, S, q⟩ := q
  refine WP.bind S q fun e1 r v H1 H' S1 s1 r1 q1 => ?_
  cases r with
  | sh d => exact Post.here S1 q1 r1
  | fr ds =>
    obtain ⟨G, s, S2, r⟩ := S1.share r1
    exact q1 v G H' s S2 r
theorem DX.df (h : DX X W a f) : DF X W a (fFrR f) := by
  refine pe_mono h fun σ H Q q => ?_
  obtain ⟨E, H0, env, S, q⟩ := q
  refine WP.bind S q fun e1 r v H1 H' S1 s1 r1 q1 => ?_
  cases r with
  | sh d => exact (show False from q1).elim
  | fr ds => exact Post.here S1 q1 r1
theorem DE.ret {st : Stmt} (h : DX X W a f) : DS X W (.Return (some a) pos) (fun env => (f env).bind fun e r => .ok e (.rt r)) := by
  refine ps_mono (ps_ret h) fun N σ H q => ?_
  obtain ⟨E, H0, env, S, q⟩ := q
  exact WP.bindS S q fun e1 x v H1 H' S1 s1 r1 q1 => q1 v σ H1 H' (Same.refl _) S1 r1
theorem ds_retF {fl : Ev → Rs (List D)} (h : DF X W a fl) : DS X W (.Return (some a) pos) (fun env => (fl env).bind fun e ds => .ok e (.rt (.fr ds))) := by
  refine ps_mono (ps_ret h) fun N σ H q => ?_
  obtain ⟨E, H0, env, S, q⟩ := q
  exact WP.bindS S q fun e1 x v H1 H' S1 s1 r1 q1 => q1 v σ H1 H' (Same.refl _) S1 r1
theorem shArgs {K : Frag} {H0 H : Hp} {ds : List D} {vs : List V} (r : RpA K H0 ds vs) : ArgR K H0 H (ds.map .sh) vs where
  len := by rw [List.length_map]; exact r.length
  arg := fun i s e => by
    rw [List.getElem?_map] at e
    cases q : ds[i]? with
    | none => rw [q] at e; cases e
    | some d =>
      rw [q] at e
      obtain ⟨v, h1, h2⟩ := r.get q
      exact .inl ⟨d, v, (Option.some.inj e).symm, h1, h2⟩
  apart := fun i j a o o' e => by
    rw [List.getElem?_map] at e
    cases q : ds[i]? with
    | none => rw [q] at e; cases e
    | some d => rw [q] at e; cases e
theorem noRf {ds : List D} {i : Nat} {o : Ob} : (ds.map Sl.sh)[i]? ≠ some (.rf o) := fun e => by
  rw [List.getElem?_map] at e
  cases q : ds[i]? with
  | none => rw [q] at e; cases e
  | some d => rw [q] at e; cases e
theorem Aft.all {K : Frag} {H0 H H1 H' : Hp} {ds : List D} {vs : List V} {e : Ev} (A : Aft K H0 H (ds.map .sh) vs e H1 H') : Same H H' := fun b u q => A.kept b u q fun i o z => absurd z noRf
theorem backRD {K : Frag} {E : En} {H0 H H1 H' : Hp} {σ : St} {env env' : Ev} {v : V} {r : Dr} (S : StR K E H0 H σ env) (hh : ∀ i a, Has σ env' i a → Has σ env i a) (q : RBack K H H1 H' v r) : RDr K E σ env' H1 H' r v := by
  cases r with
  | sh d => exact q
  | fr ds =>
    obtain ⟨a, vs, rfl, n1, n, e, r⟩ := q
    refine ⟨a, vs, rfl, n1, S.live n, ?_, fun i h => ?_, e, r⟩
    · cases z : E.fr a with
      | none => rfl
      | some o => rw [(S.frk a o z).1] at n; cases n
    · obtain ⟨_, o, z⟩ := S.has (hh i a h)
      rw [z] at n; cases n
theorem StR.aftSh {K : Frag} {E : En} {H0 H H1 H' : Hp} {σ : St} {env e : Ev} {ds : List D} {vs : List V} (S : StR K E H0 H σ env) (A : Aft K H0 H (ds.map .sh) vs e H1 H') : StR K E H1 H' σ env := S.grow A.s0 A.s1 A.all A.new
theorem call_read {K : Frag} {E : En} {H0 H : Hp} {σ : St} {env : Ev} {ds : List D} {vs : List V} {Q : VK} {n : Nat} (S : StR K E H0 H σ env) (r : RpA K H0 ds vs) (hn : Nat.beq ds.length n = true) (q : Post K W (RDr K) E H0 σ Q (back env (g (ds.map .sh)))) : spD K n g vs H Q (WE W σ) := by
  refine ⟨by rw [← r.length]; exact Nat.eq_of_beq_eq_true hn, H0, ds.map .sh, S.s1, shArgs r, ?_⟩
  cases h : g (ds.map .sh) with
  | ok e' dr =>
    rw [h] at q
    exact fun v H1 H' A rb => q v H1 H' A.s0 (S.aftSh A) (backRD S (fun _ _ z => z) rb)
  | er e' C fl d =>
    rw [h] at q
    exact fun v dd H1 H' A rd hx => q v dd H1 H' A.s0 (S.aftSh A) rd hx
  | no =>
    rw [h] at q
    exact q
theorem dx_call (B : Bd X W k) (F : Dfn X.prog X.w X.K X.mg X.base j x n dv g) (hj : j ≤ k) (ha : DA X W (e :: es) fa) (hg : Gl X x := by rfl) (hdb : (x == ("__debug__" : Str)) = false := by decide)
    (he : starEach (e :: es) X.env = (false, eval e X.env) :: starEach es X.env := by rfl) (hpl : (backTo pos (starEach es X.env)).any (·.1) = false := by rfl) : DX X W (.Call (.Name x p) (e :: es) [] pos) (fCall n g dv fa) := by
  obtain ⟨f, fd, ps, dsv, dvs, F, hm, hk, hb, hd, hdv⟩ := F
  refine pe_mono (pe_callSD (E := WE W) F (B.hr.mono hj) hg hm hk hb hd (fun σ => passAt B.tk σ) ha hdb he hpl) fun σ H Q q => ?_
  obtain ⟨E, H0, env, S, q⟩ := q
  refine WP.bind S q fun e1 ds vs H1 H' S1 s1 r1 q1 => ?_
  by_cases hn : Nat.beq (ds ++ dv).length n = true
  · rw [if_pos hn] at q1
    exact call_read S1 (r1.append (hdv _)) hn q1
  · rw [if_neg hn] at q1
    exact (show False from q1).elim
/-- the first argument is slot i's own object -/
theorem refArgs {K : Frag} {E : En} {H0 H : Hp} {σ : St} {env : Ev} {ds : List D} {vs : List V} {a : Addr} {o : Ob} (n : H0 a = none) (ro : ObR K H0 H a o) (r : RpA K H0 ds vs) : ArgR K H0 H (.rf o :: ds.map .sh) (.ref a :: vs) where
  len := by simp [r.length]
  arg := fun i s e => by
    cases i with
    | zero => exact .inr ⟨o, a, by simpa using e.symm, rfl, n, ro⟩
    | succ i =>
      have := (shArgs (H := H) r).arg i s (by simpa using e)
      rcases this with ⟨d, v, h1, h2, h3⟩ | ⟨o', b, h1, h2, h3, h4⟩
      · exact .inl ⟨d, v, h1, by simpa using h2, h3⟩
      · exact .inr ⟨o', b, h1, by simpa using h2, h3, h4⟩
  apart := fun i j b o1 o2 e1 e2 _ _ => by
    cases i with
    | zero =>
      cases j with
      | zero => rfl
      | succ j => exact absurd (by simpa using e2) (noRf (ds := ds) (i := j) (o := o2))
    | succ i => exact absurd (by simpa using e1) (noRf (ds := ds) (i := i) (o := o1))
theorem has_putOb {σ : St} {env : Ev} {i j : Nat} {o : Ob} {b : Addr} (h : Has σ (putOb env i o) j b) : Has σ env j b := by
  unfold putOb at h
  cases q : env[i]? with
  | none => rw [q] at h; exact h
  | some s =>
    rw [q] at h
    have hi : i < env.length := (List.getElem?_eq_some_iff.mp q).1
    obtain ⟨e1, e2⟩ := h
    refine ⟨e1, ?_⟩
    dsimp only at e2
    rw [get_set hi] at e2
    by_cases z : j = i
    · subst z
      rw [if_pos rfl] at e2
      cases s with
      | ow o' => exact .inl ⟨o', q⟩
      | rf o' => exact .inr ⟨o', q⟩
      | un => rcases e2 with ⟨_, e2⟩ | ⟨_, e2⟩ <;> cases e2
      | sh d => rcases e2 with ⟨_, e2⟩ | ⟨_, e2⟩ <;> cases e2
    · rw [if_neg z] at e2
      exact e2
theorem callR_read {K : Frag} {E : En} {H0 H : Hp} {σ : St} {env : Ev} {ds : List D} {vs : List V} {Q : VK} {n i : Nat} {o : Ob} {v0 : V} (S : StR K E H0 H σ env) (e0 : σ[i]? = some (some v0)) (ho : ob? env[i]? = some o) (r : RpA K H0 ds vs) (hn : Nat.beq (ds.length + 1) n = true)
    (q : Post K W (RDr K) E H0 σ Q (backR env i (g (.rf o :: ds.map .sh)))) : spD K n g (v0 :: vs) H Q (WE W σ) := by
  obtain ⟨a, e1, n0, ro, hh⟩ := S.obj ho
  rw [e0] at e1
  cases e1
  refine ⟨by rw [List.length_cons, ← r.length]; exact Nat.eq_of_beq_eq_true hn, H0, .rf o :: ds.map .sh, S.s1, refArgs (E := E) (σ := σ) (env := env) n0 ro r, ?_⟩
  have key : ∀ {e' : Ev} {H1 H' : Hp}, Aft K H0 H (.rf o :: ds.map .sh) (.ref a :: vs) e' H1 H' → ∃ o', e'[0]? = some (.rf o') ∧ StR K E H1 H' σ (putOb env i o') := fun {e' H1 H'} A => by
    obtain ⟨o', q1, q2⟩ := A.refs 0 o a rfl rfl
    refine ⟨o', q1, S.chg hh A.s0 A.s1 (fun b u hb ne => A.kept b u hb fun j oj ej => ?_) A.new q2⟩
    cases j with
    | zero =>
      intro z
      have : a = b := by simpa using z
      exact ne this.symm
    | succ j => exact absurd (by simpa using ej) (noRf (ds := ds) (i := j) (o := oj))
  cases h : g (.rf o :: ds.map .sh) with
  | ok e' dr =>
    rw [h] at q
    intro v H1 H' A rb
    obtain ⟨o', q1, S'⟩ := key A
    simp only [Rs.bind, backR, q1] at q
    exact q v H1 H' A.s0 S' (backRD S (fun _ _ z => has_putOb z) rb)
  | er e' C fl d =>
    rw [h] at q
    intro v dd H1 H' A rd hx
    obtain ⟨o', q1, S'⟩ := key A
    simp only [Rs.bind, backR, q1] at q
    exact q v dd H1 H' A.s0 S' rd hx
  | no =>
    rw [h] at q
    exact q
theorem dx_callR {i : Nat} {y : Str} {py : Pos} (B : Bd X W k) (F : Dfn X.prog X.w X.K X.mg X.base j x n dv g) (hj : j ≤ k) (hN : X.N[i]? = some y) (ha : DA X W es fa) (hv : Vis X.env.scope y := by first | exact Or.inl rfl | exact Or.inr (Or.inl rfl) | exact Or.inr (Or.inr rfl)) (hg : Gl X x := by rfl) (hdb : (x == ("__debug__" : Str)) = false := by decide) (hdy : (y == ("__debug__" : Str)) = false := by decide)
    (hcd : (y == ("__classdict__" : Str)) = false := by decide) (he : starEach (.Name y py :: es) X.env = (false, eval (.Name y py) X.env) :: starEach es X.env := by rfl) (hpl : (backTo pos (starEach es X.env)).any (·.1) = false := by rfl) : DX X W (.Call (.Name x p) (.Name y py :: es) [] pos) (fCallR i n g dv fa) := by
  obtain ⟨f, fd, ps, dsv, dvs, F, hm, hk, hb, hd, hdv⟩ := F
  refine pe_mono (pe_callSD (E := WE W) F (B.hr.mono hj) hg hm hk hb hd (fun σ => passAt B.tk σ) (pa_cons (pe_var hN hv hdy hcd) ha he) hdb he hpl) fun σ H Q q => ?_
  obtain ⟨E, H0, env, S, q⟩ := q
  by_cases hi : (ob? env[i]?).isSome = true
  rotate_left
  · simp only [Rs.bind, fCallR, if_neg hi] at q
    exact (show False from q).elim
  simp only [Rs.bind, fCallR, if_pos hi] at q
  obtain ⟨o0, ho0⟩ := Option.isSome_iff_exists.mp hi
  obtain ⟨a0, e0, _⟩ := S.obj ho0
  refine ⟨.ref a0, e0, WP.bind S q fun e1 ds vs H1 H' S1 s1 r1 q1 => ?_⟩
  by_cases hn : Nat.beq ((ds ++ dv).length + 1) n = true
  · rw [if_pos hn] at q1
    cases ho : ob? e1[i]? with
    | none => rw [ho] at q1; exact (show False from q1).elim
    | some o =>
      rw [ho] at q1
      exact callR_read S1 e0 ho (r1.append (hdv _)) hn q1
  · rw [if_neg hn] at q1
    exact (show False from q1).elim
end
end DL

end

section
set_option Elab.async false
set_option linter.all false
set_option maxRecDepth 100000
set_option maxHeartbeats 2000000
/-! DO: operations on deep values. -/
namespace DL
open PySem L2
/-! ### a row of rules by cases -/
theorem V2.or {K : Frag} {r r' : R2} {g g' : D → D → Option D} (h : V2 K r g) (h' : V2 K r' g') : V2 K (fun x y H Q => r x y H Q ∨ r' x y H Q) (fun x y => (g x y).or (g' x y)) := by
  intro H0 H x y d v u Q s rx ry e k
  dsimp only at e
  cases q : g x y with
  | some d' =>
    rw [q] at e
    cases e
    exact .inl (h H0 H x y d v u Q s rx ry q k)
  | none =>
    rw [q] at e
    exact .inr (h' H0 H x y d v u Q s rx ry e k)
theorem VN.or {K : Frag} {r r' : List V → Hp → VK → Prop} {g g' : List D → Option D} (h : VN K r g) (h' : VN K r' g') : VN K (fun x H Q => r x H Q ∨ r' x H Q) (fun x => (g x).or (g' x)) := by
  intro H0 H x d v Q s rx e k
  dsimp only at e
  cases q : g x with
  | some d' =>
    rw [q] at e
    cases e
    exact .inl (h H0 H x d v Q s rx q k)
  | none =>
    rw [q] at e
    exact .inr (h' H0 H x d v Q s rx e k)
/-! ### ints -/
def dI (p : Int → Int → Bool) (f : Int → Int → D) : D → D → Option D
  | .int i, .int j => if p i j = true then some (f i j) else none
  | _, _ => none
def dI0 (f : Int → Int → D) : D → D → Option D
  | .int i, .int j => some (f i j)
  | _, _ => none
section
variable {K : Frag} {X : Cx}
theorem Gr.same0 {H0 H H1 H' : Hp} (g : Gr H0 H H1 H') (s : Same H0 H) : Same H0 H1 := by
  cases g with
  | refl => exact Same.refl _
  | new o n => exact same_upd (s.free n)
theorem v2_int {C : Int → Int → Prop} {p : Int → Int → Bool} {f : Int → Int → Int} (h : ∀ i j, p i j = true → C i j) : V2 K (rI C fun i j => .int (f i j)) (dI p fun i j => .int (f i j)) := by
  intro H0 H x y d v u Q s rx ry e k
  unfold dI at e
  split at e
  · split at e
    · rename_i i j hp
      cases e
      exact ⟨i, j, rp_int rx, rp_int ry, h i j hp, k _ _ _ .refl (.int _)⟩
    · cases e
  · cases e
theorem v2_int0 {f : Int → Int → Int} : V2 K (rI0 fun i j => .int (f i j)) (dI0 fun i j => .int (f i j)) := by
  intro H0 H x y d v u Q s rx ry e k
  unfold dI0 at e
  split at e
  · rename_i i j
    cases e
    exact ⟨i, j, rp_int rx, rp_int ry, k _ _ _ .refl (.int _)⟩
  · cases e
theorem v2_cmp0 {f : Int → Int → Bool} : V2 K (rI0 fun i j => .bl (f i j)) (dI0 fun i j => .bl (f i j)) := by
  intro H0 H x y d v u Q s rx ry e k
  unfold dI0 at e
  split at e
  · rename_i i j
    cases e
    exact ⟨i, j, rp_int rx, rp_int ry, k _ _ _ .refl (.bl _)⟩
  · cases e
/-- a + b -/
def dAddS : D → D → Option D
  | .str x, .str y => if Nat.ble (x.length + y.length) 100000 = true then some (.str (x ++ y)) else none
  | _, _ => none
def dAddL : D → D → Option D
  | .lst x, .lst y => if small (x.length + y.length) = true then some (.lst (x ++ y)) else none
  | _, _ => none
def dAddT : D → D → Option D
  | .tup x, .tup y => if x.isEmpty = false ∧ small (x.length + y.length) = true then some (.tup (x ++ y)) else none
  | _, _ => none
theorem v2_addS : V2 K (fun x y H Q => ∃ i j, x = .str i ∧ y = .str j ∧ i.length + j.length ≤ sizeLine ∧ Q (.str (i ++ j)) H) dAddS := by
  intro H0 H x y d v u Q s rx ry e k
  unfold dAddS at e
  split at e
  · split at e
    · rename_i i j hp
      cases e
      refine ⟨i, j, rp_str rx, rp_str ry, ?_, k _ _ _ .refl (.str _)⟩
      have := Nat.le_of_ble_eq_true hp
      rw [sizeLine_eq]
      omega
    · cases e
  · cases e
theorem v2_addL : V2 K rCat dAddL := by
  intro H0 H x y d v u Q s rx ry e k
  unfold dAddL at e
  split at e
  · split at e
    · rename_i i j hp
      cases e
      cases rx with
      | lst h1 r1 =>
        cases ry with
        | lst h2 r2 =>
          exact ⟨_, _, _, _, rfl, rfl, s _ _ h1, s _ _ h2, by rw [← r1.length, ← r2.length]; exact le_line (small_le hp), fun p n => k _ _ _ (.new (.lst _) n) (.lst upd_same ((r1.append r2).mono (same_upd (s.free n))))⟩
    · cases e
  · cases e
theorem v2_addT : V2 K (rCatT K) dAddT := by
  intro H0 H x y d v u Q s rx ry e k
  unfold dAddT at e
  split at e
  · split at e
    · rename_i i j hp
      cases e
      cases rx with
      | tup h1 r1 =>
        cases ry with
        | tup h2 r2 =>
          have ne : i ≠ [] := by rintro rfl; cases hp.1
          refine ⟨_, _, _, _, rfl, rfl, sqT_mono s h1, sqT_mono s h2, ?_, by rw [← r1.length, ← r2.length]; exact le_line (small_le hp.2), ?_, ?_⟩
          · rintro rfl
            cases r1
            exact ne rfl
          · rintro rfl
            cases r2
            exact k _ _ _ .refl (.tup h1 (by simpa using r1))
          · exact fun _ p n => k _ _ _ (.new (.tup _) n) (.tup (SqT.of upd_same) ((r1.append r2).mono (same_upd (s.free n))))
    · cases e
  · cases e
def dAdd (x y : D) : Option D := (dI0 (fun i j => .int (i + j)) x y).or ((dAddS x y).or ((dAddL x y).or (dAddT x y)))
theorem op_addD : OpR X (binaryOp .Add) (fun x y H Q => (rI0 (fun i j => .int (i + j)) x y H Q) ∨ (∃ i j, x = .str i ∧ y = .str j ∧ i.length + j.length ≤ sizeLine ∧ Q (.str (i ++ j)) H) ∨ rCat x y H Q ∨ rCatT X.K x y H Q) := op_add.or (op_add_str.or (op_cat.or op_catT))
theorem v2_add : V2 K (fun x y H Q => (rI0 (fun i j => .int (i + j)) x y H Q) ∨ (∃ i j, x = .str i ∧ y = .str j ∧ i.length + j.length ≤ sizeLine ∧ Q (.str (i ++ j)) H) ∨ rCat x y H Q ∨ rCatT K x y H Q) dAdd := v2_int0.or (v2_addS.or (v2_addL.or v2_addT))
def dSub : D → D → Option D := dI0 fun i j => .int (i - j)
def pMul (i j : Int) : Bool := decide ((-(2 ^ 64) < i ∧ i < 2 ^ 64) ∨ (-(2 ^ 64) < j ∧ j < 2 ^ 64))
def dMul : D → D → Option D := dI pMul fun i j => .int (i * j)
def dMod : D → D → Option D := dI (fun _ j => decide (0 < j)) fun i j => .int (i % j)
def dDiv : D → D → Option D := dI (fun _ j => decide (0 < j ∧ j < 1073741824)) fun i j => .int (i / j)
def dPow : D → D → Option D := dI (fun i j => decide (0 ≤ j ∧ j ≤ 1000000 ∧ i.natAbs < 2 ^ 64)) fun i j => .int (i ^ j.toNat)
variable {W : WX} {a b : Expr} {fa fb : Ev → Rs D} {pos : Pos}
theorem de_add (ha : DE X W a fa) (hb : DE X W b fb) : DE X W (.BinOp a .Add b pos) (f2 dAdd fa fb) := de_op op_addD v2_add ha hb
theorem de_sub (ha : DE X W a fa) (hb : DE X W b fb) : DE X W (.BinOp a .Sub b pos) (f2 dSub fa fb) := de_op op_sub v2_int0 ha hb
theorem de_mul (ha : DE X W a fa) (hb : DE X W b fb) : DE X W (.BinOp a .Mult b pos) (f2 dMul fa fb) := de_op op_mul (v2_int fun i j h => by have h := of_decide_eq_true h; exact h) ha hb
theorem de_mod (ha : DE X W a fa) (hb : DE X W b fb) : DE X W (.BinOp a .Mod b pos) (f2 dMod fa fb) := de_op op_mod (v2_int fun i j h => of_decide_eq_true h) ha hb
theorem de_div (ha : DE X W a fa) (hb : DE X W b fb) : DE X W (.BinOp a .FloorDiv b pos) (f2 dDiv fa fb) := de_op op_fdiv (v2_int fun i j h => by have h := of_decide_eq_true h; exact h) ha hb
theorem de_pow (ha : DE X W a fa) (hb : DE X W b fb) : DE X W (.BinOp a .Pow b pos) (f2 dPow fa fb) := de_op op_pow (v2_int fun i j h => by have h := of_decide_eq_true h; exact h) ha hb
def dNeg : D → Option D
  | .int i => some (.int (-i))
  | _ => none
theorem de_neg (ha : DE X W a fa) : DE X W (.UnaryOp .USub a pos) (f1 dNeg fa) := by
  refine pe_mono (pe_un un_neg ha) fun σ H Q q => ?_
  obtain ⟨E, H0, env, S, q⟩ := q
  refine WP.bind S q fun e1 x v H1 H' S1 s1 r1 q1 => ?_
  cases x with
  | int i => exact ⟨i, rp_int r1, Post.here S1 q1 (.int _)⟩
  | _ => exact (show False from q1).elim
/-! ### comparisons of ints -/
def dLt : D → D → Option D := dI0 fun i j => .bl (decide (i < j))
def dLe : D → D → Option D := dI0 fun i j => .bl (decide (i ≤ j))
def dGt : D → D → Option D := dI0 fun i j => .bl (decide (j < i))
def dGe : D → D → Option D := dI0 fun i j => .bl (decide (j ≤ i))
theorem v2_lt : V2 K (rI0 fun i j => .bl (decide (i < j))) dLt := v2_cmp0
theorem v2_le : V2 K (rI0 fun i j => .bl (decide (i ≤ j))) dLe := v2_cmp0
theorem v2_gt : V2 K (rI0 fun i j => .bl (decide (j < i))) dGt := v2_cmp0
theorem v2_ge : V2 K (rI0 fun i j => .bl (decide (j ≤ i))) dGe := v2_cmp0
/-! ### is None -/
def isNon : D → Bool
  | .non => true
  | _ => false
def dIsN : D → D → Option D
  | x, .non => some (.bl (isNon x))
  | _, _ => none
def dNotN : D → D → Option D
  | x, .non => some (.bl (!isNon x))
  | _, _ => none
theorem rp_nonB {H : Hp} {x : D} {v : V} (r : Rp K H x v) : decide (v = .non) = isNon x := by
  cases r <;> simp [isNon]
theorem v2_isN : V2 K (fun x y H Q => y = .non ∧ Q (.bl (decide (x = .non))) H) dIsN := by
  intro H0 H x y d v u Q s rx ry e k
  unfold dIsN at e
  split at e
  · cases e
    exact ⟨rp_non ry, k _ _ _ .refl (by rw [rp_nonB rx]; exact .bl _)⟩
  · cases e
theorem v2_notN : V2 K (fun x y H Q => y = .non ∧ Q (.bl (!decide (x = .non))) H) dNotN := by
  intro H0 H x y d v u Q s rx ry e k
  unfold dNotN at e
  split at e
  · cases e
    exact ⟨rp_non ry, k _ _ _ .refl (by rw [rp_nonB rx]; exact .bl _)⟩
  · cases e
/-! ### == of data -/
mutual
def toPy : D → Option PyData
  | .non => some .none
  | .bl b => some (.bool b)
  | .int i => some (.int i)
  | .str x => some (.str x)
  | .tup ds => (toPyA ds).map .tuple
  | .lst ds => (toPyA ds).map .list
  | .fz ds => (toPyA ds).map .list
  | .obj _ _ _ => none
  | .glo _ => none
  | .dct _ _ => none
  | .ref _ => none
  | .ty _ => none
def toPyA : List D → Option (List PyData)
  | [] => some []
  | d :: r => match toPy d, toPyA r with
    | some p, some ps => some (p :: ps)
    | _, _ => none
end
mutual
theorem dp_of {H : Hp} : ∀ {d : D} {v : V} {p : PyData}, Rp K H d v → toPy d = some p → Dp K H v p
  | _, _, _, .non, e => by cases e; exact .non
  | _, _, _, .bl b, e => by cases e; exact .bl b
  | _, _, _, .int i, e => by cases e; exact .int i
  | _, _, _, .str x, e => by cases e; exact .str x
  | _, _, _, .ref a, e => by cases e
  | _, _, _, .ty n, e => by cases e
  | _, _, _, .tup (ds := ds) h r, e => by
    unfold toPy at e
    cases q : toPyA ds with
    | none => rw [q] at e; cases e
    | some ps => rw [q] at e; cases e; exact .tup h (dpA_of r q)
  | _, _, _, .lst (ds := ds) h r, e => by
    unfold toPy at e
    cases q : toPyA ds with
    | none => rw [q] at e; cases e
    | some ps => rw [q] at e; cases e; exact .lst (.inl (.inl h)) (dpA_of r q)
  | _, _, _, .fz (ds := ds) h r, e => by
    unfold toPy at e
    cases q : toPyA ds with
    | none => rw [q] at e; cases e
    | some ps => rw [q] at e; cases e; exact .lst h (dpA_of r q)
  | _, _, _, .obj h r, e => by cases e
  | _, _, _, .glo x, e => by cases e
  | _, _, _, .dct h r, e => by cases e
theorem dpA_of {H : Hp} : ∀ {ds : List D} {vs : List V} {ps : List PyData}, RpA K H ds vs → toPyA ds = some ps → DpAll K H vs ps
  | _, _, _, .nil, e => by cases e; exact .nil
  | _, _, _, .cons (d := d) (ds := ds) r t, e => by
    unfold toPyA at e
    cases q : toPy d with
    | none => rw [q] at e; cases e
    | some p =>
      cases q2 : toPyA ds with
      | none => rw [q, q2] at e; cases e
      | some ps => rw [q, q2] at e; cases e; exact .cons (dp_of r q) (dpA_of t q2)
end
def eqD (x y : D) : Option Bool := match x, y with
  | .str a, .str b => some (a == b)
  | x, y => match toPy x, toPy y with
    | some p, some q => if SeqAt.shaped p && SeqAt.shaped q then some (PyData.eqv p q) else none
    | _, _ => none
def dEq (x y : D) : Option D := (eqD x y).map .bl
def dNe (x y : D) : Option D := (eqD x y).map fun b => .bl (!b)
theorem eqD_cases {x y : D} {b : Bool} (h : eqD x y = some b) : (∃ s t, x = .str s ∧ y = .str t ∧ b = (s == t)) ∨ ∃ p q, toPy x = some p ∧ toPy y = some q ∧ SeqAt.shaped p = true ∧ SeqAt.shaped q = true ∧ b = PyData.eqv p q := by
  unfold eqD at h
  split at h
  · cases h; exact .inl ⟨_, _, rfl, rfl, rfl⟩
  · split at h
    · rename_i p q e1 e2
      split at h
      · rename_i hs
        cases h
        obtain ⟨h1, h2⟩ := Bool.and_eq_true_iff.mp hs
        exact .inr ⟨p, q, e1, e2, h1, h2, rfl⟩
      · cases h
    · cases h
theorem v2_eq : V2 K (fun x y H Q => rEq x y H Q ∨ rEqD K x y H Q) dEq := by
  intro H0 H x y d v u Q s rx ry e k
  unfold dEq at e
  cases q : eqD x y with
  | none => rw [q] at e; cases e
  | some b =>
    rw [q] at e
    cases e
    rcases eqD_cases q with ⟨a, c, rfl, rfl, rfl⟩ | ⟨p, p', h1, h2, h3, h4, rfl⟩
    · cases rx
      cases ry
      refine .inl ⟨rfl, ?_⟩
      rw [dec_str]
      exact k _ _ _ .refl (.bl _)
    · exact .inr ⟨p, p', dp_of (rx.mono s) h1, dp_of (ry.mono s) h2, h3, h4, k _ _ _ .refl (.bl _)⟩
theorem v2_ne : V2 K (fun x y H Q => rNe x y H Q ∨ rNeD K x y H Q) dNe := by
  intro H0 H x y d v u Q s rx ry e k
  unfold dNe at e
  cases q : eqD x y with
  | none => rw [q] at e; cases e
  | some b =>
    rw [q] at e
    cases e
    rcases eqD_cases q with ⟨a, c, rfl, rfl, rfl⟩ | ⟨p, p', h1, h2, h3, h4, rfl⟩
    · cases rx
      cases ry
      refine .inl ⟨rfl, ?_⟩
      rw [dec_str]
      exact k _ _ _ .refl (.bl _)
    · exact .inr ⟨p, p', dp_of (rx.mono s) h1, dp_of (ry.mono s) h2, h3, h4, k _ _ _ .refl (.bl _)⟩
theorem Room.u64 {k : Nat} {A : Around} (r : Room k A) : A.units + 65 < cLine := by have := r.un; omega
theorem or_eqD {k : Nat} (B : Bd X W k) : OpR X (compareOp .Eq) (fun x y H Q => rEq x y H Q ∨ rEqD X.K x y H Q) := op_eq.or (op_eqD B.hr.units)
theorem or_neD {k : Nat} (B : Bd X W k) : OpR X (compareOp .NotEq) (fun x y H Q => rNe x y H Q ∨ rNeD X.K x y H Q) := op_ne.or (op_neD B.hr.units)
/-! ### in -/
def flatD : D → Bool
  | .non => true
  | .bl _ => true
  | .int _ => true
  | .str _ => true
  | _ => false
def eqF : D → D → Bool
  | .non, .non => true
  | .bl a, .bl b => a == b
  | .bl a, .int b => (if a then 1 else 0) == b
  | .int a, .bl b => a == (if b then 1 else 0)
  | .int a, .int b => a == b
  | .str a, .str b => a == b
  | _, _ => false
theorem flat_rp {H : Hp} {x : D} {v : V} (r : Rp K H x v) (h : flatD x = true) : flatV v = true := by
  cases r <;> first | rfl | cases h
theorem eqF_rp {H : Hp} {x y : D} {v u : V} (r : Rp K H x v) (r' : Rp K H y u) (h : flatD x = true) (h' : flatD y = true) : eqV v u = eqF x y := by
  cases r <;> first | (cases h; done) | (cases r' <;> first | rfl | (cases h'; done))
theorem flatA_rp {H : Hp} : ∀ {ds : List D} {vs : List V}, RpA K H ds vs → ds.all flatD = true → vs.all flatV = true
  | _, _, .nil, _ => rfl
  | _, _, .cons r t, h => by
    simp only [Rs.bind, List.all_cons, Bool.and_eq_true] at h ⊢
    exact ⟨flat_rp r h.1, flatA_rp t h.2⟩
theorem inV_rp {H : Hp} {x : D} {v : V} (r : Rp K H x v) (h : flatD x = true) : ∀ {ds : List D} {vs : List V}, RpA K H ds vs → ds.all flatD = true → inV v vs = ds.any fun d => eqF d x
  | _, _, .nil, _ => rfl
  | _, _, .cons r1 t, h1 => by
    simp only [Rs.bind, List.all_cons, Bool.and_eq_true] at h1
    have := inV_rp r h t h1.2
    unfold inV at this ⊢
    simp only [Rs.bind, List.any_cons]
    rw [this, eqF_rp r1 r h1.1 h]
def itemsD : D → Option (List D)
  | .lst ds => some ds
  | .fz ds => some ds
  | .tup ds => some ds
  | _ => none
theorem items_rp {H : Hp} {x : D} {v : V} {ds : List D} (r : Rp K H x v) (h : itemsD x = some ds) : ∃ a vs, v = .ref a ∧ (SqL K H a vs ∨ SqT K H a vs) ∧ RpA K H ds vs := by
  cases r with
  | lst e r => cases h; exact ⟨_, _, rfl, .inl (.inl (.inl e)), r⟩
  | fz e r => cases h; exact ⟨_, _, rfl, .inl e, r⟩
  | tup e r => cases h; exact ⟨_, _, rfl, .inr e, r⟩
  | _ => cases h
def dInF (neg : Bool) (x y : D) : Option D := match itemsD y with
  | some ds => if flatD x = true ∧ ds.all flatD = true then some (.bl (if neg then !(ds.any fun d => eqF d x) else ds.any fun d => eqF d x)) else none
  | none => none
theorem v2_inF {neg : Bool} : V2 K (rIn K neg) (dInF neg) := by
  intro H0 H x y d v u Q s rx ry e k
  unfold dInF at e
  cases q : itemsD y with
  | none => rw [q] at e; cases e
  | some ds =>
    rw [q] at e
    dsimp only at e
    split at e
    · rename_i hf
      cases e
      obtain ⟨a, vs, rfl, h, r⟩ := items_rp ry q
      refine ⟨a, vs, rfl, h.elim (fun z => .inl (s.seq z)) (fun z => .inr (sqT_mono s z)), flat_rp rx hf.1, flatA_rp r hf.2, ?_⟩
      rw [inV_rp rx hf.1 r hf.2]
      exact k _ _ _ .refl (.bl _)
    · cases e
def dInS (neg : Bool) : D → D → Option D
  | .str x, .str z => match x.cps with
    | ⟨[c]⟩ => some (.bl (if neg then !decide (c ∈ z.cps.toList) else decide (c ∈ z.cps.toList)))
    | _ => none
  | _, _ => none
theorem v2_inS : V2 K (fun x y H Q => ∃ (c : Nat) (z : Str), x = .str ⟨#[c]⟩ ∧ y = .str z ∧ Q (.bl (decide (c ∈ z.cps.toList))) H) (dInS false) := by
  intro H0 H x y d v u Q s rx ry e k
  unfold dInS at e
  split at e
  · rename_i x z
    split at e
    · rename_i c hc
      cases e
      have : x = ⟨#[c]⟩ := by cases x; simp at hc; subst hc; rfl
      subst this
      exact ⟨c, z, rp_str rx, rp_str ry, k _ _ _ .refl (.bl _)⟩
    · cases e
  · cases e
theorem v2_notInS : V2 K (fun x y H Q => ∃ (c : Nat) (z : Str), x = .str ⟨#[c]⟩ ∧ y = .str z ∧ Q (.bl (!decide (c ∈ z.cps.toList))) H) (dInS true) := by
  intro H0 H x y d v u Q s rx ry e k
  unfold dInS at e
  split at e
  · rename_i x z
    split at e
    · rename_i c hc
      cases e
      have : x = ⟨#[c]⟩ := by cases x; simp at hc; subst hc; rfl
      subst this
      exact ⟨c, z, rp_str rx, rp_str ry, k _ _ _ .refl (.bl _)⟩
    · cases e
  · cases e
def dInD (neg : Bool) (x y : D) : Option D := match y with
  | .lst ds => (match toPy x, toPyA ds with
    | some p, some ps => if SeqAt.shaped p && SeqAt.shaped (.list ps) then some (.bl (if neg then !(ps.any fun z => PyData.eqv z p) else ps.any fun z => PyData.eqv z p)) else none
    | _, _ => none)
  | _ => none
theorem dInD_cases {neg : Bool} {x y d : D} (e : dInD neg x y = some d) : ∃ ds p ps, y = .lst ds ∧ toPy x = some p ∧ toPyA ds = some ps ∧ SeqAt.shaped p = true ∧ SeqAt.shaped (.list ps) = true ∧ d = .bl (if neg then !(ps.any fun z => PyData.eqv z p) else ps.any fun z => PyData.eqv z p) := by
  unfold dInD at e
  split at e
  · rename_i ds
    split at e
    · rename_i p ps e1 e2
      split at e
      · rename_i hs
        cases e
        obtain ⟨h1, h2⟩ := Bool.and_eq_true_iff.mp hs
        exact ⟨ds, p, ps, rfl, e1, e2, h1, h2, rfl⟩
      · cases e
    · cases e
  · cases e
theorem toPy_lst {ds : List D} {ps : List PyData} (h : toPyA ds = some ps) : toPy (.lst ds) = some (.list ps) := by
  unfold toPy
  rw [h]
  rfl
theorem v2_inD : V2 K (rInD K) (dInD false) := by
  intro H0 H x y d v u Q s rx ry e k
  obtain ⟨ds, p, ps, rfl, h1, h2, h3, h4, rfl⟩ := dInD_cases e
  exact ⟨p, ps, dp_of (rx.mono s) h1, dp_of (ry.mono s) (toPy_lst h2), h3, h4, k _ _ _ .refl (.bl _)⟩
theorem v2_notInD : V2 K (rNotInD K) (dInD true) := by
  intro H0 H x y d v u Q s rx ry e k
  obtain ⟨ds, p, ps, rfl, h1, h2, h3, h4, rfl⟩ := dInD_cases e
  exact ⟨p, ps, dp_of (rx.mono s) h1, dp_of (ry.mono s) (toPy_lst h2), h3, h4, k _ _ _ .refl (.bl _)⟩
def dIn (x y : D) : Option D := (dInF false x y).or ((dInS false x y).or (dInD false x y))
def dNotIn (x y : D) : Option D := (dInF true x y).or ((dInS true x y).or (dInD true x y))
abbrev rInA (K : Frag) : R2 := fun x y H Q => rIn K false x y H Q ∨ (∃ (c : Nat) (z : Str), x = .str ⟨#[c]⟩ ∧ y = .str z ∧ Q (.bl (decide (c ∈ z.cps.toList))) H) ∨ rInD K x y H Q
abbrev rNotInA (K : Frag) : R2 := fun x y H Q => rIn K true x y H Q ∨ (∃ (c : Nat) (z : Str), x = .str ⟨#[c]⟩ ∧ y = .str z ∧ Q (.bl (!decide (c ∈ z.cps.toList))) H) ∨ rNotInD K x y H Q
theorem or_in {k : Nat} (B : Bd X W k) : OpR X (compareOp .In) (rInA X.K) := op_in_seq.or (op_in_sign.or (op_inD (Room.u64 B.hr)))
theorem v2_in : V2 K (rInA K) dIn := v2_inF.or (v2_inS.or v2_inD)
theorem or_notIn {k : Nat} (B : Bd X W k) : OpR X (compareOp .NotIn) (rNotInA X.K) := op_notIn_seq.or (op_notIn_sign.or (op_notInD (Room.u64 B.hr)))
theorem v2_notIn : V2 K (rNotInA K) dNotIn := v2_inF.or (v2_notInS.or v2_notInD)
/-! ### items, lengths -/
def dIxQ : D → D → Option D
  | x, .int i => match itemsD x with
    | some ds => atI ds i
    | none => none
  | _, _ => none
def dIxS : D → D → Option D
  | .str x, .int i => if Nat.ble x.length 100000 = true then (atI x.cps.toList i).map fun c => .str ⟨#[c]⟩ else none
  | _, _ => none
theorem atI_rp {H : Hp} {ds : List D} {vs : List V} {i : Int} {d : D} (r : RpA K H ds vs) (h : atI ds i = some d) : ∃ v, atI vs i = some v ∧ Rp K H d v := by
  unfold atI at h ⊢
  rw [← r.length]
  cases q : ixN ds.length i with
  | none => rw [q] at h; cases h
  | some j =>
    rw [q] at h
    exact r.get h
theorem v2_ixQ : V2 K (fun x y H Q => rIxL K x y H Q ∨ rIxT K x y H Q) dIxQ := by
  intro H0 H x y d v u Q s rx ry e k
  unfold dIxQ at e
  split at e
  · rename_i i
    cases q : itemsD x with
    | none => rw [q] at e; cases e
    | some ds =>
      rw [q] at e
      obtain ⟨a, vs, rfl, h, r⟩ := items_rp rx q
      obtain ⟨v', e1, r1⟩ := atI_rp r e
      rcases h with h | h
      · exact .inl ⟨a, vs, i, v', rfl, rp_int ry, s.seq h, e1, k _ _ _ .refl r1⟩
      · exact .inr ⟨a, vs, i, v', rfl, rp_int ry, sqT_mono s h, e1, k _ _ _ .refl r1⟩
  · cases e
theorem v2_ixS : V2 K rIxS dIxS := by
  intro H0 H x y d v u Q s rx ry e k
  unfold dIxS at e
  split at e
  · rename_i x i
    split at e
    · rename_i hl
      obtain ⟨c, e1, rfl⟩ := Option.map_eq_some_iff.mp e
      refine ⟨x, i, c, rp_str rx, rp_int ry, ?_, e1, k _ _ _ .refl (.str _)⟩
      have := Nat.le_of_ble_eq_true hl
      rw [sizeLine_eq]
      omega
    · cases e
  · cases e
def dIx (x y : D) : Option D := (dIxQ x y).or (dIxS x y)
theorem v2_ix : V2 K (fun x y H Q => (rIxL K x y H Q ∨ rIxT K x y H Q) ∨ rIxS x y H Q) dIx := v2_ixQ.or v2_ixS
theorem or_ix : IxR X (fun x y H Q => (rIxL X.K x y H Q ∨ rIxT X.K x y H Q) ∨ rIxS x y H Q) := (ix_list.or ix_tup).or ix_str
theorem de_item (ha : DE X W a fa) (hb : DE X W b fb) (hs : PlainIx b := by exact fun _ _ => rfl) : DE X W (.Subscript a b pos) (f2 dIx fa fb) := de_ix or_ix v2_ix ha hb hs
def gLen : List D → Option D
  | [.str x] => if Nat.ble x.length 100000 = true then some (.int x.length) else none
  | [x] => (itemsD x).map fun ds => .int ds.length
  | _ => none
theorem vn_len : VN K (fun xs H Q => ∃ x n, xs = [x] ∧ LenV K x H n ∧ Q (.int n) H) gLen := by
  intro H0 H xs d vs Q s r e k
  unfold gLen at e
  split at e
  · rename_i x
    split at e
    · rename_i hl
      cases e
      obtain ⟨v, rfl, rv⟩ := rpa1 r
      refine ⟨v, x.length, rfl, ?_, k _ _ _ .refl (.int _)⟩
      rw [rp_str rv]
      refine ⟨?_, rfl⟩
      have := Nat.le_of_ble_eq_true hl
      rw [sizeLine_eq]
      omega
    · cases e
  · rename_i x _
    obtain ⟨ds, e1, rfl⟩ := Option.map_eq_some_iff.mp e
    obtain ⟨v, rfl, rv⟩ := rpa1 r
    obtain ⟨a, vs, rfl, h, ra⟩ := items_rp rv e1
    refine ⟨_, ds.length, rfl, ?_, k _ _ _ .refl (.int _)⟩
    rcases h with h | h
    · exact .inl ⟨vs, s.seq h, by rw [ra.length]⟩
    · exact .inr ⟨vs, sqT_mono s h, by rw [ra.length]⟩
  · cases e
end
end DL

end

section
set_option Elab.async false
set_option linter.all false
set_option maxRecDepth 100000
set_option maxHeartbeats 2000000
/-! DP: built-ins, texts, lists of a slot's own, looks at what slots have. -/
namespace DL
open PySem L2
section
variable {K : Frag} {X : Cx} {W : WX} {a b o e : Expr} {es : List Expr} {fa fb : Ev → Rs D} {fs : Ev → Rs (List D)} {pos p apos : Pos}
/-! ### methods of texts -/
def isStr : D → Bool
  | .str _ => true
  | _ => false
theorem de_m1 {id : String} {name : Str} {r : V → List V → Hp → VK → Prop} {g : D → D → Option D} (slot : Slot "str" name id) (ty : typeOf (.builtin id) = pure (.type "method_descriptor")) (rule : MtR X id r) (hv : V2 X.K (fun x y H Q => r x [y] H Q) g) (ho : DE X W o fa) (he : DE X W e fb)
    (hs : starEach [e] X.env = [(false, eval e X.env)] := by rfl) (hbase : attributeBase o name X.env (eval o X.env) = eval o X.env := by rfl) (hline : (apos.endLine == pos.line) = true := by rfl) :
    DE X W (.Call (.Attribute o name apos) [e] [] pos) (fun env => (fa env).bind fun e1 x => if isStr x = true then (fb e1).bind fun e2 y => lift e2 (g x y) else .no) := by
  refine pe_mono (pe_m1 slot ty rule ho he hs hbase hline) fun σ H Q q => ?_
  obtain ⟨E, H0, env, S, q⟩ := q
  refine WP.bind S q fun e1 x v H1 H' S1 s1 r1 q1 => ?_
  cases x with
  | str z =>
    refine ⟨⟨z, rp_str r1⟩, ?_⟩
    simp only [Rs.bind, isStr, if_true] at q1
    exact WP.bind S1 q1 fun e2 y u H2 H'' S2 s2 r2 q2 => q2.fin S2 fun d ed k => hv H2 H'' _ y d v u Q S2.s1 (r1.mono s2) r2 ed k
  | _ => exact (show False from q1).elim
def fM1 (g : D → D → Option D) (fa fb : Ev → Rs D) (env : Ev) : Rs D := (fa env).bind fun e1 x => if isStr x = true then (fb e1).bind fun e2 y => lift e2 (g x y) else .no
def szS (x : Str) : Bool := Nat.ble x.length 100000
theorem szS_le {x : Str} (h : szS x = true) : x.length ≤ 100000 := Nat.le_of_ble_eq_true h
def strsD : List D → Option (List Str)
  | [] => some []
  | .str x :: r => (strsD r).map (x :: ·)
  | _ => none
theorem strs_rp {H : Hp} : ∀ {ds : List D} {vs : List V} {xs : List Str}, RpA K H ds vs → strsD ds = some xs → vs = xs.map V.str
  | _, _, _, .nil, e => by cases e; rfl
  | _, _, _, .cons (d := d) r t, e => by
    cases d with
    | str x =>
      obtain ⟨ys, e1, rfl⟩ := Option.map_eq_some_iff.mp e
      rw [rp_str r, strs_rp t e1]
      rfl
    | _ => cases e
def dJoin (x y : D) : Option D := match x, itemsD y with
  | .str a, some ds => (match strsD ds with
    | some ys => if Nat.ble ((ys.map (·.length)).sum + ys.length * a.length) 100000 = true then some (.str (Txt.join a ys)) else none
    | none => none)
  | _, _ => none
theorem v2_join : V2 K (fun x y H Q => ∃ a p, ∃ ys : List Str, x = .str a ∧ [y] = [.ref p] ∧ (SqL K H p (ys.map V.str) ∨ SqT K H p (ys.map V.str)) ∧ (ys.map (·.length)).sum + ys.length * a.length ≤ 16777216 ∧ Q (.str (Txt.join a ys)) H) dJoin := by
  intro H0 H x y d v u Q s rx ry e k
  unfold dJoin at e
  split at e
  · rename_i a ds e1
    split at e
    · rename_i ys e2
      split at e
      · rename_i hz
        cases e
        obtain ⟨p, vs, rfl, h, r⟩ := items_rp ry e1
        have := strs_rp r e2
        subst this
        have := Nat.le_of_ble_eq_true hz
        exact ⟨a, p, ys, rp_str rx, rfl, h.elim (fun z => .inl (s.seq z)) (fun z => .inr (sqT_mono s z)), by omega, k _ _ _ .refl (.str _)⟩
      · cases e
    · cases e
  · cases e
theorem de_join (ho : DE X W o fa) (he : DE X W e fb) (hs : starEach [e] X.env = [(false, eval e X.env)] := by rfl) (hbase : attributeBase o "join" X.env (eval o X.env) = eval o X.env := by rfl) (hline : (apos.endLine == pos.line) = true := by rfl) :
    DE X W (.Call (.Attribute o "join" apos) [e] [] pos) (fM1 dJoin fa fb) := de_m1 F.slot_str_join F.type_str_join mt_join v2_join ho he hs hbase hline
def dPart (x y : D) : Option D := match x, y with
  | .str a, .str b => if szS a = true ∧ (b.length == 0) = false then some (.tup [.str (Txt.partition a b).1, .str (Txt.partition a b).2.1, .str (Txt.partition a b).2.2]) else none
  | _, _ => none
theorem v2_part : V2 K (fun x y H Q => ∃ a b, x = .str a ∧ [y] = [.str b] ∧ (b.length == 0) = false ∧ a.length ≤ sizeLine ∧
    ∀ p, H p = none → Q (.ref p) (upd H p (.tup [.str (Txt.partition a b).1, .str (Txt.partition a b).2.1, .str (Txt.partition a b).2.2]))) dPart := by
  intro H0 H x y d v u Q s rx ry e k
  unfold dPart at e
  split at e
  · rename_i a b
    split at e
    · rename_i hz
      cases e
      have := szS_le hz.1
      refine ⟨a, b, rp_str rx, by rw [rp_str ry], hz.2, by rw [sizeLine_eq]; omega, fun p n => k _ _ _ (.new _ n) (.tup (SqT.of upd_same) (.cons (.str _) (.cons (.str _) (.cons (.str _) .nil))))⟩
    · cases e
  · cases e
theorem de_partition (ho : DE X W o fa) (he : DE X W e fb) (hs : starEach [e] X.env = [(false, eval e X.env)] := by rfl) (hbase : attributeBase o "partition" X.env (eval o X.env) = eval o X.env := by rfl) (hline : (apos.endLine == pos.line) = true := by rfl) :
    DE X W (.Call (.Attribute o "partition" apos) [e] [] pos) (fM1 dPart fa fb) := de_m1 F.slot_str_partition F.type_str_partition mt_partition v2_part ho he hs hbase hline
def dStarts (x y : D) : Option D := match x, y with
  | .str a, .str b => some (.bl (Txt.startswith a b))
  | _, _ => none
theorem v2_starts : V2 K (fun x y H Q => ∃ a b, x = .str a ∧ [y] = [.str b] ∧ Q (.bl (Txt.startswith a b)) H) dStarts := by
  intro H0 H x y d v u Q s rx ry e k
  unfold dStarts at e
  split at e
  · rename_i a b
    cases e
    exact ⟨a, b, rp_str rx, by rw [rp_str ry], k _ _ _ .refl (.bl _)⟩
  · cases e
theorem de_startswith (ho : DE X W o fa) (he : DE X W e fb) (hs : starEach [e] X.env = [(false, eval e X.env)] := by rfl) (hbase : attributeBase o "startswith" X.env (eval o X.env) = eval o X.env := by rfl) (hline : (apos.endLine == pos.line) = true := by rfl) :
    DE X W (.Call (.Attribute o "startswith" apos) [e] [] pos) (fM1 dStarts fa fb) := de_m1 F.slot_str_startswith F.type_str_startswith mt_startswith v2_starts ho he hs hbase hline
/-- s.split(sep): a new list -/
def fSplit (fa fb : Ev → Rs D) (env : Ev) : Rs (List D) := (fa env).bind fun e1 x => match x with
  | .str a => (fb e1).bind fun e2 y => (match y with
    | .str b => if szS a = true ∧ (b.length == 0) = false then .ok e2 ((Txt.split a b).map .str) else .no
    | _ => .no)
  | _ => .no
theorem rpa_strs {H : Hp} : ∀ (xs : List Str), RpA K H (xs.map .str) (xs.map V.str)
  | [] => .nil
  | x :: r => .cons (.str x) (rpa_strs r)
theorem df_split (ho : DE X W o fa) (he : DE X W e fb) (hs : starEach [e] X.env = [(false, eval e X.env)] := by rfl) (hbase : attributeBase o "split" X.env (eval o X.env) = eval o X.env := by rfl) (hline : (apos.endLine == pos.line) = true := by rfl) :
    DF X W (.Call (.Attribute o "split" apos) [e] [] pos) (fSplit fa fb) := by
  refine pe_mono (pe_split ho he hs hbase hline) fun σ H Q q => ?_
  obtain ⟨E, H0, env, S, q⟩ := q
  refine WP.bind S q fun e1 x v H1 H' S1 s1 r1 q1 => ?_
  cases x with
  | str z =>
    refine ⟨⟨z, rp_str r1⟩, WP.bind S1 q1 fun e2 y u H2 H'' S2 s2 r2 q2 => ?_⟩
    cases y with
    | str b =>
      dsimp only at q2
      by_cases hz : szS z = true ∧ (b.length == 0) = false
      · rw [if_pos hz] at q2
        have := szS_le hz.1
        refine ⟨z, b, rp_str r1, by rw [rp_str r2], hz.2, by rw [sizeLine_eq]; omega, fun p n => ?_⟩
        obtain ⟨S3, r3⟩ := S2.laid (rpa_strs (Txt.split z b)) n
        exact q2 _ H2 _ (Same.refl _) S3 r3
      · rw [if_neg hz] at q2
        exact (show False from q2).elim
    | _ => exact (show False from q2).elim
  | _ => exact (show False from q1).elim
/-! ### built-ins -/
def gInt : List D → Option D
  | [.int i] => some (.int i)
  | [.bl k] => some (.int (if k then 1 else 0))
  | _ => none
theorem vn_int : VN K (fun xs H Q => (∃ i, xs = [.int i] ∧ Q (.int i) H) ∨ ∃ k, xs = [.bl k] ∧ Q (.int (if k then 1 else 0)) H) gInt := by
  intro H0 H xs d vs Q s r e k
  unfold gInt at e
  split at e
  · cases e
    obtain ⟨v, rfl, rv⟩ := rpa1 r
    exact .inl ⟨_, by rw [rp_int rv], k _ _ _ .refl (.int _)⟩
  · cases e
    obtain ⟨v, rfl, rv⟩ := rpa1 r
    exact .inr ⟨_, by rw [rp_bl rv], k _ _ _ .refl (.int _)⟩
  · cases e
def gIntS : List D → Option D
  | [.str a] => if Nat.ble a.length 640 = true then (PySem.intText? a).map .int else none
  | _ => none
theorem vn_intS : VN K (fun xs H Q => ∃ a n, xs = [.str a] ∧ PySem.intText? a = some n ∧ a.length ≤ 640 ∧ Q (.int n) H) gIntS := by
  intro H0 H xs d vs Q s r e k
  unfold gIntS at e
  split at e
  · rename_i a
    split at e
    · rename_i hl
      obtain ⟨n, e1, rfl⟩ := Option.map_eq_some_iff.mp e
      obtain ⟨v, rfl, rv⟩ := rpa1 r
      exact ⟨a, n, by rw [rp_str rv], e1, Nat.le_of_ble_eq_true hl, k _ _ _ .refl (.int _)⟩
    · cases e
  · cases e
def gAbs : List D → Option D
  | [.int i] => some (.int (if i < 0 then -i else i))
  | _ => none
theorem vn_abs : VN K (fun xs H Q => ∃ i, xs = [.int i] ∧ Q (.int (if i < 0 then -i else i)) H) gAbs := by
  intro H0 H xs d vs Q s r e k
  unfold gAbs at e
  split at e
  · cases e
    obtain ⟨v, rfl, rv⟩ := rpa1 r
    exact ⟨_, by rw [rp_int rv], k _ _ _ .refl (.int _)⟩
  · cases e
def gMax : List D → Option D
  | [.int i, .int j] => some (.int (if j > i then j else i))
  | _ => none
theorem vn_max : VN K (fun xs H Q => ∃ i j, xs = [.int i, .int j] ∧ Q (.int (if j > i then j else i)) H) gMax := by
  intro H0 H xs d vs Q s r e k
  unfold gMax at e
  split at e
  · cases e
    obtain ⟨v, u, rfl, rv, ru⟩ := rpa2 r
    exact ⟨_, _, by rw [rp_int rv, rp_int ru], k _ _ _ .refl (.int _)⟩
  · cases e
def gMin : List D → Option D
  | [.int i, .int j] => some (.int (if j < i then j else i))
  | _ => none
theorem vn_min : VN K (fun xs H Q => ∃ i j, xs = [.int i, .int j] ∧ Q (.int (if j < i then j else i)) H) gMin := by
  intro H0 H xs d vs Q s r e k
  unfold gMin at e
  split at e
  · cases e
    obtain ⟨v, u, rfl, rv, ru⟩ := rpa2 r
    exact ⟨_, _, by rw [rp_int rv, rp_int ru], k _ _ _ .refl (.int _)⟩
  · cases e
/-- str(int), below 10^18 -/
def okI (i : Int) : Bool := decide (-1000000000000000000 < i ∧ i < 1000000000000000000)
theorem okI_log {i : Int} (h : okI i = true) : i.natAbs.log2 < 1920 := by
  have h := of_decide_eq_true h
  by_cases z : i.natAbs = 0
  · rw [z]; decide
  · rw [Nat.log2_lt z]
    have : i.natAbs < 1000000000000000000 := by omega
    exact Nat.lt_trans this (by decide)
def gStr : List D → Option D
  | [.int i] => if okI i = true then some (.str (toString i)) else none
  | _ => none
theorem vn_str : VN K (fun xs H Q => ∃ i : Int, xs = [.int i] ∧ i.natAbs.log2 < 1920 ∧ Q (.str (toString i)) H) gStr := by
  intro H0 H xs d vs Q s r e k
  unfold gStr at e
  split at e
  · split at e
    · rename_i hi
      cases e
      obtain ⟨v, rfl, rv⟩ := rpa1 r
      exact ⟨_, by rw [rp_int rv], okI_log hi, k _ _ _ .refl (.str _)⟩
    · cases e
  · cases e
/-- tuple(xs) -/
def gTuple : List D → Option D
  | [.lst ds] => some (.tup ds)
  | [.fz ds] => some (.tup ds)
  | [.tup ds] => some (.tup ds)
  | _ => none
theorem vn_tuple : VN K (fun xs H Q => ∃ p ys, xs = [.ref p] ∧ ((SqL K H p ys ∧ ∀ l, H l = none → Q (.ref l) (upd H l (.tup ys))) ∨ (SqT K H p ys ∧ Q (.ref p) H))) gTuple := by
  intro H0 H xs d vs Q s r e k
  unfold gTuple at e
  split at e
  · cases e
    obtain ⟨v, rfl, rv⟩ := rpa1 r
    cases rv with
    | lst h ra => exact ⟨_, _, rfl, .inl ⟨.inl (.inl (s _ _ h)), fun p n => k _ _ _ (.new (.tup _) n) (.tup (SqT.of upd_same) (ra.mono (same_upd (s.free n))))⟩⟩
  · cases e
    obtain ⟨v, rfl, rv⟩ := rpa1 r
    cases rv with
    | fz h ra => exact ⟨_, _, rfl, .inl ⟨s.seq h, fun p n => k _ _ _ (.new (.tup _) n) (.tup (SqT.of upd_same) (ra.mono (same_upd (s.free n))))⟩⟩
  · cases e
    obtain ⟨v, rfl, rv⟩ := rpa1 r
    cases rv with
    | tup h ra => exact ⟨_, _, rfl, .inr ⟨sqT_mono s h, k _ _ _ .refl (.tup h ra)⟩⟩
  · cases e
/-- list(xs): a new list -/
def fNewL (g : List D → Option (List D)) (fa : Ev → Rs (List D)) (env : Ev) : Rs (List D) := (fa env).bind fun e xs => lift e (g xs)
def gList : List D → Option (List D)
  | [x] => itemsD x
  | _ => none
theorem df_list {x : Str} (hm : X.mg x = none) (hb : bootBuiltins x = some (.type "list")) (ha : DA X W (e :: es) fs) (hg : Gl X x := by rfl) (hn : x ≠ "__name__" := by decide) (hdb : (x == ("__debug__" : Str)) = false := by decide)
    (he : starEach (e :: es) X.env = (false, eval e X.env) :: starEach es X.env := by rfl) (hpl : (backTo pos (starEach es X.env)).any (·.1) = false := by rfl) : DF X W (.Call (.Name x p) (e :: es) [] pos) (fNewL gList fs) := by
  refine pe_mono (pe_callTy call_list_of hg hm hb ha hn hdb he hpl) fun σ H Q q => ?_
  obtain ⟨E, H0, env, S, q⟩ := q
  refine WP.bind S q fun e1 xs vs H1 H' S1 s1 r1 q1 => ?_
  cases h : gList xs with
  | none => rw [h] at q1; exact (show False from q1).elim
  | some ds =>
    rw [h] at q1
    unfold gList at h
    split at h
    · obtain ⟨v, rfl, rv⟩ := rpa1 r1
      obtain ⟨p, vs, rfl, hs, r⟩ := items_rp rv h
      refine ⟨p, vs, rfl, hs.elim (fun z => .inl (S1.s1.seq z)) (fun z => .inr (sqT_mono S1.s1 z)), fun l n => ?_⟩
      obtain ⟨S3, r3⟩ := S1.laid r n
      exact q1 _ H1 _ (Same.refl _) S3 r3
    · cases h
/-! ### slices -/
abbrev DP (X : Cx) (W : WX) (e : Option Expr) (f : Ev → Rs (Option Int)) : Prop := PO X e (WP X.K W (fun _ _ _ _ _ (x y : Option Int) => x = y) f)
def fNoP (env : Ev) : Rs (Option Int) := .ok env none
def fP (fa : Ev → Rs D) (env : Ev) : Rs (Option Int) := (fa env).bind fun e x => match x with
  | .int i => .ok e (some i)
  | _ => .no
theorem po_mono {e : Option Expr} {t t' : TO} (h : PO X e t) (m : ∀ σ H Q, t' σ H Q → t σ H Q) : PO X e t' := ⟨fun pins s σ H Q I q => h.run pins s σ H Q I (m σ H Q q)⟩
theorem dp_none : DP X W none fNoP := po_mono po_none fun σ H Q q => by
  obtain ⟨E, H0, env, S, q⟩ := q
  exact Post.here S q rfl
theorem dp_some (h : DE X W a fa) : DP X W (some a) (fP fa) := po_mono (po_some h) fun σ H Q q => by
  obtain ⟨E, H0, env, S, q⟩ := q
  refine WP.bind S q fun e1 x v H1 H' S1 s1 r1 q1 => ?_
  cases x with
  | int i => exact ⟨i, rp_int r1, Post.here S1 q1 rfl⟩
  | _ => exact (show False from q1).elim
def cutD {α : Type} (xs : List α) (lo hi : Option Int) : List α := (xs.drop (HT.sIx xs.length 0 lo)).take (HT.sIx xs.length xs.length hi - HT.sIx xs.length 0 lo)
theorem cut_rp {H : Hp} {ds : List D} {vs : List V} (r : RpA K H ds vs) (lo hi : Option Int) : RpA K H (cutD ds lo hi) (cutV vs lo hi) := by
  unfold cutD cutV
  rw [r.length]
  exact (r.drop _).take _
/-- a slice of a list: a new list -/
def fCutL (fa : Ev → Rs D) (fl fh : Ev → Rs (Option Int)) (env : Ev) : Rs (List D) := (fa env).bind fun e x => (fl e).bind fun e l => (fh e).bind fun e h => match x with
  | .lst ds => .ok e (cutD ds l h)
  | .fz ds => .ok e (cutD ds l h)
  | _ => .no
variable {lo hi : Option Expr} {fl fh : Ev → Rs (Option Int)} {p2 : Pos}
theorem df_cut (ha : DE X W a fa) (hl : DP X W lo fl) (hh : DP X W hi fh) : DF X W (.Subscript a (.Slice lo hi none p2) pos) (fCutL fa fl fh) := by
  refine pe_mono (pe_slice sl_list ha hl hh) fun σ H Q q => ?_
  obtain ⟨E, H0, env, S, q⟩ := q
  refine WP.bind S q fun e1 x v H1 H' S1 s1 r1 q1 => WP.bind S1 q1 fun e2 l l' H2 H'' S2 s2 r2 q2 => WP.bind S2 q2 fun e3 h h' H3 H4 S3 s3 r3 q3 => ?_
  have r2 : l = l' := r2
  have r3 : h = h' := r3
  subst r2 r3
  have rx := (r1.mono s2).mono s3
  have fin : ∀ {ds : List D} {a : Addr} {vs : List V}, SqL X.K H3 a vs → RpA X.K H3 ds vs → Post X.K W (RF X.K) E H3 σ Q (.ok e3 (cutD ds l h)) → rSlL X.K (.ref a) l h H4 Q := fun {ds a vs} hs r q => by
    refine ⟨a, vs, rfl, S3.s1.seq hs, fun p n => ?_⟩
    obtain ⟨S5, r5⟩ := S3.laid (cut_rp r l h) n
    exact q _ H3 _ (Same.refl _) S5 r5
  cases rx with
  | lst e r => exact fin (.inl (.inl e)) r q3
  | fz e r => exact fin e r q3
  | _ => exact (show False from q3).elim
/-- a slice of a tuple or of a text -/
def dCutT (x : D) (l h : Option Int) : Option D := match x with
  | .tup ds => some (.tup (cutD ds l h))
  | _ => none
end
/-! ### what a slot has -/
def szL (n : Nat) : Bool := Nat.ble n 1000
section
variable {K : Frag} {X : Cx} {W : WX} {k : Nat} {a b e : Expr} {es : List Expr} {fa fb : Ev → Rs D} {fs : Ev → Rs (List D)} {pos p apos : Pos}
/-- x[j] of slot i's own list -/
def fIxO (i : Nat) (fb : Ev → Rs D) (env : Ev) : Rs D := if (ob? env[i]?).isSome = true then (fb env).bind fun e y => match ob? e[i]?, y with
  | some (.lst ds), .int j => lift e (atI ds j)
  | _, _ => .no
  else .no
theorem de_ixO {i : Nat} {y : Str} {py : Pos} (hN : X.N[i]? = some y) (hb : DE X W b fb) (hv : Vis X.env.scope y := by first | exact Or.inl rfl | exact Or.inr (Or.inl rfl) | exact Or.inr (Or.inr rfl)) (hdy : (y == ("__debug__" : Str)) = false := by decide) (hcd : (y == ("__classdict__" : Str)) = false := by decide) (hs : PlainIx b := by exact fun _ _ => rfl) :
    DE X W (.Subscript (.Name y py) b pos) (fIxO i fb) := by
  refine pe_mono (pe_ix ix_list (pe_var hN hv hdy hcd) hb hs) fun σ H Q q => ?_
  obtain ⟨E, H0, env, S, q⟩ := q
  by_cases hi : (ob? env[i]?).isSome = true
  rotate_left
  · simp only [Rs.bind, fIxO, if_neg hi] at q
    exact (show False from q).elim
  simp only [Rs.bind, fIxO, if_pos hi] at q
  obtain ⟨o0, ho0⟩ := Option.isSome_iff_exists.mp hi
  obtain ⟨a0, e0, _⟩ := S.obj ho0
  refine ⟨.ref a0, e0, WP.bind S q fun e1 y v H1 H' S1 s1 r1 q1 => ?_⟩
  cases ho : ob? e1[i]? with
  | none => rw [ho] at q1; exact (show False from q1).elim
  | some o =>
    rw [ho] at q1
    cases o with
    | ins C ns ds => exact (show False from q1).elim
    | lst ds =>
      cases y with
      | int j =>
        obtain ⟨a1, e2, _, ⟨vs, hL, ra⟩, _⟩ := S1.obj ho
        rw [e0] at e2
        cases e2
        dsimp only at q1
        cases h : atI ds j with
        | none => rw [h] at q1; exact (show False from q1).elim
        | some d =>
          rw [h] at q1
          obtain ⟨v', h1, h2⟩ := atI_rp ra h
          exact ⟨a0, vs, j, v', rfl, rp_int r1, .inl (.inl hL), h1, Post.here S1 q1 h2⟩
      | _ => exact (show False from q1).elim
/-- x[j] = e at slot i's own list -/
def fSetIx (i : Nat) (fa fb : Ev → Rs D) (env : Ev) : Rs Fl := (fa env).bind fun e d => if (ob? e[i]?).isSome = true then (fb e).bind fun e y => match ob? e[i]?, y with
  | some (.lst ds), .int j => (match ixN ds.length j with
    | some n => .ok (putOb e i (.lst (ds.set n d))) .nx
    | none => .no)
  | _, _ => .no
  else .no
theorem StR.chgL {E : En} {H0 H : Hp} {σ : St} {env : Ev} {i : Nat} {a : Addr} {ds : List D} {vs : List V} (S : StR K E H0 H σ env) (h : Has σ env i a) (r : RpA K H0 ds vs) : StR K E H0 (upd H a (.lst vs)) σ (putOb env i (.lst ds)) :=
  S.chg h (Same.refl _) (fun b u q => by rw [upd_ne (ne_of_none q (S.has h).1)]; exact S.s1 _ _ q) (fun b u q ne => by rw [upd_ne ne]; exact q) (fun _ _ => rfl) ⟨vs, upd_same, r⟩
theorem ds_setIx {i : Nat} {y : Str} {py tpos : Pos} (hN : X.N[i]? = some y) (ha : DE X W a fa) (hb : DE X W b fb) (hv : Vis X.env.scope y := by first | exact Or.inl rfl | exact Or.inr (Or.inl rfl) | exact Or.inr (Or.inr rfl)) (hdy : (y == ("__debug__" : Str)) = false := by decide) (hcd : (y == ("__classdict__" : Str)) = false := by decide)
    (hs : swapsWithSole [.Subscript (.Name y py) b tpos] a pos.line X.env = pure false := by rfl) (hw : swappedStores [.Subscript (.Name y py) b tpos] a X.env = pure none := by rfl) (h1 : (assignEach [.Subscript (.Name y py) b tpos] X.env).map (·.2) = [assign (.Subscript (.Name y py) b tpos) X.env] := by rfl)
    (hasg : ∀ v, assign (.Subscript (.Name y py) b tpos) X.env v = (do
      let ov ← holding [v] (eval (.Name y py) X.env)
      let iv ← holding [v, ov] (eval b X.env)
      standAt tpos
      holding [v, ov, iv] (setItem ov iv v)
      release [v, ov, iv] []) := by intro _; rfl) : DS X W (.Assign [.Subscript (.Name y py) b tpos] a pos) (fSetIx i fa fb) := by
  refine ps_mono (ps_asg ha (pg_sub (pe_var hN hv hdy hcd) hb set_list hasg) hs hw h1) fun N σ H q => ?_
  obtain ⟨E, H0, env, S, q⟩ := q
  refine WP.bindS S q fun e1 d v H1 H' S1 s1 r1 q1 => ?_
  by_cases hi : (ob? e1[i]?).isSome = true
  rotate_left
  · rw [if_neg hi] at q1
    exact (show False from q1).elim
  rw [if_pos hi] at q1
  obtain ⟨o0, ho0⟩ := Option.isSome_iff_exists.mp hi
  obtain ⟨a0, e0, _⟩ := S1.obj ho0
  refine ⟨.ref a0, e0, WP.bindS S1 q1 fun e2 yv u H2 H'' S2 s2 r2 q2 => ?_⟩
  cases ho : ob? e2[i]? with
  | none => rw [ho] at q2; exact (show False from q2).elim
  | some o =>
    rw [ho] at q2
    cases o with
    | ins C ns ds => exact (show False from q2).elim
    | lst ds =>
      cases yv with
      | int j =>
        obtain ⟨a1, e3, _, ⟨vs, hL, ra⟩, hh⟩ := S2.obj ho
        rw [e0] at e3
        cases e3
        dsimp only at q2
        cases h : ixN ds.length j with
        | none => rw [h] at q2; exact (show False from q2).elim
        | some n =>
          rw [h] at q2
          exact ⟨a0, vs, j, n, rfl, rp_int r2, hL, by rw [← ra.length]; exact h, q2 σ H2 _ (Same.refl _) (S2.chgL hh (ra.set (r1.mono s2) n))⟩
      | _ => exact (show False from q2).elim
/-- a method of slot i's own list -/
def isL : Option Ob → Bool
  | some (.lst _) => true
  | _ => false
def fOM (i : Nat) (g : List D → List D → Option (List D × D)) (fs : Ev → Rs (List D)) (env : Ev) : Rs D := if isL (ob? env[i]?) = true then (fs env).bind fun e xs => match ob? e[i]? with
  | some (.lst ds) => (match g ds xs with
    | some (ds', d) => .ok (putOb e i (.lst ds')) d
    | none => .no)
  | _ => .no
  else .no
def OM (K : Frag) (r : V → List V → Hp → VK → Prop) (g : List D → List D → Option (List D × D)) : Prop := ∀ (H0 H : Hp) (a : Addr) (ds xs ds' : List D) (vs us : List V) (d : D) (Q : VK), Same H0 H → H0 a = none → H a = some (.lst vs) → RpA K H0 ds vs → RpA K H0 xs us → g ds xs = some (ds', d) →
  (∀ v vs', RpA K H0 ds' vs' → Rp K H0 d v → Q v (upd H a (.lst vs'))) → r (.ref a) us H Q
theorem own_read {r : V → List V → Hp → VK → Prop} {g : List D → List D → Option (List D × D)} (hr : OM K r g) {i : Nat} {σ : St} {H : Hp} {Q : VK} (q : tDE K W (fOM i g fs) σ H Q) : tBM K "list" r (tVar i) (tDA K W fs) σ H Q := by
  obtain ⟨E, H0, env, S, q⟩ := q
  by_cases hi : isL (ob? env[i]?) = true
  rotate_left
  · simp only [Rs.bind, fOM, if_neg hi] at q
    exact (show False from q).elim
  simp only [Rs.bind, fOM, if_pos hi] at q
  cases ho0 : ob? env[i]? with
  | none => rw [ho0] at hi; cases hi
  | some o0 =>
    cases o0 with
    | ins C ns ds => rw [ho0] at hi; cases hi
    | lst ds0 =>
      obtain ⟨a0, e0, _, ⟨vs0, hL0, _⟩, _⟩ := S.obj ho0
      refine ⟨.ref a0, e0, .inl ⟨rfl, _, .inl (.inl hL0)⟩, WP.bind S q fun e1 xs us H1 H' S1 s1 r1 q1 => ?_⟩
      cases ho : ob? e1[i]? with
      | none => rw [ho] at q1; exact (show False from q1).elim
      | some o =>
        rw [ho] at q1
        cases o with
        | ins C ns ds => exact (show False from q1).elim
        | lst ds =>
          obtain ⟨a1, e2, n0, ⟨vs, hL, ra⟩, hh⟩ := S1.obj ho
          rw [e0] at e2
          cases e2
          dsimp only at q1
          cases hg : g ds xs with
          | none => rw [hg] at q1; exact (show False from q1).elim
          | some z =>
            obtain ⟨ds', d⟩ := z
            rw [hg] at q1
            exact hr H1 H' a0 ds xs ds' vs us d Q S1.s1 n0 hL ra r1 hg fun v vs' r' rd => q1 v H1 _ (Same.refl _) (S1.chgL hh r') rd
theorem de_own {id : String} {name y : Str} {i : Nat} {py : Pos} {r : V → List V → Hp → VK → Prop} {g : List D → List D → Option (List D × D)} (slot : Slot "list" name id) (hty : typeOf (.builtin id) = pure (.type "method_descriptor")) (hm : MtR X id r) (hr : OM X.K r g) (hN : X.N[i]? = some y) (ha : DA X W (e :: es) fs)
    (hv : Vis X.env.scope y := by first | exact Or.inl rfl | exact Or.inr (Or.inl rfl) | exact Or.inr (Or.inr rfl)) (hdy : (y == ("__debug__" : Str)) = false := by decide) (hcd : (y == ("__classdict__" : Str)) = false := by decide)
    (hbase : attributeBase (.Name y py) name X.env (eval (.Name y py) X.env) = eval (.Name y py) X.env := by rfl)
    (hfew : ((backTo pos (starEach (e :: es) X.env)).all (fun x => !x.1) && (backToKw pos (keywordEach [] X.env)).all (fun x => x.1.isSome)
      && decide ((e :: es).length + ([] : List Keyword).length + (if ([] : List Keyword).isEmpty then 0 else 1) < 30)) = true := by rfl)
    (hline : (apos.endLine == pos.line) = true := by rfl) (hs : starEach (e :: es) X.env = (false, eval e X.env) :: starEach es X.env := by rfl) (hplain : (backTo pos (starEach es X.env)).any (·.1) = false := by rfl) :
    DE X W (.Call (.Attribute (.Name y py) name apos) (e :: es) [] pos) (fOM i g fs) :=
  pe_mono (pe_bm PySem.F.plainAttrs_list slot hty hm (pe_var hN hv hdy hcd) ha hbase hfew hline hs hplain) fun σ H Q q => own_read hr q
theorem de_own0 {id : String} {name y : Str} {i : Nat} {py : Pos} {r : V → List V → Hp → VK → Prop} {g : List D → List D → Option (List D × D)} (slot : Slot "list" name id) (hty : typeOf (.builtin id) = pure (.type "method_descriptor")) (hm : MtR X id r) (hr : OM X.K r g) (hN : X.N[i]? = some y)
    (hv : Vis X.env.scope y := by first | exact Or.inl rfl | exact Or.inr (Or.inl rfl) | exact Or.inr (Or.inr rfl)) (hdy : (y == ("__debug__" : Str)) = false := by decide) (hcd : (y == ("__classdict__" : Str)) = false := by decide)
    (hbase : attributeBase (.Name y py) name X.env (eval (.Name y py) X.env) = eval (.Name y py) X.env := by rfl) (hline : (apos.endLine == pos.line) = true := by rfl) :
    DE X W (.Call (.Attribute (.Name y py) name apos) [] [] pos) (fOM i g fNil) :=
  pe_mono (pe_bm0 PySem.F.plainAttrs_list slot hty hm (pe_var hN hv hdy hcd) hbase hline) fun σ H Q q => by
    obtain ⟨v, e, ty, ⟨E, H0, env, S, p⟩⟩ := own_read hr q
    exact ⟨v, e, ty, Post.here S p .nil⟩
def gApp (ds xs : List D) : Option (List D × D) := match xs with
  | [d] => if szL ds.length = true then some (ds ++ [d], .non) else none
  | _ => none
theorem om_append : OM K rAppend gApp := by
  intro H0 H a ds xs ds' vs us d Q s n hL ra rx e k
  unfold gApp at e
  split at e
  · split at e
    · rename_i hz
      cases e
      obtain ⟨v, rfl, rv⟩ := rpa1 rx
      exact ⟨a, vs, v, rfl, rfl, hL, by rw [← ra.length]; exact small1000 (Nat.le_of_ble_eq_true hz), k _ _ (ra.append (.cons rv .nil)) .non⟩
    · cases e
  · cases e
def gExt (ds xs : List D) : Option (List D × D) := match xs with
  | [.lst zs] => if szL (ds.length + zs.length) = true then some (ds ++ zs, .non) else none
  | _ => none
theorem om_extend : OM K rExtend gExt := by
  intro H0 H a ds xs ds' vs us d Q s n hL ra rx e k
  unfold gExt at e
  split at e
  · split at e
    · rename_i hz
      cases e
      obtain ⟨v, rfl, rv⟩ := rpa1 rx
      cases rv with
      | lst h r => exact ⟨a, _, vs, _, rfl, rfl, hL, s _ _ h, by rw [← ra.length, ← r.length]; exact le_line (Nat.le_of_ble_eq_true hz), k _ _ (ra.append r) .non⟩
    · cases e
  · cases e
def gIns (ds xs : List D) : Option (List D × D) := match xs with
  | [.int i, d] => if szL ds.length = true ∧ 0 ≤ i ∧ i < 2 ^ 62 then some (ds.take i.toNat ++ [d] ++ ds.drop i.toNat, .non) else none
  | _ => none
theorem om_insert : OM K (fun x vs H Q => ∃ (l : Addr) (xs : List V) (i : Int) (y : V), x = .ref l ∧ vs = [.int i, y] ∧ H l = some (.lst xs) ∧ xs.length < sizeLine ∧ 0 ≤ i ∧ i < 2 ^ 63 ∧
    Q .non (upd H l (.lst (xs.take i.toNat ++ [y] ++ xs.drop i.toNat)))) gIns := by
  intro H0 H a ds xs ds' vs us d Q s n hL ra rx e k
  unfold gIns at e
  split at e
  · split at e
    · rename_i hz
      cases e
      obtain ⟨v, u, rfl, rv, ru⟩ := rpa2 rx
      exact ⟨a, vs, _, u, rfl, by rw [rp_int rv], hL, by rw [← ra.length]; exact small1000 (Nat.le_of_ble_eq_true hz.1), hz.2.1, by omega, k _ _ (((ra.take _).append (.cons ru .nil)).append (ra.drop _)) .non⟩
    · cases e
  · cases e
def gPopAt (ds xs : List D) : Option (List D × D) := match xs with
  | [.int i] => if -(2 ^ 62) ≤ i ∧ i < 2 ^ 62 then (match seqIndex? i ds.length with
    | some k => (ds[k]?).map fun d => (ds.eraseIdx k, d)
    | none => none) else none
  | _ => none
theorem RpA.eraseIdx {H : Hp} : ∀ {ds : List D} {vs : List V} (i : Nat), RpA K H ds vs → RpA K H (ds.eraseIdx i) (vs.eraseIdx i)
  | _, _, _, .nil => by simpa using (RpA.nil : RpA K H [] [])
  | _, _, 0, .cons _ t => by simpa using t
  | _, _, i + 1, .cons r t => by simpa using RpA.cons r (RpA.eraseIdx i t)
theorem om_popAt : OM K rPopAt gPopAt := by
  intro H0 H a ds xs ds' vs us d Q s n hL ra rx e k
  unfold gPopAt at e
  split at e
  · split at e
    · rename_i hz
      split at e
      · rename_i j hj
        obtain ⟨d0, e1, e2⟩ := Option.map_eq_some_iff.mp e
        cases e2
        obtain ⟨v, rfl, rv⟩ := rpa1 rx
        obtain ⟨y, h1, h2⟩ := ra.get e1
        exact ⟨a, vs, _, j, y, rfl, by rw [rp_int rv], hL, by omega, by omega, by rw [← ra.length]; exact hj, h1, k _ _ (ra.eraseIdx j) h2⟩
      · cases e
    · cases e
  · cases e
/-- return x, x slot i's own list -/
def fRetO (i : Nat) (env : Ev) : Rs Fl := match env[i]? with
  | some (.ow (.lst ds)) => .ok (env.set i .un) (.rt (.fr ds))
  | _ => .no
theorem StR.drop {E : En} {H0 H : Hp} {σ : St} {env : Ev} (S : StR K E H0 H σ env) {i : Nat} {o : Ob} (h : env[i]? = some (.ow o)) : StR K E H0 H σ (env.set i .un) := by
  have hi : i < env.length := (List.getElem?_eq_some_iff.mp h).1
  have has : ∀ j b, Has σ (env.set i .un) j b → Has σ env j b := fun j b ⟨e1, e2⟩ => by
    refine ⟨e1, ?_⟩
    rw [get_set hi] at e2
    by_cases z : j = i
    · rw [if_pos z] at e2
      rcases e2 with ⟨_, e2⟩ | ⟨_, e2⟩ <;> cases e2
    · rw [if_neg z] at e2
      exact e2
  refine ⟨S.s0, S.s1, S.old, S.kept, by simp [S.len], fun j s e => ?_, fun j b q => ?_, fun j l b h1 h2 => S.apart j l b (has j b h1) (has l b h2), fun b u q => ?_⟩
  · rw [get_set hi] at e
    by_cases z : j = i
    · rw [if_pos z] at e; cases e; exact True.intro
    · rw [if_neg z] at e; exact S.slot j s e
  · obtain ⟨o', e1, e2⟩ := S.refs j b q
    have z : j ≠ i := by rintro rfl; rw [h] at e1; cases e1
    exact ⟨o', by rw [get_set hi, if_neg z]; exact e1, e2⟩
  · obtain ⟨h1, h2, h3⟩ := S.frk b u q
    exact ⟨h1, h2, fun j hj => h3 j (has j b hj)⟩
theorem ds_retO {i : Nat} {y : Str} {py : Pos} (hN : X.N[i]? = some y) (hv : Vis X.env.scope y := by first | exact Or.inl rfl | exact Or.inr (Or.inl rfl) | exact Or.inr (Or.inr rfl)) (hdy : (y == ("__debug__" : Str)) = false := by decide) (hcd : (y == ("__classdict__" : Str)) = false := by decide) :
    DS X W (.Return (some (.Name y py)) pos) (fRetO i) := by
  refine ps_mono (ps_ret (pe_var hN hv hdy hcd)) fun N σ H q => ?_
  obtain ⟨E, H0, env, S, q⟩ := q
  unfold fRetO at q
  split at q
  · rename_i ds e
    obtain ⟨a, e1, nE, n0, vs, hL, r⟩ := S.slot i _ e
    have hi : i < env.length := (List.getElem?_eq_some_iff.mp e).1
    have hh : Has σ env i a := ⟨e1, .inl ⟨_, e⟩⟩
    refine ⟨.ref a, e1, q _ σ H0 H (Same.refl _) (S.drop e) ⟨a, vs, rfl, n0, nE, ?_, fun j hj => ?_, hL, r⟩⟩
    · cases z : E.fr a with
      | none => rfl
      | some o => exact absurd hh ((S.frk a o z).2.2 i)
    · obtain ⟨c1, c2⟩ := hj
      have z : j = i := S.apart j i a ⟨c1, by
        rw [get_set hi] at c2
        by_cases z : j = i
        · rw [if_pos z] at c2; rcases c2 with ⟨_, c2⟩ | ⟨_, c2⟩ <;> cases c2
        · rw [if_neg z] at c2; exact c2⟩ hh
      subst z
      rw [get_set hi, if_pos rfl] at c2
      rcases c2 with ⟨_, c2⟩ | ⟨_, c2⟩ <;> cases c2
  · exact (show False from q).elim
/-! ### a look at what slots have -/
/-- data without lists and objects -/
def shObj : Ob → D
  | .lst ds => .lst ds
  | .ins C ns ds => .obj C ns ds
def shSl : Sl → Sl
  | .ow o => .sh (shObj o)
  | .rf o => .sh (shObj o)
  | s => s
end
mutual
def imm : D → Bool
  | .non => true
  | .bl _ => true
  | .int _ => true
  | .str _ => true
  | .tup ds => immA ds
  | .lst _ => false
  | .fz _ => false
  | .obj _ _ _ => false
  | .glo _ => true
  | .dct _ _ => false
  | .ref _ => true
  | .ty _ => true
def immA : List D → Bool
  | [] => true
  | d :: r => imm d && immA r
end
section
variable {K : Frag}
/-- the shared heap less what stands at some places that are no tuples -/
def less (H : Hp) (p : Addr → Bool) : Hp := fun b => if p b = true then none else H b
mutual
theorem imm_less {H : Hp} {p : Addr → Bool} (hp : ∀ b xs, p b = true → ¬ Rd H b (.tup xs)) : ∀ {d : D} {v : V}, Rp K H d v → imm d = true → Rp K (less H p) d v
  | _, _, .non, _ => .non
  | _, _, .bl b, _ => .bl b
  | _, _, .int i, _ => .int i
  | _, _, .str x, _ => .str x
  | _, _, .ref a, _ => .ref a
  | _, _, .glo x, _ => .glo x
  | _, _, .ty n, _ => .ty n
  | _, _, .tup (a := a) (xs := xs) h r, e => by
    refine .tup ?_ (immA_less hp r (by simpa [imm] using e))
    rcases h with h | h
    · have hn : p a = false := by
        cases z : p a with
        | false => rfl
        | true => exact absurd h (hp a _ z)
      left
      rcases h with h | ⟨o, h⟩
      · exact .inl (by unfold less; rw [hn, if_neg Bool.false_ne_true]; exact h)
      · exact .inr ⟨o, by unfold less; rw [hn, if_neg Bool.false_ne_true]; exact h⟩
    · exact .inr h
  | _, _, .lst h r, e => by simp [imm] at e
  | _, _, .fz h r, e => by simp [imm] at e
  | _, _, .obj h r, e => by simp [imm] at e
  | _, _, .dct h r, e => by simp [imm] at e
theorem immA_less {H : Hp} {p : Addr → Bool} (hp : ∀ b xs, p b = true → ¬ Rd H b (.tup xs)) : ∀ {ds : List D} {vs : List V}, RpA K H ds vs → immA ds = true → RpA K (less H p) ds vs
  | _, _, .nil, _ => .nil
  | _, _, .cons (d := d) (ds := ds) h r, e => by
    have e : (imm d && immA ds) = true := by simpa [immA] using e
    obtain ⟨e1, e2⟩ := Bool.and_eq_true_iff.mp e
    exact .cons (imm_less hp h e1) (immA_less hp r e2)
end
open Classical in
/-- all that slots have is open to be read -/
theorem StR.look {E : En} {H0 H : Hp} {σ : St} {env : Ev} (S : StR K E H0 H σ env) : ∃ Hs, StR K ⟨Hs, H, [], fun _ => none⟩ Hs H σ (env.map shSl) ∧ ∀ {H1 H' : Hp} {e2 : Ev}, StR K ⟨Hs, H, [], fun _ => none⟩ H1 H' σ e2 →
    ∃ Hn, Same H0 Hn ∧ StR K E Hn H' σ env ∧ (∀ d v, imm d = true → Rp K H1 d v → Rp K Hn d v) ∧ (∀ ds vs, immA ds = true → RpA K H1 ds vs → RpA K Hn ds vs) ∧ (∀ a, H1 a = none → Hn a = none) ∧ ∀ a fs, H1 a = some (.xd fs) → Hn a = some (.xd fs) := by
  let p : Addr → Bool := fun b => decide (∃ i, Has σ env i b)
  have hp : ∀ {b}, p b = true ↔ ∃ i, Has σ env i b := fun {b} => decide_eq_true_iff
  have hp0 : ∀ {b}, p b = true → H0 b = none := fun {b} h => by obtain ⟨i, hi⟩ := hp.mp h; exact (S.has hi).1
  refine ⟨fun b => if p b = true then H b else H0 b, ?_, ?_⟩
  · have s : Same H0 (fun b => if p b = true then H b else H0 b) := fun b o e => by
      dsimp only
      by_cases z : p b = true
      · rw [hp0 z] at e; cases e
      · rw [if_neg z]; exact e
    refine ⟨Same.refl _, fun b o e => ?_, fun _ _ => rfl, fun _ _ e _ => e, by simp [S.len], fun i t e => ?_, (fun i a h => nomatch h), fun i j a h1 h2 => ?_, (fun a o h => nomatch h)⟩
    · by_cases z : p b = true
      · rw [if_pos z] at e; exact e
      · rw [if_neg z] at e; exact S.s1 _ _ e
    · rw [List.getElem?_map] at e
      cases q : env[i]? with
      | none => rw [q] at e; cases e
      | some t0 =>
        rw [q] at e
        cases e
        have x := S.slot i t0 q
        have own : ∀ a o, σ[i]? = some (some (.ref a)) → Has σ env i a → ObR K H0 H a o → SlR K ⟨fun b => if p b = true then H b else H0 b, H, [], fun _ => none⟩ (fun b => if p b = true then H b else H0 b) H i σ[i]? (.sh (shObj o)) := fun a o e1 hh ro => by
          refine ⟨.ref a, e1, ?_⟩
          have hpa : p a = true := hp.mpr ⟨i, hh⟩
          cases o with
          | lst ds =>
            obtain ⟨vs, hL, r⟩ := ro
            exact .lst (by rw [if_pos hpa]; exact hL) (r.mono s)
          | ins C ns ds =>
            obtain ⟨dx, fs, hL, hn, r⟩ := ro
            subst hn
            exact .obj (dx := dx) (by rw [if_pos hpa]; exact hL) (r.mono s)
        cases t0 with
        | un => exact True.intro
        | sh d => obtain ⟨v, e1, r⟩ := x; exact ⟨v, e1, r.mono s⟩
        | ow o => obtain ⟨a, e1, _, _, ro⟩ := x; exact own a o e1 ⟨e1, .inl ⟨o, q⟩⟩ ro
        | rf o => obtain ⟨a, e1, _, _, ro⟩ := x; exact own a o e1 ⟨e1, .inr ⟨o, q⟩⟩ ro
    · obtain ⟨_, ⟨o, c⟩ | ⟨o, c⟩⟩ := h1
      · rw [List.getElem?_map] at c
        cases q : env[i]? with
        | none => rw [q] at c; cases c
        | some t0 => rw [q] at c; cases t0 <;> cases c
      · rw [List.getElem?_map] at c
        cases q : env[i]? with
        | none => rw [q] at c; cases c
        | some t0 => rw [q] at c; cases t0 <;> cases c
  · intro H1 H' e2 T
    have sH : Same H H' := fun b o e => T.kept b o e fun i h => nomatch h
    have old : ∀ b, H b ≠ none → H1 b = if p b = true then H b else H0 b := T.old
    have notup : ∀ b xs, p b = true → ¬ Rd H1 b (.tup xs) := fun b xs z r => by
      obtain ⟨i, hi⟩ := hp.mp z
      obtain ⟨_, u, hu⟩ := S.has hi
      have e1 := old b (by rw [hu]; simp)
      rw [if_pos z, hu] at e1
      have nt : ∀ o : Ob, ObR K H0 H b o → ∀ xs, u ≠ .tup xs ∧ ∀ ob, u ≠ .frz ob (.tup xs) := fun o ro xs => by
        cases o with
        | lst ds => obtain ⟨vs, hL, _⟩ := ro; rw [hu] at hL; cases hL; exact ⟨(fun z => nomatch z), (fun _ z => nomatch z)⟩
        | ins C ns ds => obtain ⟨dx, fs, hL, _⟩ := ro; rw [hu] at hL; cases hL; exact ⟨(fun z => nomatch z), (fun _ z => nomatch z)⟩
      have ex : ∃ o, ObR K H0 H b o := by
        obtain ⟨c1, ⟨o, c2⟩ | ⟨o, c2⟩⟩ := hi
        · obtain ⟨a, q1, _, _, ro⟩ := S.slot i _ c2
          rw [c1] at q1; cases q1; exact ⟨o, ro⟩
        · obtain ⟨a, q1, _, _, ro⟩ := S.slot i _ c2
          rw [c1] at q1; cases q1; exact ⟨o, ro⟩
      obtain ⟨o, ro⟩ := ex
      rcases r with r | ⟨ob, r⟩
      · rw [e1] at r; exact (nt o ro xs).1 (Option.some.inj r)
      · rw [e1] at r; exact (nt o ro xs).2 ob (Option.some.inj r)
    have noxd : ∀ b fs, p b = true → H1 b ≠ some (.xd fs) := fun b fs z r => by
      obtain ⟨i, hi⟩ := hp.mp z
      obtain ⟨_, u, hu⟩ := S.has hi
      have e1 := old b (by rw [hu]; simp)
      rw [if_pos z, hu, r] at e1
      cases e1
      obtain ⟨c1, ⟨o, c2⟩ | ⟨o, c2⟩⟩ := hi
      · obtain ⟨a, q1, _, _, ro⟩ := S.slot i _ c2
        rw [c1] at q1; cases q1
        cases o with
        | lst ds => obtain ⟨vs, hL, _⟩ := ro; rw [hu] at hL; cases hL
        | ins C ns ds => obtain ⟨dx, fs, hL, _⟩ := ro; rw [hu] at hL; cases hL
      · obtain ⟨a, q1, _, _, ro⟩ := S.slot i _ c2
        rw [c1] at q1; cases q1
        cases o with
        | lst ds => obtain ⟨vs, hL, _⟩ := ro; rw [hu] at hL; cases hL
        | ins C ns ds => obtain ⟨dx, fs, hL, _⟩ := ro; rw [hu] at hL; cases hL
    have new : ∀ b, H b ≠ none → less H1 p b = H0 b := fun b hb => by
      unfold less
      by_cases z : p b = true
      · rw [if_pos z, hp0 z]
      · rw [if_neg z, old b hb, if_neg z]
    have s0 : Same H0 (less H1 p) := fun b o e => by rw [new b (by rw [S.s1 _ _ e]; simp)]; exact e
    refine ⟨less H1 p, s0, S.grow s0 (fun b o e => ?_) sH new, fun d v hd r => imm_less notup r hd, fun ds vs hd r => immA_less notup r hd, fun a e => ?_, fun a fs e => ?_⟩
    · unfold less at e
      split at e
      · cases e
      · exact T.s1 _ _ e
    · unfold less
      split
      · rfl
      · exact e
    · unfold less
      split
      · rename_i z; exact absurd e (noxd a fs z)
      · exact e
def fBor (f : Ev → Rs D) (env : Ev) : Rs D := match f (env.map shSl) with
  | .ok _ d => if imm d = true then .ok env d else .no
  | .er _ C fl d => if imm d = true then .er env C fl d else .no
  | .no => .no
def fBorT (f : Ev → Rs Bool) (env : Ev) : Rs Bool := match f (env.map shSl) with
  | .ok _ b => .ok env b
  | .er _ C fl d => if imm d = true then .er env C fl d else .no
  | .no => .no
def fBorF (f : Ev → Rs (List D)) (env : Ev) : Rs (List D) := match f (env.map shSl) with
  | .ok _ ds => if immA ds = true then .ok env ds else .no
  | .er _ C fl d => if imm d = true then .er env C fl d else .no
  | .no => .no
variable {X : Cx} {W : WX} {e : Expr}
theorem de_bor {f : Ev → Rs D} (h : DE X W e f) : DE X W e (fBor f) := by
  refine pe_mono h fun σ H Q q => ?_
  obtain ⟨E, H0, env, S, q⟩ := q
  obtain ⟨Hs, T, back⟩ := S.look
  refine ⟨_, Hs, _, T, ?_⟩
  unfold fBor at q
  cases hf : f (env.map shSl) with
  | ok e2 d =>
    rw [hf] at q
    dsimp only at q
    split at q
    · rename_i hi
      intro v H1 H' s1 T1 r1
      obtain ⟨Hn, s, S', im, _, _⟩ := back T1
      exact q v Hn H' s S' (im d v hi r1)
    · exact (show False from q).elim
  | er e2 C fl d =>
    rw [hf] at q
    dsimp only at q
    split at q
    · rename_i hi
      intro v dd H1 H' s1 T1 r1 hx
      obtain ⟨Hn, s, S', im, _, _, xd⟩ := back T1
      exact q v dd Hn H' s S' (im d v hi r1) (xd _ _ hx)
    · exact (show False from q).elim
  | no => rw [hf] at q; exact q
theorem dt_bor {f : Ev → Rs Bool} (h : DT X W e f) : DT X W e (fBorT f) := by
  refine pt_mono h fun σ H Q q => ?_
  obtain ⟨E, H0, env, S, q⟩ := q
  obtain ⟨Hs, T, back⟩ := S.look
  refine ⟨_, Hs, _, T, ?_⟩
  unfold fBorT at q
  cases hf : f (env.map shSl) with
  | ok e2 d =>
    rw [hf] at q
    intro v H1 H' s1 T1 r1
    obtain ⟨Hn, s, S', im, _, _⟩ := back T1
    exact q v Hn H' s S' r1
  | er e2 C fl d =>
    rw [hf] at q
    dsimp only at q
    split at q
    · rename_i hi
      intro v dd H1 H' s1 T1 r1 hx
      obtain ⟨Hn, s, S', im, _, _, xd⟩ := back T1
      exact q v dd Hn H' s S' (im d v hi r1) (xd _ _ hx)
    · exact (show False from q).elim
  | no => rw [hf] at q; exact q
theorem df_bor {f : Ev → Rs (List D)} (h : DF X W e f) : DF X W e (fBorF f) := by
  refine pe_mono h fun σ H Q q => ?_
  obtain ⟨E, H0, env, S, q⟩ := q
  obtain ⟨Hs, T, back⟩ := S.look
  refine ⟨_, Hs, _, T, ?_⟩
  unfold fBorF at q
  cases hf : f (env.map shSl) with
  | ok e2 ds =>
    rw [hf] at q
    dsimp only at q
    split at q
    · rename_i hi
      intro v H1 H' s1 T1 r1
      obtain ⟨Hn, s, S', _, im, nn, _⟩ := back T1
      obtain ⟨a, vs, rfl, n0, nE, nf, nh, hL, r⟩ := r1
      have nE : H a = none := nE
      refine q _ Hn H' s S' ⟨a, vs, rfl, nn a n0, S.live nE, ?_, fun i hi => ?_, hL, im ds vs hi r⟩
      · cases z : E.fr a with
        | none => rfl
        | some o => rw [(S.frk a o z).1] at nE; cases nE
      · obtain ⟨_, o, z⟩ := S.has hi
        rw [z] at nE; cases nE
    · exact (show False from q).elim
  | er e2 C fl d =>
    rw [hf] at q
    dsimp only at q
    split at q
    · rename_i hi
      intro v dd H1 H' s1 T1 r1 hx
      obtain ⟨Hn, s, S', im, _, _, xd⟩ := back T1
      exact q v dd Hn H' s S' (im d v hi r1) (xd _ _ hx)
    · exact (show False from q).elim
  | no => rw [hf] at q; exact q
end
end DL

end

section
set_option Elab.async false
set_option linter.all false
set_option maxRecDepth 100000
set_option maxHeartbeats 2000000
/-! DQ: isinstance, formatted texts, globals, what is never reached. -/
namespace DL
open PySem L2
section
variable {K : Frag} {X : Cx} {W : WX} {a b c o e : Expr} {es : List Expr} {fa fb fc : Ev → Rs D} {fs : Ev → Rs (List D)} {pos p apos : Pos}
theorem ds_never {st : Stmt} : DS X W st (fun _ => .no) := ps_mono ps_never fun N σ H q => by
  obtain ⟨E, H0, env, S, q⟩ := q
  exact q
theorem dss_never {st : List Stmt} : DSs X W st (fun _ => .no) := pss_mono pss_never fun N σ H q => by
  obtain ⟨E, H0, env, S, q⟩ := q
  exact q
/-! ### globals -/
/-- a tuple of the module's own -/
def GlT (K : Frag) (mg : Str → Option Value) (x : Str) (ds : List D) : Prop := ∃ (a : Addr) (vs : List V), mg x = some (.ref a) ∧ (∀ H, SqT K H a vs) ∧ ∀ H, RpA K H ds vs
theorem de_globT {x : Str} {ds : List D} (G : GlT X.K X.mg x ds) (hg : Gl X x := by rfl) (hd : (x == ("__debug__" : Str)) = false := by decide) : DE X W (.Name x pos) (fC (.tup ds)) := by
  obtain ⟨a, vs, hm, hs, hr⟩ := G
  exact de_c (pe_glob (v := .ref a) hg hm rfl hd) fun H => .tup (hs H) (hr H)
theorem de_globI {x : Str} {i : Int} {t : Tok} (hm : X.mg x = some (.int i t)) (hg : Gl X x := by rfl) (hd : (x == ("__debug__" : Str)) = false := by decide) : DE X W (.Name x pos) (fC (.int i)) := de_c (pe_glob (v := .int i) hg hm ⟨t, rfl⟩ hd) fun H => .int i
theorem de_globS {x z : Str} {t : Tok} (hm : X.mg x = some (.str z t)) (hg : Gl X x := by rfl) (hd : (x == ("__debug__" : Str)) = false := by decide) : DE X W (.Name x pos) (fC (.str z)) := de_c (pe_glob (v := .str z) hg hm ⟨t, rfl⟩ hd) fun H => .str z
theorem de_globR {x : Str} {C : Addr} (hm : X.mg x = some (.ref C)) (hg : Gl X x := by rfl) (hd : (x == ("__debug__" : Str)) = false := by decide) : DE X W (.Name x pos) (fC (.ref C)) := de_c (pe_glob (v := .ref C) hg hm rfl hd) fun H => .ref C
theorem de_ty {x : Str} {T : String} (hm : X.mg x = none) (hb : bootBuiltins x = some (.type T)) (hg : Gl X x := by rfl) (hn : x ≠ "__name__" := by decide) (hd : (x == ("__debug__" : Str)) = false := by decide) : DE X W (.Name x pos) (fC (.ty T)) := de_c (pe_bltn (v := .ty T) hg hm hb rfl hn hd) fun H => .ty T
/-! ### isinstance of built-in types -/
inductive Ty where
  | non | bl | int | str | tup | lst
def Ty.nm : Ty → String
  | .non => "NoneType"
  | .bl => "bool"
  | .int => "int"
  | .str => "str"
  | .tup => "tuple"
  | .lst => "list"
def tyD : D → Option Ty
  | .non => some .non
  | .bl _ => some .bl
  | .int _ => some .int
  | .str _ => some .str
  | .tup _ => some .tup
  | .lst _ => some .lst
  | .fz _ => some .lst
  | _ => none
def isTy (t : Ty) (T : String) : Option Bool :=
  if T = "int" then some (match t with | .int => true | .bl => true | _ => false)
  else if T = "str" then some (match t with | .str => true | _ => false)
  else if T = "tuple" then some (match t with | .tup => true | _ => false)
  else if T = "list" then some (match t with | .lst => true | _ => false)
  else if T = "bool" then some (match t with | .bl => true | _ => false)
  else none
theorem isTy_kit {t : Ty} {T : String} {r : Bool} (h : isTy t T = some r) : PySem.W.kitOne K (.type t.nm) (.type T) = some r := by
  refine kit_ty ?_
  unfold isTy at h
  split at h
  · rename_i e; subst e; cases t <;> cases h <;> decide +kernel
  · split at h
    · rename_i e; subst e; cases t <;> cases h <;> decide +kernel
    · split at h
      · rename_i e; subst e; cases t <;> cases h <;> decide +kernel
      · split at h
        · rename_i e; subst e; cases t <;> cases h <;> decide +kernel
        · split at h
          · rename_i e; subst e; cases t <;> cases h <;> decide +kernel
          · cases h
theorem tyX_of {H0 H : Hp} {d : D} {v : V} {t : Ty} (s : Same H0 H) (r : Rp K H0 d v) (h : tyD d = some t) : TyX K H v (.type t.nm) := by
  cases r with
  | non => cases h; exact .base .non
  | bl b => cases h; exact .base (.bl b)
  | int i => cases h; exact .base (.int i)
  | str x => cases h; exact .base (.str x)
  | tup q _ =>
    cases h
    rcases q with (q | ⟨o, q⟩) | ⟨o, its, n, hk, hc, _⟩
    · exact .base (.tup (s _ _ q))
    · exact .fTuple (s _ _ q)
    · exact .kTuple hk hc
  | lst q _ => cases h; exact .base (.lst (s _ _ q))
  | fz q _ =>
    cases h
    rcases q with (q | ⟨o, q⟩) | ⟨o, its, n, hk, hc, _⟩
    · exact .base (.lst (s _ _ q))
    · exact .base (.frz (s _ _ q))
    · exact .kList hk hc
  | ref _ => cases h
  | ty _ => cases h
  | obj _ _ => cases h
  | glo _ => cases h
  | dct _ _ => cases h
def gIsi : List D → Option D
  | [x, .ty T] => (match tyD x with
    | some t => (isTy t T).map .bl
    | none => none)
  | _ => none
theorem vn_isi : VN K (rIsi K) gIsi := by
  intro H0 H xs d vs Q s r e k
  unfold gIsi at e
  split at e
  · rename_i x T
    split at e
    · rename_i t ht
      obtain ⟨b, hb, rfl⟩ := Option.map_eq_some_iff.mp e
      obtain ⟨v, u, rfl, rv, ru⟩ := rpa2 r
      cases ru
      exact ⟨v, .ty T, _, _, b, rfl, .ty T, tyX_of s rv ht, isTy_kit hb, k _ _ _ .refl (.bl _)⟩
    · cases e
  · cases e
/-! ### formatted texts -/
def gFmt : D → Option D
  | .str x => if szS x = true then some (.str x) else none
  | .int i => if okI i = true then some (.str (toString i)) else none
  | _ => none
theorem de_fmt (h : DE X W a fa) : DE X W (.FormattedValue a (-1) none pos) (f1 gFmt fa) := by
  refine pe_mono (pe_fmt h) fun σ H Q q => ?_
  obtain ⟨E, H0, env, S, q⟩ := q
  refine WP.bind S q fun e1 x v H1 H' S1 s1 r1 q1 => ?_
  cases x with
  | str z =>
    by_cases hz : szS z = true
    · simp only [Rs.bind, gFmt, if_pos hz] at q1
      have := szS_le hz
      exact .inl ⟨z, rp_str r1, by rw [sizeLine_eq]; omega, Post.here S1 q1 (.str _)⟩
    · simp only [Rs.bind, gFmt, if_neg hz] at q1
      exact (show False from q1).elim
  | int i =>
    by_cases hz : okI i = true
    · simp only [Rs.bind, gFmt, if_pos hz] at q1
      exact .inr ⟨i, rp_int r1, okI_log hz, Post.here S1 q1 (.str _)⟩
    · simp only [Rs.bind, gFmt, if_neg hz] at q1
      exact (show False from q1).elim
  | _ => exact (show False from q1).elim
/-- the parts, one behind the other -/
abbrev DJ (X : Cx) (W : WX) (es : List Expr) (fs : List (Ev → Rs D)) : Prop := PJ X es (fs.map fun f => tDE X.K W f)
theorem dj_nil : DJ X W [] [] := .nil
theorem dj_cons {fs : List (Ev → Rs D)} (h : DE X W a fa) (r : DJ X W es fs) : DJ X W (a :: es) (fa :: fs) := .cons h r
def joinF : List (Ev → Rs D) → Str → Ev → Rs D
  | [], acc, env => .ok env (.str acc)
  | f :: r, acc, env => (f env).bind fun e x => match x with
    | .str y => if szS (acc ++ y) = true then joinF r (acc ++ y) e else .no
    | _ => .no
theorem joinF_read {K : Frag} {E : En} {σ : St} {Q : VK} : ∀ {fs : List (Ev → Rs D)} {acc : Str} {H0 H : Hp} {env : Ev}, StR K E H0 H σ env → Post K W (RD K) E H0 σ Q (joinF fs acc env) → tJs (fs.map fun f => tDE K W f) acc σ H fun out H1 => Q (.str out) H1
  | [], acc, H0, H, env, S, q => Post.here S q (.str acc)
  | f :: r, acc, H0, H, env, S, q => by
    refine WP.bind S q fun e1 x v H1 H' S1 s1 r1 q1 => ?_
    cases x with
    | str y =>
      dsimp only at q1
      by_cases hz : szS (acc ++ y) = true
      · rw [if_pos hz] at q1
        have := szS_le hz
        exact ⟨y, rp_str r1, by rw [sizeLine_eq]; omega, joinF_read S1 q1⟩
      · rw [if_neg hz] at q1
        exact (show False from q1).elim
    | _ => exact (show False from q1).elim
theorem de_joined {v1 v2 : Expr} {rest : List Expr} {fs : List (Ev → Rs D)} (h : DJ X W (v1 :: v2 :: rest) fs) : DE X W (.JoinedStr (v1 :: v2 :: rest) pos) (joinF fs Str.empty) := by
  refine pe_mono (pe_joined h) fun σ H Q q => ?_
  obtain ⟨E, H0, env, S, q⟩ := q
  exact joinF_read S q
theorem de_joined1 (h : DE X W a fa) : DE X W (.JoinedStr [a] pos) fa := pe_joined1 h
/-! ### a < b < c -/
def fChain (g g' : D → D → Option D) (fa fb fc : Ev → Rs D) (env : Ev) : Rs D := (fa env).bind fun e x => (fb e).bind fun e y => match g x y with
  | some (.bl true) => (fc e).bind fun e z => lift e (g' y z)
  | some (.bl false) => .ok e (.bl false)
  | _ => .no
theorem chain_read {r r' : R2} {g g' : D → D → Option D} (hv : V2 K r g) (hv' : V2 K r' g') {σ : St} {H : Hp} {Q : VK} (q : tDE K W (fChain g g' fa fb fc) σ H Q) : tChain r r' (tDE K W fa) (tDE K W fb) (tDE K W fc) σ H Q := by
  obtain ⟨E, H0, env, S, q⟩ := q
  refine WP.bind S q fun e1 x v H1 H' S1 s1 r1 q1 => WP.bind S1 q1 fun e2 y u H2 H'' S2 s2 r2 q2 => ?_
  cases hg : g x y with
  | none => rw [hg] at q2; exact (show False from q2).elim
  | some d =>
    rw [hg] at q2
    refine hv H2 H'' x y d v u _ S2.s1 (r1.mono s2) r2 hg fun v' G G' gr rd => ?_
    obtain ⟨s3, S3⟩ := S2.gr gr
    cases d with
    | bl kk =>
      refine ⟨kk, rp_bl rd, ?_⟩
      cases kk with
      | true =>
        refine iteT (WP.bind S3 (Post.up s3 q2) fun e3 z t H3 H4 S4 s4 r4 q4 => ?_)
        exact q4.fin S4 fun d ed k => hv' H3 H4 y z d u t Q S4.s1 ((r2.mono s3).mono s4) r4 ed k
      | false => exact iteF (Post.here S3 (Post.up s3 q2) (.bl false))
    | _ => exact (show False from q2).elim
theorem de_chain {op op' : CmpOp} {r r' : R2} {g g' : D → D → Option D} (ho : OpR X (compareOp op) r) (hv : V2 X.K r g) (ho' : OpR X (compareOp op') r') (hv' : V2 X.K r' g') (ha : DE X W a fa) (hb : DE X W b fb) (hc : DE X W c fc)
    (hm : lastMarks [op, op'] [b, c] = false := by with_unfolding_all rfl) : DE X W (.Compare a [op, op'] [b, c] pos) (fChain g g' fa fb fc) := pe_mono (pe_chain ho ho' ha hb hc hm) fun σ H Q q => chain_read hv hv' q
theorem dt_chain {op op' : CmpOp} {r r' : R2} {g g' : D → D → Option D} (ho : OpR X (compareOp op) r) (hv : V2 X.K r g) (ho' : OpR X (compareOp op') r') (hv' : V2 X.K r' g') (ha : DE X W a fa) (hb : DE X W b fb) (hc : DE X W c fc)
    (hm : lastMarks [op, op'] [b, c] = false := by with_unfolding_all rfl) : DT X W (.Compare a [op, op'] [b, c] pos) (fTest (fChain g g' fa fb fc)) := by
  refine pt_mono (pt_chain ho ho' ha hb hc hm) fun σ H Q q => ?_
  refine chain_read (Q := fun x H' => ∃ k, x = .bl k ∧ Q k H') hv hv' ?_
  obtain ⟨E, H0, env, S, q⟩ := q
  refine ⟨E, H0, env, S, ?_⟩
  unfold fTest at q
  cases h : fChain g g' fa fb fc env with
  | ok e2 d =>
    rw [h] at q
    intro v H1 H' s1 S1 r1
    cases d with
    | bl kk => exact ⟨kk, rp_bl r1, q kk H1 H' s1 S1 rfl⟩
    | _ => exact (show False from q).elim
  | er => rw [h] at q; exact q
  | no => rw [h] at q; exact q
end
end DL

end

section
set_option Elab.async false
set_option linter.all false
set_option maxRecDepth 100000
set_option maxHeartbeats 2000000
/-! DSo: sorted of alike data, a list or a tuple. -/
namespace DL
open PySem L2 PySem.W PyProof.Rows
theorem each_of_vals : ∀ {vs : List V} {us : List Value}, Vals vs us → EachIs (fun u v => RelV v u) us vs
  | _, _, .nil => .nil
  | _, _, .cons a r => .cons a (each_of_vals r)
theorem vals_of_each : ∀ {us : List Value} {vs : List V}, EachIs (fun u v => RelV v u) us vs → Vals vs us
  | _, _, .nil => .nil
  | _, _, .cons a r => .cons a (vals_of_each r)
mutual
theorem reads_there {h : Heap} : ∀ {v : Value} {d : PyData} {as : List Addr}, Reads h v d as → ∀ b ∈ as, ∃ o, h.get? b = some o
  | _, _, _, .none, b, hb => nomatch hb
  | _, _, _, .bool _, b, hb => nomatch hb
  | _, _, _, .int _ _, b, hb => nomatch hb
  | _, _, _, .str _ _, b, hb => nomatch hb
  | _, _, _, .list q1 _ _ q4, b, hb => (List.mem_cons.mp hb).elim (fun e => ⟨_, e ▸ q1⟩) fun e => readsA_there q4 b e
  | _, _, _, .tuple _ _ _ q4, b, hb => readsA_there q4 b hb
  | _, _, _, .dict q1 _ _ q4 q5, b, hb => (List.mem_cons.mp hb).elim (fun e => ⟨_, e ▸ q1⟩) fun e => (List.mem_append.mp e).elim (fun z => readsA_there q4 b z) fun z => readsA_there q5 b z
theorem readsA_there {h : Heap} : ∀ {vs : List Value} {ds : List PyData} {as : List Addr}, ReadsAll h vs ds as → ∀ b ∈ as, ∃ o, h.get? b = some o
  | _, _, _, .nil, b, hb => nomatch hb
  | _, _, _, .cons q1 q2, b, hb => (List.mem_append.mp hb).elim (fun z => reads_there q1 b z) fun z => readsA_there q2 b z
end
/-- an item, its datum -/
abbrev VP := V × PyData
theorem each_zip {R : Value → V → Prop} : ∀ {us : List Value} {vs : List V} {ps : List PyData}, vs.length = ps.length → EachIs R us vs → EachIs (fun u (b : VP) => R u b.1) us (vs.zip ps)
  | [], [], _, _, .nil => .nil
  | _ :: _, _ :: _, p :: ps, h, .cons a r => .cons a (each_zip (by simpa using h) r)
def rSortedD (K : PySem.W.Frag) (vs : List V) (H : Hp) (Q : VK) : Prop := ∃ (a : Addr) (xs : List V) (ps : List PyData), vs = [V.ref a] ∧ (SqL K H a xs ∨ SqT K H a xs) ∧ DpAll K H xs ps ∧ AllAlike ps ∧ Sortable ps ∧ (∀ d ∈ ps, d.depth ≤ 60) ∧
  ∀ p, H p = none → Q (V.ref p) (upd H p (.lst (((xs.zip ps).mergeSort (dataLe false (fun b : VP => b.2))).map (·.1))))
theorem DpAll.len {K : PySem.W.Frag} {H : Hp} : ∀ {xs : List V} {ps : List PyData}, DpAll K H xs ps → xs.length = ps.length
  | _, _, .nil => rfl
  | _, _, .cons _ r => congrArg Nat.succ (DpAll.len r)
theorem readsAll_zip {h : Heap} : ∀ {us : List Value} {xs : List V} {ps : List PyData} {as : List Addr}, xs.length = ps.length → ReadsAll h us ps as → EachIs (fun u (b : VP) => ∃ as, Reads h u b.2 as) us (xs.zip ps)
  | _, [], [], _, _, .nil => .nil
  | _, x :: xs, p :: ps, _, e, .cons a r => .cons ⟨_, a⟩ (readsAll_zip (by simpa using e) r)
section
variable {X : Cx}
theorem cr_sortedAny (hu : X.A.units + 65 < cLine) : CallR X (.builtin "sorted") (rSortedD X.K) := by
  intro pins s σ H vs us Q I r h
  obtain ⟨a, xs, ps, rfl, hs, hd, hal, hk, hdep, q⟩ := h
  rw [Vals.ref1 r]
  have got : ∃ (its : List Value) (o : Obj) (n : Nat) (T : String), Vals xs its ∧ xs.length ≤ sizeLine ∧ (T = "list" ∨ T = "tuple") ∧ s.heap.get? a = some o ∧ o.cls = .type T ∧ o.data = .seq its.toArray n := by
    rcases hs with hs | hs
    · obtain ⟨its, rv, pl, hz⟩ := I.list hs
      obtain ⟨o, ho, hc, n, he⟩ := pl.isList
      exact ⟨its, o, n, "list", rv, hz, .inl rfl, ho, hc, he⟩
    · obtain ⟨its, rv, ⟨o, ho, hc, n, he⟩, hz⟩ := I.tuple hs
      exact ⟨its, o, n, "tuple", rv, hz, .inr rfl, ho, hc, he⟩
  obtain ⟨its, o, n, T, rv, hz, hT, ho, hc, he⟩ := got
  have hlen := rv.length
  have hpl := DpAll.len hd
  refine PySem.Calls.call_function_entry kind_sorted plain_sorted entry_sorted (args_sorted1 _) ?_
  unfold Builtin.«sorted»
  refine wpAny_bind (m := checkCount "sorted" 1 1 _) (wpAny_pure ?_)
  refine wpAny_bind (wpAny_collect_seq a hT ho hc he (fun h1 kp => ?_) (by rw [List.size_toArray]; omega))
  have e0 : its.toArray.toList = its := by simp
  rw [e0]
  refine wpAny_bind (wpAny_newList ?_ (by omega))
  have hoL : (h1.push (seqObj "list" its.toArray 0)).get? h1.objs.size = some (seqObj "list" its.toArray 0) := Heap.get?_push_size _ rfl
  have kp2 : ∀ b u, s.heap.get? b = some u → (h1.push (seqObj "list" its.toArray 0)).get? b = some u := fun b u e => Heap.get?_push_of_some _ (kp b u e)
  have I2 : Inv X pins σ H { s with heap := h1.push (seqObj "list" its.toArray 0) } := I.kept (t' := s.toks) kp2
  have I1 : Inv X pins σ H { s with heap := h1 } := I.kept (t' := s.toks) kp
  obtain ⟨as, hr⟩ := Dp.readsAll I ps xs its hd rv
  have er0 : EachIs (fun u (b : VP) => ∃ as, Reads s.heap u b.2 as) its (xs.zip ps) := readsAll_zip hpl hr
  have er : EachIs (fun u (b : VP) => ∃ as, Reads (h1.push (seqObj "list" its.toArray 0)) u b.2 as ∧ h1.objs.size ∉ as) its (xs.zip ps) := er0.mono fun u b ⟨as, z⟩ => ⟨as, PyProof.Rows.Reads.keeps kp2 z, fun hm => by
    obtain ⟨ob, hob⟩ := reads_there z _ hm
    exact absurd (Heap.lt_size (kp _ _ hob)) (Nat.lt_irrefl _)⟩
  have hmap : (xs.zip ps).map (fun b : VP => b.2) = ps := List.map_snd_zip (by omega)
  refine wpAny_bind (wpAny_holding (list_sort_data (R := fun u (b : VP) => RelV b.1 u) hoL (each_zip hpl (each_of_vals rv)) er (by rw [hmap]; exact hal) (by rw [hmap]; exact hk) (by rw [List.length_zip]; omega) (fun b hb => ?_) fun out hol hout => ?_))
  · have hb2 : b.2 ∈ ps := by rw [← hmap]; exact List.mem_map.mpr ⟨b, hb, rfl⟩
    have := hdep _ hb2
    show X.A.in1.units + 1 + b.2.depth < cLine
    have : X.A.in1.units ≤ X.A.units + 1 := Nat.le_refl _
    omega
  · have ho2 : (h1.push (seqObj "list" its.toArray 0)).get? h1.objs.size = some (seqObj "list" its.toArray 0) := hoL
    obtain ⟨ep, hat⟩ := sortedHeap_at (vs := its) (out := out.toArray) ho2
    have kp3 : ∀ b u, h1.get? b = some u → (sortedHeap (h1.push (seqObj "list" its.toArray 0)) h1.objs.size its out.toArray).get? b = some u := fun b u e1 => by
      rw [sortedHeap_old (Nat.ne_of_lt (Heap.lt_size e1)) (Heap.lt_size (Heap.get?_push_of_some _ e1))]
      exact Heap.get?_push_of_some _ e1
    have vv : Vals (((xs.zip ps).mergeSort (dataLe false (fun b : VP => b.2))).map (·.1)) out := by
      have : ∀ {us : List Value} {bs : List VP}, EachIs (fun u (b : VP) => RelV b.1 u) us bs → Vals (bs.map (·.1)) us := by
        intro us bs he
        induction he with
        | nil => exact .nil
        | cons a r ih => exact .cons a ih
      exact this hout
    have hlz : ((((xs.zip ps).mergeSort (dataLe false (fun b : VP => b.2))).map (·.1))).length ≤ sizeLine := by
      rw [vv.length, hol, List.length_zip]
      omega
    exact wpAny_pure ⟨_, rfl, ⟨.ref _, upd H h1.objs.size (.lst _), I1.laid (t' := s.toks) kp3 (Nat.le_refl _) ⟨hlz, out, ep, vv, hat⟩, rfl, q _ (I1.hok.fresh (Nat.le_refl _))⟩⟩
end
end DL

end

section
set_option Elab.async false
set_option linter.all false
set_option maxRecDepth 100000
set_option maxHeartbeats 2000000
/-! DSp: sorted as a function of data (insertion). -/
namespace DL
open PySem L2
section
variable {α : Type}
def insB (le : α → α → Bool) (x : α) : List α → List α
  | [] => [x]
  | y :: r => if le x y = true then x :: y :: r else y :: insB le x r
def isort (le : α → α → Bool) : List α → List α
  | [] => []
  | x :: r => insB le x (isort le r)
variable {le : α → α → Bool}
theorem mem_insB {x z : α} : ∀ {l : List α}, z ∈ insB le x l ↔ z = x ∨ z ∈ l
  | [] => by simp [insB]
  | y :: r => by
    unfold insB
    split
    · simp
    · simp only [List.mem_cons, mem_insB]
      constructor
      · rintro (h | h | h)
        · exact .inr (.inl h)
        · exact .inl h
        · exact .inr (.inr h)
      · rintro (h | h | h)
        · exact .inr (.inl h)
        · exact .inl h
        · exact .inr (.inr h)
theorem mem_isort {z : α} : ∀ {l : List α}, z ∈ isort le l ↔ z ∈ l
  | [] => Iff.rfl
  | x :: r => by
    unfold isort
    rw [mem_insB, mem_isort, List.mem_cons]
theorem insB_length (x : α) : ∀ l : List α, (insB le x l).length = l.length + 1
  | [] => rfl
  | y :: r => by
    unfold insB
    split
    · simp
    · simp [insB_length x r]
theorem isort_length : ∀ l : List α, (isort le l).length = l.length
  | [] => rfl
  | x :: r => by unfold isort; rw [insB_length, isort_length r]; rfl
theorem insB_pw (h : PySem.W.TotalLe le) (x : α) : ∀ {l : List α}, l.Pairwise (fun a b => le a b = true) → (insB le x l).Pairwise (fun a b => le a b = true)
  | [], _ => List.pairwise_singleton _ _
  | y :: r, hp => by
    unfold insB
    obtain ⟨h1, h2⟩ := List.pairwise_cons.mp hp
    split
    · rename_i hxy
      refine List.pairwise_cons.mpr ⟨fun z hz => ?_, hp⟩
      rcases List.mem_cons.mp hz with rfl | hz
      · exact hxy
      · exact h.trans _ _ _ hxy (h1 z hz)
    · rename_i hxy
      refine List.pairwise_cons.mpr ⟨fun z hz => ?_, insB_pw h x h2⟩
      rcases mem_insB.mp hz with rfl | hz
      · exact (h.total y z).resolve_right hxy
      · exact h1 z hz
theorem insB_st (h : PySem.W.TotalLe le) (c x : α) : ∀ {l : List α}, l.Pairwise (fun a b => le a b = true) → (insB le x l).filter (PySem.W.sameRank le c) = (x :: l).filter (PySem.W.sameRank le c)
  | [], _ => rfl
  | y :: r, hp => by
    unfold insB
    split
    · rfl
    · rename_i hxy
      have ih := insB_st h c x (List.pairwise_cons.mp hp).2
      have hn : ¬ (PySem.W.sameRank le c x = true ∧ PySem.W.sameRank le c y = true) := by
        rintro ⟨q1, q2⟩
        unfold PySem.W.sameRank at q1 q2
        rw [Bool.and_eq_true] at q1 q2
        exact hxy (h.trans _ _ _ q1.2 q2.1)
      rw [List.filter_cons, ih, List.filter_cons, List.filter_cons, List.filter_cons]
      by_cases q1 : PySem.W.sameRank le c x = true
      · by_cases q2 : PySem.W.sameRank le c y = true
        · exact absurd ⟨q1, q2⟩ hn
        · simp [q1, q2]
      · simp [q1]
theorem isort_pw (h : PySem.W.TotalLe le) : ∀ l : List α, (isort le l).Pairwise (fun a b => le a b = true)
  | [] => .nil
  | x :: r => insB_pw h x (isort_pw h r)
theorem isort_eq (h : PySem.W.TotalLe le) (l : List α) : isort le l = l.mergeSort le := by
  refine PySem.W.sort_unique h (isort_pw h l) fun c => ?_
  induction l with
  | nil => rfl
  | cons x r ih =>
    show (insB le x (isort le r)).filter _ = _
    rw [insB_st h c x (isort_pw h r), List.filter_cons, List.filter_cons, ih]
end
def encD (d : D) : PyData := (toPy d).getD .none
/-- x ≤ y, of alike data -/
def leD (x y : D) : Bool := !PySem.W.dataLt (encD y) (encD x)
theorem leD_eq : PySem.W.dataLe false encD = leD := rfl
theorem leD_total : PySem.W.TotalLe leD := by
  rw [← leD_eq]
  exact PySem.W.sortLe_total _ _ _
def tup1 : PyData → Bool
  | .tuple (_ :: _) => true
  | _ => false
def plainP : PyData → Bool
  | .none => false
  | .tuple _ => false
  | _ => true
def okSort (ps : List PyData) : Bool := (small ps.length && ps.all fun p => ps.all fun q => PySem.W.alike p q) && ((ps.all tup1 || ps.all plainP) && ps.all fun p => Nat.ble p.depth 60)
def gSort : List D → Option (List D)
  | [x] => (match itemsD x with
    | some ds => (match toPyA ds with
      | some ps => if okSort ps = true then some (isort leD ds) else none
      | none => none)
    | none => none)
  | _ => none
theorem toPyA_map : ∀ {ds : List D} {ps : List PyData}, toPyA ds = some ps → ps = ds.map encD ∧ ∀ d ∈ ds, toPy d = some (encD d)
  | [], _, e => by cases e; exact ⟨rfl, fun _ h => nomatch h⟩
  | d :: r, ps, e => by
    unfold toPyA at e
    split at e
    · rename_i p qs h1 h2
      cases e
      obtain ⟨e1, e2⟩ := toPyA_map h2
      have hp : encD d = p := by unfold encD; rw [h1]; rfl
      refine ⟨by rw [e1, List.map_cons, hp], fun z hz => ?_⟩
      rcases List.mem_cons.mp hz with rfl | hz
      · rw [hp]; exact h1
      · exact e2 z hz
    · cases e
section
variable {K : Frag} {H : Hp}
theorem rpa_zip : ∀ {ds : List D} {vs : List V}, RpA K H ds vs → ∀ p ∈ vs.zip ds, Rp K H p.2 p.1
  | _, _, .nil, p, hp => nomatch hp
  | _, _, .cons a r, p, hp => by
    rcases List.mem_cons.mp hp with rfl | hp
    · exact a
    · exact rpa_zip r p hp
theorem rpa_of : ∀ {l : List (V × D)}, (∀ p ∈ l, Rp K H p.2 p.1) → RpA K H (l.map (·.2)) (l.map (·.1))
  | [], _ => .nil
  | p :: r, h => .cons (h p List.mem_cons_self) (rpa_of fun q hq => h q (List.mem_cons_of_mem _ hq))
theorem rpa_sorted {ds : List D} {vs : List V} {ps : List PyData} (r : RpA K H ds vs) (hp : ps = ds.map encD) : RpA K H (isort leD ds) (((vs.zip ps).mergeSort (PySem.W.dataLe false (fun b : VP => b.2))).map (·.1)) := by
  have hl := r.length
  have e1 : ((vs.zip ds).mergeSort (fun p q => leD p.2 q.2)).map (·.2) = ds.mergeSort leD := by
    rw [PySem.W.sort_maps (s := leD) (fun p : V × D => p.2) (fun _ _ _ _ => rfl), List.map_snd_zip (by omega)]
  have e2 : vs.zip ps = (vs.zip ds).map fun p : V × D => ((p.1, encD p.2) : VP) := by
    rw [hp]
    have : ∀ (vs : List V) (ds : List D), vs.zip (ds.map encD) = (vs.zip ds).map fun p : V × D => ((p.1, encD p.2) : VP) := by
      intro vs
      induction vs with
      | nil => intro ds; rfl
      | cons v r ih =>
        intro ds
        cases ds with
        | nil => rfl
        | cons d ds => simp [ih]
    exact this vs ds
  have e3 : ((vs.zip ds).mergeSort (fun p q => leD p.2 q.2)).map (fun p : V × D => ((p.1, encD p.2) : VP)) = (vs.zip ps).mergeSort (PySem.W.dataLe false (fun b : VP => b.2)) := by
    rw [e2]
    exact PySem.W.sort_maps (s := PySem.W.dataLe false (fun b : VP => b.2)) (fun p : V × D => ((p.1, encD p.2) : VP)) (fun _ _ _ _ => rfl)
  rw [isort_eq leD_total, ← e1, ← e3, List.map_map]
  exact rpa_of fun p hp => rpa_zip r p (List.mem_mergeSort.mp hp)
end
section
variable {X : Cx} {W : WX} {k : Nat} {e : Expr} {es : List Expr} {fs : Ev → Rs (List D)} {pos p : Pos}
theorem okSort_ok {ps : List PyData} (h : okSort ps = true) : ps.length ≤ 1000 ∧ PySem.W.AllAlike ps ∧ PySem.W.Sortable ps ∧ ∀ d ∈ ps, d.depth ≤ 60 := by
  unfold okSort at h
  simp only [Bool.and_eq_true, Bool.or_eq_true, List.all_eq_true] at h
  obtain ⟨⟨h1, h2⟩, h3, h4⟩ := h
  refine ⟨small_le h1, fun d hd d' hd' => h2 d hd d' hd', ?_, fun d hd => Nat.le_of_ble_eq_true (h4 d hd)⟩
  rcases h3 with h3 | h3
  · refine .inl fun d hd => ?_
    have := h3 d hd
    unfold tup1 at this
    split at this
    · exact ⟨_, _, rfl⟩
    · cases this
  · refine .inr fun d hd => ?_
    have := h3 d hd
    refine ⟨fun z => ?_, fun xs z => ?_⟩ <;> (subst z; cases this)
theorem df_sorted {x : Str} (B : Bd X W k) (hm : X.mg x = none) (hb : bootBuiltins x = some (.builtin "sorted")) (ha : DA X W (e :: es) fs) (hg : Gl X x := by rfl) (hn : x ≠ "__name__" := by decide) (hdb : (x == ("__debug__" : Str)) = false := by decide)
    (he : starEach (e :: es) X.env = (false, eval e X.env) :: starEach es X.env := by rfl) (hpl : (backTo pos (starEach es X.env)).any (·.1) = false := by rfl) : DF X W (.Call (.Name x p) (e :: es) [] pos) (fNewL gSort fs) := by
  refine pe_mono (pe_callB (cr_sortedAny (Room.u64 B.hr)) hg hm hb ha hn hdb he hpl) fun σ H Q q => ?_
  obtain ⟨E, H0, env, S, q⟩ := q
  refine WP.bind S q fun e1 xs vs H1 H' S1 s1 r1 q1 => ?_
  cases h : gSort xs with
  | none => rw [h] at q1; exact (show False from q1).elim
  | some ds =>
    rw [h] at q1
    unfold gSort at h
    split at h
    · obtain ⟨v, rfl, rv⟩ := rpa1 r1
      split at h
      · rename_i ds0 hi
        split at h
        · rename_i ps hp
          split at h
          · rename_i hok
            cases h
            obtain ⟨p, us, rfl, hs, r⟩ := items_rp rv hi
            obtain ⟨k1, k2, k3, k4⟩ := okSort_ok hok
            obtain ⟨ep, _⟩ := toPyA_map hp
            refine ⟨p, us, ps, rfl, hs.elim (fun z => .inl (S1.s1.seq z)) (fun z => .inr (sqT_mono S1.s1 z)), dpA_of (r.mono S1.s1) hp, k2, k3, k4, fun l n => ?_⟩
            obtain ⟨S3, r3⟩ := S1.laid (rpa_sorted r ep) n
            exact q1 _ H1 _ (Same.refl _) S3 r3
          · cases h
        · cases h
      · cases h
    · cases h
end
end DL

end

section
set_option Elab.async false
set_option linter.all false
set_option maxRecDepth 100000
set_option maxHeartbeats 2000000
/-! DCa: how a call's values come to a def's parameters, where a star or keywords are among them. -/
namespace DL
open PySem PySem.Spec PyProof.Rows L2
/-- t looks the names up in the dict at d, one behind another, and goes on as r -/
def KwTo {α : Type} (d : Addr) : List (Str × Value) → Sem α → Sem α → Prop
  | [], t, r => t = r
  | q :: l, t, r => ∃ (β γ : Type) (k1 : Option Value → Sem β) (k2 : β → Sem γ) (k3 : γ → Sem α) (a : β), (t = ((nsGet d q.1 >>= k1) >>= k2) >>= k3) ∧ k1 (some q.2) = pure a ∧ KwTo d l (k2 a >>= k3) r
theorem KwTo.run {α : Type} {K : Frag} {M : Model} {A : Around} {d : Addr} {Q : α → Shared → Prop} {E : Value → Shared → Prop} {s : Shared} (X : K.In s.heap) : ∀ {l : List (Str × Value)} {t r : Sem α}, (∀ q ∈ l, PySem.W.nsIn K d q.1 = some (some q.2)) → KwTo d l t r → wpAny M A r Q E s → wpAny M A t Q E s
  | [], t, r, _, e, h => by
    have e : t = r := e
    rw [e]
    exact h
  | q :: l, t, r, hl, e, h => by
    obtain ⟨β, γ, k1, k2, k3, a, e1, e2, e3⟩ := e
    have l1 : PySem.W.Looks M s.heap (nsGet d q.1 >>= k1) a := (PySem.W.looks_nsIn X (hl q List.mem_cons_self)).andThen (PySem.W.Looks.of_pure e2)
    rw [e1, bind_assoc]
    exact wpAny_bind (l1.here (KwTo.run X (fun p hp => hl p (List.mem_cons_of_mem _ hp)) e3 h))
/-- f(us, .., *rest, k = w, ..): the n values us, the keywords ks with the values ws; g tells the parameters ahead of the star's, in their order -/
structure SBn (K : Frag) (fd : FuncData) (ps : List Str) (pv : Str) (n : Nat) (ks : List Str) (g : List Value → List Value → List Value) (gV : List V → List V → List V) : Prop where
  to : ∀ (M : Model) (A : Around) (Q : List (Str × Value) → Shared → Prop) (E : Value → Shared → Prop) (s : Shared) (us rest ws : List Value), K.In s.heap → us.length = n → ws.length = ks.length → wpAny M A (newTuple rest >>= fun t => pure (ps.zip (g us ws) ++ [(pv, t)])) Q E s → wpAny M A (bindArgs fd ⟨us ++ rest, ks.zip ws⟩) Q E s
  rel : ∀ {vs : List V} {us : List Value} {zs : List V} {ws : List Value}, Vals vs us → Vals zs ws → us.length = n → ws.length = ks.length → Vals (gV vs zs) (g us ws) ∧ (gV vs zs).length = ps.length
section
variable {P : Program} {w : World} {K : Frag} {mg : Str → Option Value} {base : Heap} {x qual : Str} {params : Arguments} {body : List Stmt} {scope : Scope} {dvs : List V} {kws : List (Str × V)} {f : Addr} {fd : FuncData} {N ps ks : List Str} {pv : Str} {k n : Nat} {g : List Value → List Value → List Value} {gV : List V → List V → List V} {CX : CXT} {sp : Sp}
/-- a def with a star parameter: what a call of it does, however its values come -/
def FnS (P : Program) (w : World) (K : Frag) (mg : Str → Option Value) (base : Heap) (CX : CXT) (k : Nat) (f : Addr) (n : Nat) (ks : List Str) (gV : List V → List V → List V) (sp : Sp) : Prop :=
  ∀ (A : Around) (outer : List Env) (s : Shared) (H : Hp) (us rest ws : List Value) (vs rv zs : List V) (Q : VK) (E : XK), Room k A → Env0 P w K mg base A outer s H → Vals vs us → Vals rv rest → Vals zs ws → vs.length = n → zs.length = ks.length → rv.length ≤ sizeLine →
    (∀ p, H p = none → sp (gV vs zs ++ [V.ref p]) (upd H p (.tup rv)) Q E) → codeAny (model P w) A (.call (.ref f) ⟨us ++ rest, ks.zip ws⟩) (CR CX outer P w H s Q E) s
theorem fnS_of (F : FunD K x qual params body scope dvs kws f fd) (S : FnScope N (ps ++ [pv]) scope) (hCX : StX.CXUp CX) (B : SBn K fd ps pv n ks g gV)
    (hbody : ∀ (cdv : Value) (A : Around) (outer : List Env) (s : Shared) (H : Hp) (vs : List V) (Q : VK) (E : XK), Room k (A.deeper (envOfC qual scope s.heap.objs.size f cdv)) → sp vs H Q E →
      ∃ t, PSs (cxOf CX P w K mg base N qual scope f cdv A outer s H E) body t ∧ t { nx := fun _ H' => Q .non H', rt := Q } (L2.start N vs) H) :
    FnS P w K mg base CX (k + 1) f n ks gV sp := by
  intro A outer s H us rest ws vs rv zs Q E hr e0 r1 r2 r3 l1 l3 hz hq
  obtain ⟨oc, od, dV, kV, doc, pm, an, cdv, ct, osl, rfl, lk, hcd, _, _⟩ := F.ex
  have KX : K.In s.heap := e0.mod.kin.keeps fun b o e => (e0.bs b o e).1
  have hn : H s.heap.objs.size = none := e0.hok.fresh (Nat.le_refl _)
  have l1' : us.length = n := r1.length.symm.trans l1
  have l3' : ws.length = ks.length := r3.length.symm.trans l3
  obtain ⟨rg, lg⟩ := B.rel r1 r3 l1' l3'
  have l2 : rest.length ≤ sizeLine := by rw [← r2.length]; exact hz
  refine StX.run_bnd lk hcd S hr e0 (G := fun xs H2 => ∃ p, H p = none ∧ xs = gV vs zs ++ [V.ref p] ∧ H2 = upd H p (.tup rv)) (fun A' Ex Q' h => ?_) fun s2 H2 xs hx hr' => ?_
  · refine B.to _ _ _ _ _ us rest ws KX l1' l3' (wpAny_bind (wpAny_newTuple (wpAny_pure ?_) l2))
    have new : ObjOk P w (upd H s.heap.objs.size (.tup rv)) (s.heap.push ({ cls := .type "tuple", data := .seq rest.toArray } : Obj)) s.heap.objs.size (.tup rv) := ⟨hz, rest, r2, ⟨_, Heap.get?_push_size _ rfl, rfl, _, rfl⟩⟩
    have un := StX.un_laid (fs := frs outer) (s := s) (o := ({ cls := .type "tuple", data := .seq rest.toArray } : Obj)) (u := .tup rv) hn
    have z := h _ _ (gV vs zs ++ [V.ref s.heap.objs.size]) (g us ws ++ [Value.ref s.heap.objs.size]) (StX.env0_laid e0 new) un rfl (fun e s' => hCX outer s H _ _ E e s' un (fun b o q => Heap.get?_push_of_some _ q) rfl) (rg.append (.cons rfl .nil)) (by simp [lg]) ⟨_, hn, rfl, rfl⟩
    have hzip : (ps ++ [pv]).zip (g us ws ++ [Value.ref s.heap.objs.size]) = ps.zip (g us ws) ++ [(pv, Value.ref s.heap.objs.size)] := by
      rw [List.zip_append (by rw [← rg.length, lg])]
      rfl
    rw [hzip] at z
    exact z
  · obtain ⟨p, hp, rfl, rfl⟩ := hx
    exact hbody cdv A outer s2 _ _ Q E hr' (hq p hp)
end
end DL

end

section
set_option Elab.async false
set_option linter.all false
set_option maxRecDepth 100000
set_option maxHeartbeats 2000000
/-! DCb: a def with a parameter of keywords: the dict that a call makes. -/
namespace DL
open PySem PySem.Spec PyProof.Rows L2
section
variable {prog : Program} {w : World} {A : Around} {E : Value → Shared → Prop} {s : Shared}
theorem pairs_snoc {es : List DictEntry} {kvs : List (Key × Value)} {e : DictEntry} {k : Key} {v : Value} (h : Pairs (mixKind prog w) es kvs) (h1 : keyIs k e.key = true) (h2 : e.val = v) : Pairs (mixKind prog w) (es ++ [e]) (kvs ++ [(k, v)]) := by
  induction h with
  | nil => exact .cons h1 h2 .nil
  | cons a b _ ih => exact .cons a b ih
theorem pairs_mem {es : List DictEntry} {kvs : List (Key × Value)} (h : Pairs (mixKind prog w) es kvs) : ∀ e ∈ es, ∃ kv ∈ kvs, keyIs kv.1 e.key = true := by
  induction h with
  | nil => exact fun _ h => nomatch h
  | cons a b _ ih =>
    intro e he
    rcases List.mem_cons.mp he with rfl | he
    · exact ⟨_, List.mem_cons_self, a⟩
    · obtain ⟨kv, h1, h2⟩ := ih e he
      exact ⟨kv, List.mem_cons_of_mem _ h1, h2⟩
/-- a new name in a dict of ints and texts -/
theorem nsSet_dk {a : Addr} {name : Str} {v : Value} {kvs : List (Key × Value)} {Q : Unit → Shared → Prop} (hd : s.heap.DictOf (mixKind prog w) a kvs) (hn : ∀ kv ∈ kvs, kv.1 ≠ .inr name)
    (hq : ∀ h', h'.DictOf (mixKind prog w) a (kvs ++ [(.inr name, v)]) → Heap.SameBut a s.heap h' → Q () { s with heap := h', toks := s.toks + 1 }) : wpAny (model prog w) A (nsSet a name v) Q E s := by
  obtain ⟨o, es, ep, ho, hx, ed, hk, hp, hnd⟩ := hd
  have hno : ∀ e ∈ es, e.key.isStr name = false := fun e he => by
    obtain ⟨kv, h1, h2⟩ := pairs_mem hp e (by simpa using he)
    rcases keyIs_shape h2 with ⟨i, t, h3, h4⟩ | ⟨x, t, h3, h4⟩
    · rw [h4]; rfl
    · rw [h4]
      have hne : x ≠ name := fun z => hn kv h1 (by rw [h3, z])
      show (x == name) = false
      exact beq_eq_false_iff_ne.mpr hne
  have hrk : es.any (·.refKey) = false := by
    rw [Array.any_eq_false']
    intro e he
    obtain ⟨kv, _, h2⟩ := pairs_mem hp e (by simpa using he)
    rcases keyIs_shape h2 with ⟨i, t, _, h4⟩ | ⟨x, t, _, h4⟩ <;> simp [DictEntry.refKey, h4]
  have hfi : es.findIdx? (·.key.isStr name) = none := by
    rw [Array.findIdx?_eq_none_iff]
    exact fun e he => hno e he
  unfold nsSet strHash
  refine wpAny_bind (wpAny_bind (wpAny_askSetting (wpAny_pure (wpAny_bind (wpAny_mkText ?_)))))
  refine wpAny_bind (wpAny_loadPart (o := o) ho ?_)
  rw [ed]
  dsimp only
  have hmay : aRefKeyMayBeTheName name es = false := by
    rw [aRefKeyMayBeTheName_at, hrk, Bool.and_false]
  rw [hmay]
  refine wpAny_updatePart (o := o) ho (hq _ ?_ (Heap.SameBut.update ..))
  obtain ⟨c, dd, dt, sl⟩ := o
  dsimp only at ed
  subst ed
  refine ⟨_, es.push ⟨hashStr w name, .str name s.toks, v⟩, ep + 1, Heap.get?_update_self _ ho (by simp only [Obj.putName_eq, Obj.putNameByArray, hfi]; rfl), ?_, by simp only [Obj.putName_eq, Obj.putNameByArray, hfi]; rfl, ?_, ?_, ?_⟩
  · simp only [Obj.putName_eq, Obj.putNameByArray, hfi]
    exact hx
  · intro e he
    rcases Array.mem_push.mp he with he | rfl
    · exact hk e he
    · exact ⟨.inr name, keyIs_str name s.toks, rfl⟩
  · rw [Array.toList_push]
    exact pairs_snoc hp (keyIs_str name s.toks) rfl
  · rw [List.map_append]
    refine List.nodup_append.mpr ⟨hnd, by simp, fun x hx y hy => ?_⟩
    obtain ⟨kv, h1, rfl⟩ := List.mem_map.mp hx
    simp only [List.map_cons, List.map_nil, List.mem_singleton] at hy
    subst hy
    exact hn kv h1
/-- the keywords laid into the dict, one behind another -/
def kwFill (q : Addr) (l : List (Str × Value)) : Sem PUnit := forIn (m := Sem) l PUnit.unit fun x _ => nsSet q x.1 x.2 >>= fun _ => pure (ForInStep.yield PUnit.unit)
def keyed (l : List (Str × Value)) : List (Key × Value) := l.map fun p => ((.inr p.1 : Key), p.2)
theorem kwFill_ok {q : Addr} : ∀ (l : List (Str × Value)) (kvs : List (Key × Value)) (s : Shared) (Q : PUnit → Shared → Prop), s.heap.DictOf (mixKind prog w) q kvs → (l.map (·.1)).Nodup → (∀ p ∈ l, ∀ kv ∈ kvs, kv.1 ≠ .inr p.1) →
    (∀ h' tk, h'.DictOf (mixKind prog w) q (kvs ++ keyed l) → Heap.SameBut q s.heap h' → Q PUnit.unit { s with heap := h', toks := tk }) → wpAny (model prog w) A (kwFill q l) Q E s
  | [], kvs, s, Q, hd, _, _, h => by
    refine wpAny_pure ?_
    have := h s.heap s.toks (by simpa [keyed] using hd) (Heap.SameBut.refl _ _)
    exact this
  | p :: l, kvs, s, Q, hd, hn, hne, h => by
    show wpAny _ _ (forIn (p :: l) PUnit.unit fun x _ => nsSet q x.1 x.2 >>= fun _ => pure (ForInStep.yield PUnit.unit)) _ _ _
    rw [List.forIn_cons]
    refine wpAny_bind (wpAny_bind (nsSet_dk hd (fun kv hkv => hne p List.mem_cons_self kv hkv) fun h' hd' hs => wpAny_pure ?_))
    obtain ⟨hn1, hn2⟩ := List.nodup_cons.mp (show (p.1 :: l.map (·.1)).Nodup from hn)
    refine kwFill_ok l (kvs ++ [(.inr p.1, p.2)]) { s with heap := h', toks := s.toks + 1 } Q hd' hn2 (fun z hz kv hkv => ?_) fun h2 tk hd2 hs2 => ?_
    · rcases List.mem_append.mp hkv with hkv | hkv
      · exact hne z (List.mem_cons_of_mem _ hz) kv hkv
      · cases List.mem_singleton.mp hkv
        intro e
        exact hn1 (List.mem_map.mpr ⟨z, hz, by simpa using e.symm⟩)
    · refine h h2 tk ?_ (hs.trans hs2)
      have : kvs ++ keyed (p :: l) = kvs ++ [(.inr p.1, p.2)] ++ keyed l := by simp [keyed]
      rw [this]
      exact hd2
end
theorem kv_zip : ∀ {ks : List Str} {zs : List V} {ws : List Value}, Vals zs ws → KV ((ks.map fun x => (.inr x : Key)).zip zs) (keyed (ks.zip ws))
  | [], _, _, _ => .nil
  | _ :: _, _, _, .nil => .nil
  | k :: ks, _, _, .cons a r => .cons ⟨rfl, a⟩ (kv_zip r)
section
variable {P : Program} {w : World} {K : Frag} {mg : Str → Option Value} {base : Heap} {x qual : Str} {params : Arguments} {body : List Stmt} {scope : Scope} {dvs : List V} {kws : List (Str × V)} {f : Addr} {fd : FuncData} {N ps ks : List Str} {pd : Str} {k n : Nat} {CX : CXT} {sp : Sp}
def FnW (P : Program) (w : World) (K : Frag) (mg : Str → Option Value) (base : Heap) (CX : CXT) (k : Nat) (f : Addr) (n : Nat) (ks : List Str) (sp : Sp) : Prop :=
  ∀ (A : Around) (outer : List Env) (s : Shared) (H : Hp) (us ws : List Value) (vs zs : List V) (Q : VK) (E : XK), Room k A → Env0 P w K mg base A outer s H → Vals vs us → Vals zs ws → vs.length = n → zs.length = ks.length →
    (∀ p, H p = none → sp (vs ++ [V.ref p]) (upd H p (.dK ((ks.map fun x => (.inr x : Key)).zip zs))) Q E) → codeAny (model P w) A (.call (.ref f) ⟨us, ks.zip ws⟩) (CR CX outer P w H s Q E) s
theorem fnW_of (F : FunD K x qual params body scope dvs kws f fd) (S : FnScope N (ps ++ [pd]) scope) (hCX : StX.CXUp CX) (hks : ks.Nodup) (hkl : ks.length ≤ 1000) (hpn : ps.length = n)
    (hb : ∀ us ws : List Value, us.length = n → ws.length = ks.length → bindArgs fd ⟨us, ks.zip ws⟩ = ((alloc ({ cls := .type "dict", data := .dict #[] } : Obj) : Sem Addr) >>= fun q => kwFill q (ks.zip ws) >>= fun _ => pure (ps.zip us ++ [(pd, Value.ref q)])))
    (hbody : ∀ (cdv : Value) (A : Around) (outer : List Env) (s : Shared) (H : Hp) (vs : List V) (Q : VK) (E : XK), Room k (A.deeper (envOfC qual scope s.heap.objs.size f cdv)) → sp vs H Q E →
      ∃ t, PSs (cxOf CX P w K mg base N qual scope f cdv A outer s H E) body t ∧ t { nx := fun _ H' => Q .non H', rt := Q } (L2.start N vs) H) :
    FnW P w K mg base CX (k + 1) f n ks sp := by
  intro A outer s H us ws vs zs Q E hr e0 r1 r3 l1 l3 hq
  obtain ⟨oc, od, dV, kV, doc, pm, an, cdv, ct, osl, rfl, lk, hcd, _, _⟩ := F.ex
  have hn : H s.heap.objs.size = none := e0.hok.fresh (Nat.le_refl _)
  have l1' : us.length = n := r1.length.symm.trans l1
  have l3' : ws.length = ks.length := r3.length.symm.trans l3
  refine StX.run_bnd lk hcd S hr e0 (G := fun xs H2 => ∃ p, H p = none ∧ xs = vs ++ [V.ref p] ∧ H2 = upd H p (.dK ((ks.map fun x => (.inr x : Key)).zip zs))) (fun A' Ex Q' h => ?_) fun s2 H2 xs hx hr' => ?_
  · rw [hb us ws l1' l3']
    refine wpAny_bind (wpAny_alloc (wpAny_bind ?_))
    have hk0 : (s.heap.push ({ cls := .type "dict", data := .dict #[] } : Obj)).DictOf (mixKind P w) s.heap.objs.size [] := Heap.DictOf.new _
    have hmap : (ks.zip ws).map (·.1) = ks := List.map_fst_zip (by omega)
    refine kwFill_ok (ks.zip ws) [] { s with heap := s.heap.push ({ cls := .type "dict", data := .dict #[] } : Obj) } _ hk0 (by rw [hmap]; exact hks) (fun _ _ _ h => nomatch h) fun h' tk hd' hs' => wpAny_pure ?_
    rw [List.nil_append] at hd'
    have big : sysModules < s.heap.objs.size := StX.env0_big e0
    have kp : ∀ b o, s.heap.get? b = some o → h'.get? b = some o := fun b o e => by
      rw [hs'.2 b (Nat.ne_of_lt (Heap.lt_size e))]
      exact Heap.get?_push_of_some _ e
    have hlen : ((ks.map fun x => (.inr x : Key)).zip zs).length ≤ sizeLine := by
      rw [List.length_zip, List.length_map, sizeLine_eq]
      omega
    have new : ObjOk P w (upd H s.heap.objs.size (.dK ((ks.map fun x => (.inr x : Key)).zip zs))) h' s.heap.objs.size (.dK ((ks.map fun x => (.inr x : Key)).zip zs)) := ⟨hlen, beq_eq_false_iff_ne.mpr (Ne.symm (Nat.ne_of_lt big)), _, kv_zip r3, hd'⟩
    have un : Un (frs outer) [] H (upd H s.heap.objs.size (.dK ((ks.map fun x => (.inr x : Key)).zip zs))) s.heap h' := Un.laid kp (Nat.le_refl _) hn
    have hsz : s.heap.objs.size ≤ h'.objs.size := by
      rw [hs'.1]
      show s.heap.objs.size ≤ (s.heap.push _).objs.size
      rw [Heap.size_push]
      exact Nat.le_succ _
    have e2 : Env0 P w K mg base A outer { s with heap := h', toks := tk } (upd H s.heap.objs.size (.dK ((ks.map fun x => (.inr x : Key)).zip zs))) := by
      refine ⟨e0.frames, e0.mod, fun b o e => ⟨kp b o (e0.bs b o e).1, ?_⟩, Nat.le_trans e0.bsz hsz, Heap.FunFrames.of_keeps (fun b o e _ => ⟨o, kp b o e, rfl⟩) e0.funs, fun b hb => ?_, e0.hok.laid kp (Nat.le_refl _) new, e0.bare⟩
      · rw [upd_ne (Nat.ne_of_lt (Heap.lt_size (e0.bs b o e).1))]
        exact (e0.bs b o e).2
      · obtain ⟨_, o, hx, _⟩ := e0.funs.mem hb
        rw [upd_ne (Nat.ne_of_lt (Heap.lt_size hx))]
        exact e0.frf b hb
    have z := h _ _ (vs ++ [V.ref s.heap.objs.size]) (us ++ [Value.ref s.heap.objs.size]) e2 un rfl (fun e s' => hCX outer s H _ _ E e s' un kp rfl) (r1.append (.cons rfl .nil)) (by simp [l1, hpn]) ⟨_, hn, rfl, rfl⟩
    have hzip : (ps ++ [pd]).zip (us ++ [Value.ref s.heap.objs.size]) = ps.zip us ++ [(pd, Value.ref s.heap.objs.size)] := by
      rw [List.zip_append (by rw [hpn, l1'])]
      rfl
    rw [hzip] at z
    exact z
  · obtain ⟨p, hp, rfl, rfl⟩ := hx
    exact hbody cdv A outer s2 _ _ Q E hr' (hq p hp)
end
end DL

end

section
set_option Elab.async false
set_option linter.all false
set_option maxRecDepth 100000
set_option maxHeartbeats 2000000
/-! DCc: calls, however their arguments are written. -/
namespace DL
open PySem PySem.Spec PyProof.Rows L2
/-- what a callee promises: positional values, the keywords' values -/
abbrev SpA := List V → List V → Hp → VK → XK → Prop
def FnA (P : Program) (w : World) (K : Frag) (mg : Str → Option Value) (base : Heap) (k : Nat) (f : Addr) (ks : List Str) (sp : SpA) : Prop :=
  ∀ (A : Around) (outer : List Env) (s : Shared) (H : Hp) (us ws : List Value) (vs zs : List V) (Q : VK) (E : XK), Room k A → Env0 P w K mg base A outer s H → Vals vs us → Vals zs ws → zs.length = ks.length → sp vs zs H Q E →
    codeAny (model P w) A (.call (.ref f) ⟨us, ks.zip ws⟩) (CR (L2.CX P w) outer P w H s Q E) s
section
variable {P : Program} {w : World} {K : Frag} {mg : Str → Option Value} {base : Heap} {k j n : Nat} {f : Addr} {fd : FuncData} {ps ks : List Str} {sp : Sp} {dvs : List V} {ds : List Value} {g : List Value → List Value → List Value} {gV : List V → List V → List V}
theorem FnA.mono {sp : SpA} (F : FnA P w K mg base j f ks sp) (h : j ≤ k) : FnA P w K mg base k f ks sp := fun A outer s H us ws vs zs Q E hr => F A outer s H us ws vs zs Q E (hr.mono h)
theorem env0_kIn {A : Around} {outer : List Env} {s : Shared} {H : Hp} (e0 : Env0 P w K mg base A outer s H) : K.In s.heap := e0.mod.kin.keeps fun b o e => (e0.bs b o e).1
theorem fnA_plain (F : FnOk P w K mg base (L2.CX P w) k f fd ps sp) (hb : Binds K fd ps ds) (hd : Vals dvs ds) : FnA P w K mg base k f [] (fun vs zs H Q E => sp (vs ++ dvs) H Q E) := by
  intro A outer s H us ws vs zs Q E hr e0 r rz hl h
  have r2 : Vals (vs ++ dvs) (us ++ ds) := r.append hd
  have hl : (us ++ ds).length = ps.length := by rw [← r2.length]; exact F.len _ _ _ _ h
  exact F.run A outer s H ⟨us, []⟩ (us ++ ds) (vs ++ dvs) Q E hr e0 (hb s us (env0_kIn e0) hl) r2 h
theorem fnA_kw (F : FnOk P w K mg base (L2.CX P w) k f fd ps sp) (hb : KBn K fd ps n ks g gV) : FnA P w K mg base k f ks (fun vs zs H Q E => vs.length = n ∧ sp (gV vs zs) H Q E) := by
  intro A outer s H us ws vs zs Q E hr e0 r rz hl h
  exact F.run A outer s H ⟨us, ks.zip ws⟩ (g us ws) (gV vs zs) Q E hr e0 (hb.to s us ws (env0_kIn e0) (r.length.symm.trans h.1) (rz.length.symm.trans hl)) (hb.rel r rz) h.2
theorem fnA_star (F : FnS P w K mg base (L2.CX P w) k f n ks gV sp) : FnA P w K mg base k f ks (fun vs zs H Q E => ∃ v1 rv, vs = v1 ++ rv ∧ v1.length = n ∧ rv.length ≤ sizeLine ∧ ∀ p, H p = none → sp (gV v1 zs ++ [V.ref p]) (upd H p (.tup rv)) Q E) := by
  intro A outer s H us ws vs zs Q E hr e0 r rz hl h
  obtain ⟨v1, rv, rfl, h1, h2, h3⟩ := h
  obtain ⟨u1, u2, rfl, r1, r2⟩ := StX.vals_split r
  exact F A outer s H u1 u2 ws v1 rv zs Q E hr e0 r1 r2 rz h1 hl h2 h3
theorem fnA_dict (F : FnW P w K mg base (L2.CX P w) k f n ks sp) : FnA P w K mg base k f ks (fun vs zs H Q E => vs.length = n ∧ ∀ p, H p = none → sp (vs ++ [V.ref p]) (upd H p (.dK ((ks.map fun x => (.inr x : Key)).zip zs))) Q E) := by
  intro A outer s H us ws vs zs Q E hr e0 r rz hl h
  exact F A outer s H us ws vs zs Q E hr e0 r rz h.1 hl h.2
end
/-! ### the arguments -/
abbrev TKA := L2.St → Hp → (List V → List V → Hp → Prop) → Prop
structure PArg (X : Cx) (args : List Expr) (kws : List Keyword) (ks : List Str) (t : TKA) : Prop where
  run : ∀ (f : Value) (pos : Pos) (pins : List (Addr × Obj)) (s : Shared) (σ : L2.St) (H : Hp) (R : List V → List V → Hp → Prop), Inv X pins σ H s → t σ H R →
    wpAny (model X.prog X.w) X.A (evalArgs f true (backTo pos (starEach args X.env)) (backToKw pos (keywordEach kws X.env))) (fun a s' => ∃ us ws vs zs H', a = ⟨us, ks.zip ws⟩ ∧ Vals vs us ∧ Vals zs ws ∧ zs.length = ks.length ∧ Inv X pins σ H' s' ∧ R vs zs H') X.xe s
section
variable {X : Cx} {e : Expr} {es : List Expr} {kws : List Keyword} {ks : List Str} {t tk : TA} {te : TE} {p : Pos}
theorem ga_none : PArg X [] [] [] (fun σ H R => R [] [] H) := ⟨fun f pos pins s σ H R I h => evalArgs_empty ⟨[], [], [], [], H, rfl, .nil, .nil, rfl, I, h⟩⟩
theorem ga_plain (ha : PA X (e :: es) t) (he : starEach (e :: es) X.env = (false, eval e X.env) :: starEach es X.env := by rfl) : PArg X (e :: es) [] [] (fun σ H R => t σ H fun vs H1 => R vs [] H1) := by
  refine ⟨fun f pos pins s σ H R I h => ?_⟩
  rw [he]
  refine PySem.Calls.evalArgs_plain ?_
  have z := ha.run pos pins s σ H _ I h
  rw [he] at z
  exact thn z fun us s1 ⟨vs, H1, I1, r, q⟩ => ⟨us, [], vs, [], H1, rfl, r, .nil, rfl, I1, q⟩
theorem ga_kw (ha : PA X (e :: es) t) (hkw : PK X kws tk) (hall : ∀ pos, (backToKw pos (keywordEach kws X.env)).all (·.1.isSome) = true := by intro _; rfl) (hks : ∀ pos, (backToKw pos (keywordEach kws X.env)).filterMap (·.1) = ks := by intro _; rfl) (he : starEach (e :: es) X.env = (false, eval e X.env) :: starEach es X.env := by rfl) :
    PArg X (e :: es) kws ks (fun σ H R => t σ H fun vs H1 => tk σ H1 fun zs H2 => zs.length = ks.length ∧ R vs zs H2) := by
  refine ⟨fun f pos pins s σ H R I h => ?_⟩
  refine evalArgs_kw2 (hall pos) (thn (ha.run pos pins s σ H _ I h) fun us s1 ⟨vs, H1, I1, r, q⟩ => ?_) he
  refine thn (hkw.run pos pins s1 σ H1 _ I1 q) fun ws s2 ⟨zs, H2, I2, rz, l2, q2⟩ => ?_
  rw [hks pos]
  exact ⟨us, ws, vs, zs, H2, rfl, r, rz, l2, I2, q2⟩
theorem ga_kw0 (hkw : PK X kws tk) (hall : ∀ pos, (backToKw pos (keywordEach kws X.env)).all (·.1.isSome) = true := by intro _; rfl) (hks : ∀ pos, (backToKw pos (keywordEach kws X.env)).filterMap (·.1) = ks := by intro _; rfl) :
    PArg X [] kws ks (fun σ H R => tk σ H fun zs H2 => zs.length = ks.length ∧ R [] zs H2) := by
  refine ⟨fun f pos pins s σ H R I h => ?_⟩
  refine evalArgs_kw2_nil (hall pos) (thn (hkw.run pos pins s σ H _ I h) fun ws s2 ⟨zs, H2, I2, rz, l2, q2⟩ => ?_)
  rw [hks pos]
  exact ⟨[], ws, [], zs, H2, rfl, .nil, rz, l2, I2, q2⟩
/-- *e, k = v, ..: e is read last -/
theorem evalArgs_lone {M : Model} {A : Around} {E : Value → Shared → Prop} {s : Shared} {f : Value} {x : Sem Value} {pos : Pos} {keywords : List (Option Str × Sem Value)} {Q : Args → Shared → Prop} (hall : keywords.all (·.1.isSome) = true)
    (h : wpAny M A x (fun v s1 => wpAny M A (evalAll (keywords.map (·.2))) (fun ks s2 => PySem.W.StarOf M A E v (fun vs s3 => Q ⟨vs, (keywords.filterMap (·.1)).zip ks⟩ s3) s2) E s1) E s) :
    wpAny M A (evalArgs f true [(true, (do let v ← x; standAt pos; pure v))] keywords) Q E s := by
  unfold evalArgs
  refine wpAny_bind (wpAny_bind (wpAny_mono h (fun v s1 h1 => wpAny_bind (wpAny_standAt (wpAny_pure ?_))) fun _ _ x => x))
  refine wpAny_bind (wpAny_pure ?_)
  refine wpAny_holding ?_
  simp only [hall, if_true]
  refine wpAny_bind (wpAny_mono h1 (fun ks s2 h2 => ?_) fun _ _ x => x)
  unfold PySem.W.StarOf at h2
  refine wpAny_bind (wpAny_bind (wpAny_mono h2 (fun b s3 h3 => ?_) fun _ _ x => x))
  obtain ⟨rfl, h3⟩ := h3
  simp only [Bool.false_eq_true, if_false]
  exact wpAny_holding (wpAny_mono h3 (fun vs s4 h4 => wpAny_pure h4) fun _ _ x => x)
theorem ga_star (he : PE X e te) (hkw : PK X kws tk) (hall : ∀ pos, (backToKw pos (keywordEach kws X.env)).all (·.1.isSome) = true := by intro _; rfl) (hks : ∀ pos, (backToKw pos (keywordEach kws X.env)).filterMap (·.1) = ks := by intro _; rfl) (hst : starEach [.Starred e p] X.env = [(true, eval e X.env)] := by rfl) :
    PArg X [.Starred e p] kws ks (fun σ H R => te σ H fun y H1 => tk σ H1 fun zs H2 => zs.length = ks.length ∧ ∃ a xs, y = V.ref a ∧ (SqT X.K H2 a xs ∨ SqL X.K H2 a xs) ∧ R xs zs H2) := by
  refine ⟨fun f pos pins s σ H R I h => ?_⟩
  rw [hst]
  refine evalArgs_lone (hall pos) (thn (he.run pins s σ H _ I h) fun v s1 ⟨y, H1, I1, ry, q⟩ => ?_)
  refine thn (hkw.run pos pins s1 σ H1 _ I1 q) fun ws s2 ⟨zs, H2, I2, rz, l2, a, xs, ey, hx, q2⟩ => ?_
  subst ey
  obtain rfl : v = Value.ref a := ry
  rw [hks pos]
  exact StX.star_any I2 hx fun us s3 I3 rv => ⟨us, ws, xs, zs, H2, rfl, rv, rz, l2, I3, q2⟩
end
/-! ### the call -/
theorem callWith_any {M : Model} {A : Around} {E : Value → Shared → Prop} {s : Shared} {f : Value} {first : List Value} {pos : Pos} {Q : Value → Shared → Prop} {P : Heap → Prop} {args : List (Bool × Sem Value)} {keywords : List (Option Str × Sem Value)}
    (hk : ∀ h, P h → ∃ k, (k = Keeper.frame ∨ k = Keeper.machine ∨ k = Keeper.boundFrame) ∧ PySem.W.Looks M h (keeperOf f) k)
    (h : wpAny M A (evalArgs f true args keywords) (fun a s1 => P s1.heap ∧ wpAny M A (call f (first ++ a.pos) a.kw) Q E s1) E s) : wpAny M A (callWith pos f first args keywords) Q E s := by
  unfold callWith
  refine wpAny_bind (wpAny_holding (wpAny_mono h (fun a s1 h1 => wpAny_bind (wpAny_standAt ?_)) fun _ _ x => x))
  obtain ⟨k, hk', L⟩ := hk _ h1.1
  generalize hst : (args.any (·.1) || keywords.any (·.1.isNone)) = st
  refine wpAny_bind (L.here ?_)
  have tail : ∀ {t : Sem Value}, wpAny M A t Q E s1 → wpAny M A (t >>= fun r => holding [r] point >>= fun _ => pure r) Q E s1 := fun ht => wpAny_bind (wpAny_mono ht (fun r s2 hr => wpAny_bind (wpAny_holding (wpAny_point (wpAny_pure hr)))) fun _ _ x => x)
  have marked (mk : Value) : wpAny M A (callMarked mk f (first ++ a.pos) a.kw) Q E s1 := by unfold callMarked; exact PySem.Calls.wpAny_keep h1.2
  cases st <;> rcases hk' with rfl | rfl | rfl <;> dsimp only <;> first | exact tail h1.2 | exact tail (marked _) | exact tail (wpAny_operating h1.2) | (split <;> first | exact tail h1.2 | exact tail (marked _))
section
variable {X : Cx} {k : Nat} {f C : Addr} {ks : List Str} {sp : SpA} {E : L2.St → XK} {x m : Str} {args : List Expr} {kws : List Keyword} {t : TKA} {o : Expr} {ta : TE} {p pos apos : Pos}
theorem run_fnA {pins : List (Addr × Obj)} {σ : L2.St} {H : Hp} {s : Shared} {Q : VK} {us ws : List Value} {vs zs : List V} (F : FnA X.prog X.w X.K X.mg X.base k f ks sp) (hr : Room k X.A) (hx : PassesAt (L2.CX X.prog X.w) X σ (E σ)) (I : Inv X pins σ H s) (r : Vals vs us) (rz : Vals zs ws) (l2 : zs.length = ks.length) (h : sp vs zs H Q (E σ)) :
    wpAny (model X.prog X.w) X.A (call (.ref f) us (ks.zip ws)) (EP X pins σ Q) X.xe s := by
  refine wpAny_call (codeAny_mono (F X.A X.stack s H us ws vs zs Q (E σ) hr I.env0 r rz l2 h) fun r s' hq => ?_)
  cases r with
  | error e => exact hx pins H s e s' I hq
  | ok fl =>
    cases fl with
    | ret u => exact I.after hq
    | next => exact False.elim hq
    | brk => exact False.elim hq
    | cont => exact False.elim hq
/-- f(..), f a def of the module -/
theorem pe_callA (F : FnA X.prog X.w X.K X.mg X.base k f ks sp) (hr : Room k X.A) (hg : Gl X x) (hm : X.mg x = some (.ref f)) (hk : PySem.W.keepIn X.K (.ref f) = true) (hx : ∀ σ, PassesAt (L2.CX X.prog X.w) X σ (E σ)) (ha : PArg X args kws ks t) (hdb : (x == ("__debug__" : Str)) = false := by decide) :
    PE X (.Call (.Name x p) args kws pos) (fun σ H Q => t σ H fun vs zs H1 => sp vs zs H1 Q (E σ)) := by
  refine ⟨fun pins s σ H Q I h => ?_⟩
  refine wpAny_Call_Name_kw (ld_glob I hg hm ?_ hdb)
  refine callWith_any (P := fun h => X.K.In h) (PySem.W.keeps_K hk) (thn (ha.run _ pos pins s σ H _ I h) fun a s1 ⟨us, ws, vs, zs, H1, ea, r, rz, l2, I1, q⟩ => ⟨I1.kIn, ?_⟩)
  subst ea
  exact run_fnA F hr (hx σ) I1 r rz l2 q
/-- what __init__ promises of a new instance -/
def mkSp (C : Addr) (sp : SpA) (vs zs : List V) (H : Hp) (Q : VK) (E : XK) : Prop := ∀ x dx, H x = none → H dx = none → dx ≠ x → sp (.ref x :: vs) zs (upd (upd H dx (.own x)) x (.ins C dx [])) (fun v H2 => v = .non ∧ Q (.ref x) H2) E
theorem run_mkA {pins : List (Addr × Obj)} {σ : L2.St} {H : Hp} {s : Shared} {Q : VK} {us ws : List Value} {vs zs : List V} (M : Mk X.K C f) (F : FnA X.prog X.w X.K X.mg X.base k f ks sp) (hr : Room (k + 1) X.A) (hx : PassesAt (L2.CX X.prog X.w) X σ (E σ)) (I : Inv X pins σ H s) (r : Vals vs us) (rz : Vals zs ws) (l2 : zs.length = ks.length)
    (h : mkSp C sp vs zs H Q (E σ)) : wpAny (model X.prog X.w) X.A (call (.ref C) us (ks.zip ws)) (EP X pins σ Q) X.xe s := by
  have hq := h (s.heap.objs.size + 1) s.heap.objs.size (I.hok.fresh (Nat.le_succ _)) (I.hok.fresh (Nat.le_refl _)) (Nat.ne_of_lt (Nat.lt_succ_self _))
  have J := Inv.made (C := C) I
  have r1 : Vals (V.ref (s.heap.objs.size + 1) :: vs) (Value.ref (s.heap.objs.size + 1) :: us) := .cons rfl r
  have z := F _ X.stack _ _ _ ws _ zs _ (E σ) (hr.make C us (ks.zip ws)) (J.env0.make C us (ks.zip ws)) r1 rz l2 hq
  refine wpAny_call (make_map (f := f) I.kIn M.makes M.init (beq_iff_eq.mp M.fn) (codeAny_mono z fun q s' hq' => ?_))
  cases q with
  | error e => exact hx pins _ _ e s' J hq'
  | ok fl =>
    cases fl with
    | ret u =>
      obtain ⟨v, H', J3, rv, rfl, q3⟩ := J.after hq'
      exact ⟨rv, ⟨V.ref (s.heap.objs.size + 1), H', J3, rfl, q3⟩⟩
    | next => exact False.elim hq'
    | brk => exact False.elim hq'
    | cont => exact False.elim hq'
/-- C(..), C a class of the module -/
theorem pe_mkA (M : Mk X.K C f) (F : FnA X.prog X.w X.K X.mg X.base k f ks sp) (hr : Room (k + 1) X.A) (hg : Gl X x) (hm : X.mg x = some (.ref C)) (hx : ∀ σ, PassesAt (L2.CX X.prog X.w) X σ (E σ)) (ha : PArg X args kws ks t) (hdb : (x == ("__debug__" : Str)) = false := by decide) :
    PE X (.Call (.Name x p) args kws pos) (fun σ H Q => t σ H fun vs zs H1 => mkSp C sp vs zs H1 Q (E σ)) := by
  refine ⟨fun pins s σ H Q I h => ?_⟩
  refine wpAny_Call_Name_kw (ld_glob I hg hm ?_ hdb)
  refine callWith_any (P := fun h => X.K.In h) (PySem.W.keeps_K M.kp) (thn (ha.run _ pos pins s σ H _ I h) fun a s1 ⟨us, ws, vs, zs, H1, ea, r, rz, l2, I1, q⟩ => ⟨I1.kIn, ?_⟩)
  subst ea
  exact run_mkA M F hr (hx σ) I1 r rz l2 q
/-- o.m(..) of an instance of the class at C -/
theorem pe_metA {pl : Sem Bool} (he : PE X o ta) (c : Cls X.K C) (hm : Meth X.K C m f) (F : FnA X.prog X.w X.K X.mg X.base k f ks sp) (hr : Room k X.A) (hx : ∀ σ, PassesAt (L2.CX X.prog X.w) X σ (E σ)) (ha : PArg X args kws ks t)
    (ht : eval (.Call (.Attribute o m apos) args kws pos) X.env = (do
      let ov ← eval o X.env
      standAt apos.atName
      let (f, first) ← holding [ov] (getMethod ov m pl)
      callWith pos f first (backTo pos (starEach args X.env)) (backToKw pos (keywordEach kws X.env))) := by rfl) :
    PE X (.Call (.Attribute o m apos) args kws pos) (fun σ H Q => ta σ H fun x H1 => ∃ a dx fs, x = .ref a ∧ H1 a = some (.ins C dx fs) ∧ fs.lookup m = none ∧ t σ H1 fun vs zs H2 => sp (x :: vs) zs H2 Q (E σ)) := by
  refine ⟨fun pins s σ H Q I h => ?_⟩
  refine PySem.W.methodCall_KW (pl := pl) (thn (he.run pins s σ H _ I h) fun u s1 ⟨y, H1, I1, rx, a, dx, fs, ex, ea, l, q⟩ => ?_) ht
  subst ex
  obtain rfl : u = Value.ref a := rx
  refine getmeth_ok I1 ea c hm l ?_
  refine callWith_any (P := fun h => X.K.In h) (PySem.W.keeps_K hm.kp) (thn (ha.run _ pos pins s1 σ H1 _ I1 q) fun a' s2 ⟨us, ws, vs, zs, H2, ea', r, rz, l2, I2, q2⟩ => ⟨I2.kIn, ?_⟩)
  subst ea'
  exact run_fnA (vs := V.ref a :: vs) F hr (hx σ) I2 (.cons (show L2.RelV (V.ref a) (Value.ref a) from rfl) r) rz l2 q2
end
end DL

end

section
set_option Elab.async false
set_option linter.all false
set_option maxRecDepth 100000
set_option maxHeartbeats 2000000
/-! DR: further rules. -/
namespace DL
open PySem L2
section
variable {K : Frag} {X : Cx} {W : WX} {k : Nat} {a b c o e tg : Expr} {es : List Expr} {fa fb fc : Ev → Rs D} {fs : Ev → Rs (List D)} {pos p apos : Pos}
/-- what is walked is a list or a tuple, as it comes -/
def fiQ (fa : Ev → Rs D) (env : Ev) : Rs (List D) := (fa env).bind fun e d => lift e (itemsD d)
theorem PI.or {wi : TI} {w1 w2 : TI} (h1 : PI X tg e w1) (h2 : PI X tg e w2) (m : ∀ σ H R, wi σ H R → w1 σ H R ∨ w2 σ H R) : PI X tg e wi := ⟨fun pins s σ H R I q => (m σ H R q).elim (fun z => h1.run pins s σ H R I z) fun z => h2.run pins s σ H R I z⟩
theorem di_seq (h : DE X W e fa) : DI X W tg e (fiQ fa) := by
  refine PI.or (di_list h) (di_tup h) fun σ H R q => ?_
  obtain ⟨E, H0, env, S, q⟩ := q
  cases hf : fa env with
  | ok e1 d =>
    have q : Post X.K W (RI X.K) E H0 σ R (lift e1 (itemsD d)) := by simpa only [Rs.bind, fiQ, hf] using q
    have key : (∃ ds, itemsD d = some ds ∧ fiL fa env = .ok e1 ds) ∨ (∃ ds, itemsD d = some ds ∧ fiT fa env = .ok e1 ds) ∨ itemsD d = none := by
      cases d with
      | lst ds => exact .inl ⟨ds, rfl, by simp only [Rs.bind, fiL, hf]⟩
      | fz ds => exact .inl ⟨ds, rfl, by simp only [Rs.bind, fiL, hf]⟩
      | tup ds => exact .inr (.inl ⟨ds, rfl, by simp only [Rs.bind, fiT, hf]⟩)
      | _ => exact .inr (.inr rfl)
    rcases key with ⟨ds, h1, h2⟩ | ⟨ds, h1, h2⟩ | h1
    · refine .inl ⟨E, H0, env, S, ?_⟩
      rw [h2]
      rw [h1] at q
      exact q
    · refine .inr ⟨E, H0, env, S, ?_⟩
      rw [h2]
      rw [h1] at q
      exact q
    · rw [h1] at q
      exact (show False from q).elim
  | er e1 C fl d =>
    refine .inl ⟨E, H0, env, S, ?_⟩
    simp only [Rs.bind, fiQ, hf] at q
    simp only [Rs.bind, fiL, hf]
    exact q
  | no =>
    simp only [Rs.bind, fiQ, hf] at q
    exact (show False from q).elim
/-- str of an int or of a text -/
def gStrB (xs : List D) : Option D := (gStr xs).or (match xs with
  | [.str a] => some (.str a)
  | _ => none)
theorem call_strB : CallR X (.type "str") (fun xs H Q => (∃ i : Int, xs = [.int i] ∧ i.natAbs.log2 < 1920 ∧ Q (.str (toString i)) H) ∨ ∃ a, xs = [.str a] ∧ Q (.str a) H) := call_str_int.or SkE.call_str_str
theorem vn_strB : VN K (fun xs H Q => (∃ i : Int, xs = [.int i] ∧ i.natAbs.log2 < 1920 ∧ Q (.str (toString i)) H) ∨ ∃ a, xs = [.str a] ∧ Q (.str a) H) gStrB := by
  refine VN.or vn_str ?_
  intro H0 H xs d vs Q s r e k
  dsimp only at e
  split at e
  · cases e
    obtain ⟨v, rfl, rv⟩ := rpa1 r
    exact ⟨_, by rw [rp_str rv], k _ _ _ .refl (.str _)⟩
  · cases e
/-! ### a, b = x, y -/
def fPar2 (i j : Nat) (fa fb : Ev → Rs D) (env : Ev) : Rs Fl := (fa env).bind fun e x => (fb e).bind fun e y => match put e i (.sh x) with
  | some e1 => (match put e1 j (.sh y) with
    | some e2 => .ok e2 .nx
    | none => .no)
  | none => .no
def fPar2O (i j : Nat) (fa : Ev → Rs D) (fb : Ev → Rs (List D)) (env : Ev) : Rs Fl := (fa env).bind fun e x => (fb e).bind fun e ys => match put e j (.ow (.lst ys)) with
  | some e1 => (match put e1 i (.sh x) with
    | some e2 => .ok e2 .nx
    | none => .no)
  | none => .no
def fPar3 (i j l : Nat) (fa fb fc : Ev → Rs D) (env : Ev) : Rs Fl := (fa env).bind fun e x => (fb e).bind fun e y => (fc e).bind fun e z => match put e i (.sh x) with
  | some e1 => (match put e1 j (.sh y) with
    | some e2 => (match put e2 l (.sh z) with
      | some e3 => .ok e3 .nx
      | none => .no)
    | none => .no)
  | none => .no
theorem ds_par2 {i j : Nat} {x y : Str} {px py pt : Pos} {kt k2 pt2} (B : Bd X W k) (ha : DE X W a fa) (hb : DE X W b fb) (hi : X.N[i]? = some x := by rfl) (hj : X.N[j]? = some y := by rfl) (hij : i ≠ j := by decide)
    (hx : X.env.scope.names.lookup x = some .local := by rfl) (hy : X.env.scope.names.lookup y = some .local := by rfl) (hse : starEach [a, b] X.env = (false, eval a X.env) :: starEach [b] X.env := by rfl) (hse2 : starEach [b] X.env = (false, eval b X.env) :: starEach [] X.env := by rfl)
    (hw : swappedStores [.Tuple [.Name x px, .Name y py] kt pt] (.Tuple [a, b] k2 pt2) X.env = pure (some [x, y]) := by rfl)
    (hs : swapsWithSole [.Tuple [.Name x px, .Name y py] kt pt] (.Tuple [a, b] k2 pt2) pos.line X.env = pure false := by rfl) : DS X W (.Assign [.Tuple [.Name x px, .Name y py] kt pt] (.Tuple [a, b] k2 pt2) pos) (fPar2 i j fa fb) := by
  refine ps_mono (ps_par (i := i) (j := j) B.hc B.nd hi hj hij hx hy (pa_cons ha (pa_cons hb pa_nil hse2) hse) hw hs) fun N σ H q => ?_
  obtain ⟨E, H0, env, S, q⟩ := q
  refine WP.bindS S q fun e1 d v H1 H' S1 s1 r1 q1 => WP.bindS S1 q1 fun e2 d2 u H2 H'' S2 s2 r2 q2 => ⟨v, u, rfl, ?_⟩
  cases h1 : put e2 i (.sh d) with
  | none => rw [h1] at q2; exact (show False from q2).elim
  | some e3 =>
    rw [h1] at q2
    dsimp only at q2
    cases h2 : put e3 j (.sh d2) with
    | none => rw [h2] at q2; exact (show False from q2).elim
    | some e4 =>
      rw [h2] at q2
      obtain ⟨f1, rfl⟩ := put_some h1
      obtain ⟨f2, rfl⟩ := put_some h2
      exact q2 _ H2 H'' (Same.refl _) ((S2.putSh f1 (r1.mono s2)).putSh f2 r2)
theorem ds_par2O {i j : Nat} {x y : Str} {px py pt : Pos} {kt k2 pt2} {fl : Ev → Rs (List D)} (B : Bd X W k) (ha : DE X W a fa) (hb : DF X W b fl) (hi : X.N[i]? = some x := by rfl) (hj : X.N[j]? = some y := by rfl) (hij : i ≠ j := by decide)
    (hx : X.env.scope.names.lookup x = some .local := by rfl) (hy : X.env.scope.names.lookup y = some .local := by rfl) (hse : starEach [a, b] X.env = (false, eval a X.env) :: starEach [b] X.env := by rfl) (hse2 : starEach [b] X.env = (false, eval b X.env) :: starEach [] X.env := by rfl)
    (hw : swappedStores [.Tuple [.Name x px, .Name y py] kt pt] (.Tuple [a, b] k2 pt2) X.env = pure (some [x, y]) := by rfl)
    (hs : swapsWithSole [.Tuple [.Name x px, .Name y py] kt pt] (.Tuple [a, b] k2 pt2) pos.line X.env = pure false := by rfl) : DS X W (.Assign [.Tuple [.Name x px, .Name y py] kt pt] (.Tuple [a, b] k2 pt2) pos) (fPar2O i j fa fl) := by
  refine ps_mono (ps_par (i := i) (j := j) B.hc B.nd hi hj hij hx hy (pa_cons ha (pa_cons hb pa_nil hse2) hse) hw hs) fun N σ H q => ?_
  obtain ⟨E, H0, env, S, q⟩ := q
  refine WP.bindS S q fun e1 d v H1 H' S1 s1 r1 q1 => WP.bindS S1 q1 fun e2 d2 u H2 H'' S2 s2 r2 q2 => ⟨v, u, rfl, ?_⟩
  cases h1 : put e2 j (.ow (.lst d2)) with
  | none => rw [h1] at q2; exact (show False from q2).elim
  | some e3 =>
    rw [h1] at q2
    dsimp only at q2
    cases h2 : put e3 i (.sh d) with
    | none => rw [h2] at q2; exact (show False from q2).elim
    | some e4 =>
      rw [h2] at q2
      obtain ⟨f1, rfl⟩ := put_some h1
      obtain ⟨f2, rfl⟩ := put_some h2
      have S3 := (S2.putOw f1 r2).putSh f2 (r1.mono s2)
      rw [List.set_comm _ _ (Ne.symm hij)] at S3
      exact q2 _ H2 H'' (Same.refl _) S3
theorem ds_par3 {i j l : Nat} {x y z : Str} {px py pz pt : Pos} {kt k2 pt2} (B : Bd X W k) (ha : DE X W a fa) (hb : DE X W b fb) (hc : DE X W c fc) (hi : X.N[i]? = some x := by rfl) (hj : X.N[j]? = some y := by rfl) (hl : X.N[l]? = some z := by rfl) (hij : i ≠ j := by decide) (hil : i ≠ l := by decide) (hjl : j ≠ l := by decide)
    (hx : X.env.scope.names.lookup x = some .local := by rfl) (hy : X.env.scope.names.lookup y = some .local := by rfl) (hz : X.env.scope.names.lookup z = some .local := by rfl) (hse : starEach [a, b, c] X.env = (false, eval a X.env) :: starEach [b, c] X.env := by rfl) (hse2 : starEach [b, c] X.env = (false, eval b X.env) :: starEach [c] X.env := by rfl) (hse3 : starEach [c] X.env = (false, eval c X.env) :: starEach [] X.env := by rfl)
    (hw : swappedStores [.Tuple [.Name x px, .Name y py, .Name z pz] kt pt] (.Tuple [a, b, c] k2 pt2) X.env = pure (some [x, y, z]) := by rfl)
    (hs : swapsWithSole [.Tuple [.Name x px, .Name y py, .Name z pz] kt pt] (.Tuple [a, b, c] k2 pt2) pos.line X.env = pure false := by rfl) : DS X W (.Assign [.Tuple [.Name x px, .Name y py, .Name z pz] kt pt] (.Tuple [a, b, c] k2 pt2) pos) (fPar3 i j l fa fb fc) := by
  refine ps_mono (ps_par3 (i := i) (j := j) (l := l) B.hc B.nd hi hj hl hij hil hjl hx hy hz (pa_cons ha (pa_cons hb (pa_cons hc pa_nil hse3) hse2) hse) hw hs) fun N σ H q => ?_
  obtain ⟨E, H0, env, S, q⟩ := q
  refine WP.bindS S q fun e1 d v H1 H' S1 s1 r1 q1 => WP.bindS S1 q1 fun e2 d2 u H2 H'' S2 s2 r2 q2 => WP.bindS S2 q2 fun e3 d3 t H3 H4 S3 s3 r3 q3 => ⟨v, u, t, rfl, ?_⟩
  cases h1 : put e3 i (.sh d) with
  | none => rw [h1] at q3; exact (show False from q3).elim
  | some e4 =>
    rw [h1] at q3
    dsimp only at q3
    cases h2 : put e4 j (.sh d2) with
    | none => rw [h2] at q3; exact (show False from q3).elim
    | some e5 =>
      rw [h2] at q3
      dsimp only at q3
      cases h3 : put e5 l (.sh d3) with
      | none => rw [h3] at q3; exact (show False from q3).elim
      | some e6 =>
        rw [h3] at q3
        obtain ⟨f1, rfl⟩ := put_some h1
        obtain ⟨f2, rfl⟩ := put_some h2
        obtain ⟨f3, rfl⟩ := put_some h3
        exact q3 _ H3 H4 (Same.refl _) (((S3.putSh f1 ((r1.mono s2).mono s3)).putSh f2 (r2.mono s3)).putSh f3 r3)
end
end DL

end

section
set_option Elab.async false
set_option linter.all false
set_option maxRecDepth 100000
set_option maxHeartbeats 2000000
/-! DM: plain lemmas about loops, data, texts. -/
namespace DL
open PySem L2
/-- a loop whose turns all come through -/
theorem loopF_ind {g : D → Ev → Option Ev} {fb : Ev → Rs Fl} {I : Nat → Ev → Prop} : ∀ (ds : List D) (k : Nat) (env : Ev), I k env →
    (∀ (j : Nat) (d : D) (e : Ev), ds[j]? = some d → I (k + j) e → ∃ e1 e2, g d e = some e1 ∧ (fb e1 = .ok e2 .nx ∨ fb e1 = .ok e2 .ct) ∧ I (k + j + 1) e2) → ∃ e', loopF g fb ds env = .ok e' .nx ∧ I (k + ds.length) e'
  | [], k, env, h, _ => ⟨env, rfl, h⟩
  | d :: r, k, env, h, st => by
    obtain ⟨e1, e2, h1, h2, h3⟩ := st 0 d env rfl h
    obtain ⟨e', h4, h5⟩ := loopF_ind (I := I) r (k + 1) e2 h3 fun j d e q i => by
      have := st (j + 1) d e (by simpa using q) (by rw [show k + (j + 1) = k + 1 + j by omega]; exact i)
      rw [show k + (j + 1) + 1 = k + 1 + j + 1 by omega] at this
      exact this
    refine ⟨e', ?_, by rw [List.length_cons, show k + (r.length + 1) = k + 1 + r.length by omega]; exact h5⟩
    unfold loopF
    rw [h1]
    rcases h2 with h2 | h2 <;> simp only [Rs.bind, h2, h4]
/-- a comprehension that leaves the slots as they are -/
theorem loopC_pure {vs : List Nat} {g : D → Ev → Option Ev} {ft : Ev → Rs Bool} {fe : Ev → Rs D} {e : Ev} {p : D → Bool} {F : D → D} : ∀ (ds acc : List D), acc.length + ds.length ≤ 1000 →
    (∀ d ∈ ds, ∃ e1 e2, g d e = some e1 ∧ ft e1 = .ok e2 (p d) ∧ (p d = true → ∃ e3, fe e2 = .ok e3 (F d) ∧ wipeE e3 vs = e) ∧ (p d = false → wipeE e2 vs = e)) → loopC vs g ft fe ds acc e = some (e, acc ++ (ds.filter p).map F)
  | [], acc, _, _ => by simp [loopC]
  | d :: r, acc, hl, h => by
    obtain ⟨e1, e2, h1, h2, h3, h4⟩ := h d List.mem_cons_self
    have hs : small acc.length = true := Nat.ble_eq_true_of_le (by simp at hl; omega)
    unfold loopC
    cases hp : p d with
    | true =>
      obtain ⟨e3, h5, h6⟩ := h3 hp
      have : stepC vs g ft fe d acc e = some (e, acc ++ [F d]) := by
        unfold stepC
        simp only [Rs.bind, h1, h2, hp, h5, if_pos hs, h6]
      rw [this]
      dsimp only
      rw [loopC_pure r (acc ++ [F d]) (by simp at hl ⊢; omega) fun x hx => h x (List.mem_cons_of_mem _ hx)]
      simp [List.filter_cons, hp]
    | false =>
      have : stepC vs g ft fe d acc e = some (e, acc) := by
        unfold stepC
        simp only [Rs.bind, h1, h2, hp, h4 hp]
      rw [this]
      dsimp only
      rw [loopC_pure r acc (by simp at hl ⊢; omega) fun x hx => h x (List.mem_cons_of_mem _ hx)]
      simp [List.filter_cons, hp]
/-! ### data that can be compared -/
def okP (n : Nat) (d : D) (p : PyData) : Prop := toPy d = some p ∧ p.canLay0 = true ∧ p.depth ≤ n
theorem okPA {n : Nat} : ∀ {ds : List D}, (∀ d ∈ ds, ∃ p, okP n d p) → ∃ ps, toPyA ds = some ps ∧ PyData.canLayAll0 ps = true ∧ PyData.depthAll ps ≤ n ∧ ∀ p ∈ ps, ∃ d ∈ ds, toPy d = some p
  | [], _ => ⟨[], by simp [toPyA], by simp [PyData.canLayAll0], by simp [PyData.depthAll], by simp⟩
  | d :: r, h => by
    obtain ⟨p, h1, h2, h3⟩ := h d List.mem_cons_self
    obtain ⟨ps, h4, h5, h6, h7⟩ := okPA (ds := r) fun x hx => h x (List.mem_cons_of_mem _ hx)
    refine ⟨p :: ps, by simp [toPyA, h1, h4], by simp [PyData.canLayAll0, h2, h5], by simp [PyData.depthAll]; omega, fun q hq => ?_⟩
    rcases List.mem_cons.mp hq with rfl | hq
    · exact ⟨d, List.mem_cons_self, h1⟩
    · obtain ⟨x, hx, e⟩ := h7 q hq
      exact ⟨x, List.mem_cons_of_mem _ hx, e⟩
theorem okP.lst {n : Nat} {ds : List D} (h : ∀ d ∈ ds, ∃ p, okP n d p) : ∃ ps, okP (n + 1) (.lst ds) (.list ps) ∧ toPyA ds = some ps ∧ ∀ p ∈ ps, ∃ d ∈ ds, toPy d = some p := by
  obtain ⟨ps, h1, h2, h3, h4⟩ := okPA h
  exact ⟨ps, ⟨by simp [toPy, h1], by simp [PyData.canLay0, h2], by simp [PyData.depth]; omega⟩, h1, h4⟩
theorem okP.tup {n : Nat} {ds : List D} (h : ∀ d ∈ ds, ∃ p, okP n d p) : ∃ ps, okP (n + 1) (.tup ds) (.tuple ps) ∧ toPyA ds = some ps := by
  obtain ⟨ps, h1, h2, h3, h4⟩ := okPA h
  exact ⟨ps, ⟨by simp [toPy, h1], by simp [PyData.canLay0, h2], by simp [PyData.depth]; omega⟩, h1⟩
theorem okP.shaped {n : Nat} {d : D} {p : PyData} (h : okP n d p) (hn : n ≤ 64) : SeqAt.shaped p = true := by
  unfold SeqAt.shaped
  simp [h.2.1]
  have := h.2.2
  omega
theorem okP.mono {n m : Nat} {d : D} {p : PyData} (h : okP n d p) (hn : n ≤ m) : okP m d p := ⟨h.1, h.2.1, by have := h.2.2; omega⟩
theorem eqD_of {x y : D} {n m : Nat} {p q : PyData} (hx : okP n x p) (hy : okP m y q) (hn : n ≤ 64) (hm : m ≤ 64) (ns : ∀ s, x ≠ .str s) : eqD x y = some (PyData.eqv p q) := by
  unfold eqD
  split
  · exact absurd rfl (ns _)
  · rw [hx.1, hy.1]
    simp [hx.shaped hn, hy.shaped hm]
theorem eqD_same {x : D} {n : Nat} {p : PyData} (hx : okP n x p) (hn : n ≤ 64) : eqD x x = some true := by
  cases x with
  | str s => simp [eqD]
  | _ => rw [eqD_of hx hx hn hn (by intro s; simp), SeqAt.eqv_refl _ hx.2.1]
/-! ### one behind another -/
section
variable {f g : Ev → Rs Fl} {fa fb : Ev → Rs D} {fc : Ev → Rs Bool} {fl : Ev → Rs (List D)} {env e : Ev} {d : D} {r : Dr} {b : Bool} {ds : List D} {i : Nat}
theorem seq_nx (h : f env = .ok e .nx) : fSeq f g env = g e := by simp only [Rs.bind, fSeq, h]
theorem seq_rt (h : f env = .ok e (.rt r)) : fSeq f g env = .ok e (.rt r) := by simp only [Rs.bind, fSeq, h]
theorem set_ok (h : fa env = .ok e d) (hf : free e[i]? = true) : fSet i fa env = .ok (e.set i (.sh d)) .nx := by simp only [fSet, Rs.bind, h, put, if_pos hf]
theorem setO_ok (h : fl env = .ok e ds) (hf : free e[i]? = true) : fSetO i fl env = .ok (e.set i (.ow (.lst ds))) .nx := by simp only [fSetO, Rs.bind, h, put, if_pos hf]
theorem for_ok {fi : Ev → Rs (List D)} {gt : D → Ev → Option Ev} (h : fi env = .ok e ds) : fFor fi gt f env = loopF gt f ds e := by simp only [Rs.bind, fFor, h]
theorem ifS_t (h : fc env = .ok e true) : fIfS fc f g env = f e := by simp only [fIfS, Rs.bind, h, if_true]
theorem ifS_f (h : fc env = .ok e false) : fIfS fc f g env = g e := by simp only [fIfS, Rs.bind, h, Bool.false_eq_true, if_false]
theorem if_t (h : fc env = .ok e true) : fIf fc fa fb env = fa e := by simp only [fIf, Rs.bind, h, if_true]
theorem if_f (h : fc env = .ok e false) : fIf fc fa fb env = fb e := by simp only [fIf, Rs.bind, h, Bool.false_eq_true, if_false]
theorem ret_ok (h : fa env = .ok e d) : fRet fa env = .ok e (.rt (.sh d)) := by simp only [Rs.bind, fRet, h]
theorem cons_ok {xs : List D} {e2 : Ev} (h : fa env = .ok e d) (h2 : fl e = .ok e2 xs) : fCons fa fl env = .ok e2 (d :: xs) := by simp only [fCons, Rs.bind, h, h2]
theorem sh_ok (h : fl env = .ok e ds) : fSh fl env = .ok e (.lst ds) := by simp only [Rs.bind, fSh, h]
theorem gOf_rt {m : Nat} {as : List Sl} (h : f (as ++ List.replicate (m - as.length) .un) = .ok e (.rt r)) : gOf m f as = .ok e r := by unfold gOf; rw [h]
theorem lc_ok {vs : List Nat} {fi : Ev → Rs (List D)} {gt : D → Ev → Option Ev} {ft : Ev → Rs Bool} {fe : Ev → Rs D} {e' : Ev} {acc : List D} (h : fi env = .ok e ds) (hp : (vs.all fun v => plainSl e[v]?) = true) (hl : loopC vs gt ft fe ds [] (wipeE e vs) = some (e', acc)) : fLc vs fi gt ft fe env = .ok (backE e e' vs) acc := by
  simp only [Rs.bind, fLc, h, if_pos hp, hl]
end
/-- what is handed back -/
def shv : Rs Dr → Option D
  | .ok _ (.sh d) => some d
  | _ => none
theorem shv_ok {r : Rs Dr} {d : D} (h : shv r = some d) : ∃ e, r = .ok e (.sh d) := by
  unfold shv at h
  split at h
  · cases h; exact ⟨_, rfl⟩
  · cases h
def okB (n : Nat) (d : D) : Bool := match toPy d with
  | some p => p.canLay0 && decide (p.depth ≤ n)
  | none => false
theorem okB_ok {n : Nat} {d : D} (h : okB n d = true) : ∃ p, okP n d p := by
  unfold okB at h
  split at h
  · rename_i p e
    obtain ⟨h1, h2⟩ := Bool.and_eq_true_iff.mp h
    exact ⟨p, e, h1, of_decide_eq_true h2⟩
  · cases h
end DL

end

section
set_option Elab.async false
set_option linter.all false
set_option maxRecDepth 100000
set_option maxHeartbeats 2000000
/-! DN: calls, read as plain facts. -/
namespace DL
open PySem L2
section
variable {g : List Sl → Rs Dr} {dv ds : List D} {fa : Ev → Rs (List D)} {fd : Ev → Rs D} {f : Ev → Rs Dr} {env e e' : Ev} {o0 o o' : Ob} {i n : Nat} {r : Dr} {d : D} {ft ft2 : Ev → Rs Bool} {b : Bool}
theorem callR_ok (ho0 : ob? env[i]? = some o0) (ha : fa env = .ok e ds) (hn : Nat.beq ((ds ++ dv).length + 1) n = true) (ho : ob? e[i]? = some o) (hg : g (.rf o :: (ds ++ dv).map .sh) = .ok (.rf o' :: e') r) : fCallR i n g dv fa env = .ok (putOb e i o') r := by
  have h0 : (ob? env[i]?).isSome = true := by rw [ho0]; rfl
  simp only [fCallR, h0, if_true, ha, Rs.bind, hn, ho, hg, backR, List.getElem?_cons_zero]
theorem call_ok (ha : fa env = .ok e ds) (hn : Nat.beq (ds ++ dv).length n = true) (hg : g ((ds ++ dv).map .sh) = .ok e' r) : fCall n g dv fa env = .ok e r := by
  simp only [fCall, ha, Rs.bind, hn, if_true, hg, back]
theorem shR_sh (h : f env = .ok e (.sh d)) : fShR f env = .ok e d := by simp only [fShR, h, Rs.bind]
theorem shR_fr (h : f env = .ok e (.fr ds)) : fShR f env = .ok e (.lst ds) := by simp only [fShR, h, Rs.bind]
theorem frR_fr (h : f env = .ok e (.fr ds)) : fFrR f env = .ok e ds := by simp only [fFrR, h, Rs.bind]
theorem app_ok {xs : List D} (ho0 : ob? env[i]? = some o0) (hl : isL (some o0) = true) (ha : fa env = .ok e [d]) (ho : ob? e[i]? = some (.lst xs)) (hz : xs.length ≤ 1000) : fExp (fOM i gApp fa) env = .ok (putOb e i (.lst (xs ++ [d]))) .nx := by
  have hz' : szL xs.length = true := Nat.ble_eq_true_of_le hz
  simp only [fExp, fOM, ho0, hl, if_true, ha, Rs.bind, ho, gApp, hz']
theorem or_ff (h : ft env = .ok e false) (h2 : ft2 e = .ok e' b) : fOr ft ft2 env = .ok e' b := by
  simp only [fOr, h, Rs.bind, Bool.false_eq_true, if_false, h2]
theorem borT_ok (h : ft (env.map shSl) = .ok e b) : fBorT ft env = .ok env b := by simp only [Rs.bind, fBorT, h]
theorem var_ok (h : env[i]? = some (.sh d)) : fVar i env = .ok env d := by simp only [Rs.bind, fVar, h]
theorem test_ok (h : fd env = .ok e (.bl b)) : fTest fd env = .ok e b := by simp only [fTest, h, Rs.bind]
theorem two_ok {fb : Ev → Rs D} {g2 : D → D → Option D} {x y z : D} (h : fd env = .ok e x) (h2 : fb e = .ok e' y) (h3 : g2 x y = some z) : f2 g2 fd fb env = .ok e' z := by simp only [f2, h, h2, h3, Rs.bind, lift]
theorem N_ok {gn : List D → Option D} (h : fa env = .ok e ds) (h3 : gn ds = some d) : fN gn fa env = .ok e d := by simp only [fN, h, h3, Rs.bind, lift]
end
/-- a comprehension over named items, the slots left as they are -/
theorem loopC_map {α : Type} {vs : List Nat} {g : D → Ev → Option Ev} {fe : Ev → Rs D} {e : Ev} {inp out : α → D} : ∀ (xs : List α) (acc : List D), acc.length + xs.length ≤ 1000 →
    (∀ x ∈ xs, ∃ e1 e3, g (inp x) e = some e1 ∧ fe e1 = .ok e3 (out x) ∧ wipeE e3 vs = e) → loopC vs g fYes fe (xs.map inp) acc e = some (e, acc ++ xs.map out)
  | [], acc, _, _ => by simp [loopC]
  | x :: r, acc, hl, h => by
    obtain ⟨e1, e3, h1, h2, h3⟩ := h x List.mem_cons_self
    have hs : small acc.length = true := Nat.ble_eq_true_of_le (by simp at hl; omega)
    have st : stepC vs g fYes fe (inp x) acc e = some (e, acc ++ [out x]) := by
      unfold stepC
      simp only [Rs.bind, h1, fYes, h2, if_pos hs, h3]
    rw [List.map_cons]
    unfold loopC
    rw [st]
    dsimp only
    rw [loopC_map r (acc ++ [out x]) (by simp at hl ⊢; omega) fun y hy => h y (List.mem_cons_of_mem _ hy)]
    simp
theorem strsD_map : ∀ (ts : List Str), strsD (ts.map .str) = some ts
  | [] => rfl
  | t :: r => by simp [strsD, strsD_map r]
theorem dJoin_ok {sep : Str} {ts : List Str} (hs : sep.length ≤ 10) (hc : ts.length ≤ 1000) (hl : ∀ t ∈ ts, t.length ≤ 80) : dJoin (.str sep) (.lst (ts.map .str)) = some (.str (PySem.Txt.join sep ts)) := by
  have h1 : ∀ (l : List Str), (∀ t ∈ l, t.length ≤ 80) → (l.map (·.length)).sum ≤ 80 * l.length := by
    intro l
    induction l with
    | nil => intro _; simp
    | cons a r ih => intro h; have := ih fun t ht => h t (List.mem_cons_of_mem _ ht); have := h a List.mem_cons_self; simp; omega
  have h2 := h1 ts hl
  have h3 : ts.length * sep.length ≤ ts.length * 10 := Nat.mul_le_mul_left _ hs
  have : Nat.ble ((ts.map (·.length)).sum + ts.length * sep.length) 100000 = true := Nat.ble_eq_true_of_le (by omega)
  simp only [Rs.bind, dJoin, itemsD, strsD_map, this, if_true]
theorem rg1_ok {fa : Ev → Rs (List D)} {env e : Ev} {n : Int} (h : fa env = .ok e [.int n]) (hn : okR n = true) : fiR1 fa env = .ok e (rangeD 0 n.toNat) := by
  simp only [fiR1, h, Rs.bind, hn, if_true]
theorem okR_small {n : Int} (h0 : 0 ≤ n) (h : n ≤ 1000000) : okR n = true := by
  unfold okR
  rw [decide_eq_true_iff]
  constructor <;> omega
end DL

end

section
set_option Elab.async false
set_option linter.all false
set_option maxRecDepth 100000
set_option maxHeartbeats 4000000
/-! DEx: own exception classes straight over ValueError, LookupError, RuntimeError, OverflowError; __init__ sets one field. -/
namespace DL
open PySem PySem.W PySem.HandSPX L2 Builtin Builtin.ObjectAttr
/-- a base of own exceptions: its mro, its __new__ -/
structure Bse (nw : String) (tl : List Value) : Prop where
  fac : ∃ B ini, ExcBaseFacts B nw ini tl
  pass : ∀ z : Value, refuseLoop z "__setattr__" tl = pure ()
  obj : tl.contains (.type "object") = true
def bseOf (nw : String) : List Value :=
  if nw = "ValueError.__new__" then [.type "ValueError", .type "Exception", .type "BaseException", .type "object"]
  else if nw = "LookupError.__new__" then [.type "LookupError", .type "Exception", .type "BaseException", .type "object"]
  else if nw = "RuntimeError.__new__" then [.type "RuntimeError", .type "Exception", .type "BaseException", .type "object"]
  else if nw = "OverflowError.__new__" then [.type "OverflowError", .type "ArithmeticError", .type "Exception", .type "BaseException", .type "object"]
  else []
theorem bse_of {nw : String} {tl : List Value} (h : bseOf nw = tl) (hn : tl ≠ []) : Bse nw tl := by
  unfold bseOf at h
  split at h
  · rename_i e; subst e h; exact ⟨⟨_, _, F.excBase_ValueError⟩, fun z => F.store_ValueError.passes z, by decide +kernel⟩
  · split at h
    · rename_i e; subst e h; exact ⟨⟨_, _, F.excBase_LookupError⟩, fun z => F.store_LookupError.passes z, by decide +kernel⟩
    · split at h
      · rename_i e; subst e h; exact ⟨⟨_, _, F.excBase_RuntimeError⟩, fun z => F.store_RuntimeError.passes z, by decide +kernel⟩
      · split at h
        · rename_i e; subst e h; exact ⟨⟨_, _, F.excBase_OverflowError⟩, fun z => F.store_OverflowError.passes z, by decide +kernel⟩
        · exact absurd h.symm hn
/-- what the written part says of an own error's class -/
structure OexG (K : Frag) (C : Addr) : Prop where
  cls : ∃ nw tl nm qn ns bb sn su ab co dc c0 c1 c2 c3 c5, Bse nw tl ∧ K.lookup C = some (excClassObj nm qn C ns bb tl true sn su ab co dc c0 c1 c2 c3 c5 nw)
  sta : findIn K (.ref C) "__setattr__" = some (some (.builtin "object.__setattr__"))
  exc : subIn K (.ref C) (.type "BaseException") = some true
  typ : typeIn K (.ref C) = some (.type "type")
  kep : keepIn K (.ref C) = true
section
variable {P : Program} {w : World} {A : Around} {R : Result → Shared → Prop} {hh : Heap} {gs : Array GenState} {dr : Drawn} {tn : Nat} {os : OsState}
theorem setB {K : Frag} {fl : Str} {tk : PySem.Tok} {v : Value} {x C : Addr} {fv : Array Value} {cd : ClassData} {tl : List Value} {nw : String} (b : Bse nw tl)
    (X : K.In hh) (hx : hh.get? x = some { cls := .ref C, data := .fields fv }) (ec : clsIn K C = some cd) (em : cd.mro = .ref C :: tl) (ed : cd.hasDict = true) (nf : findIn K (.ref C) fl = some none)
    (fin : ∀ h1 t1 dx, (∀ c o, c ≠ x → hh.get? c = some o → h1.get? c = some o) → hh.objs.size ≤ dx → dx ≠ x → h1.get? x = some { cls := .ref C, dict := some dx, data := .fields fv } → h1.Ns1 dx (fun y => if y = fl then some v else none) → R (.ok (.ret .none)) ⟨h1, gs, dr, t1, os⟩) :
    codeAny (model P w) A (.call (.builtin "object.__setattr__") ⟨[.ref x, .str fl tk, v], []⟩) R ⟨hh, gs, dr, tn, os⟩ := by
  have ia : InstAt hh x { cls := .ref C, data := .fields fv } C none := ⟨hx, rfl, rfl, trivial⟩
  have so := F.store_object
  have nx : x ≠ hh.objs.size := Nat.ne_of_lt (Heap.lt_size hx)
  have has : cd.mro.contains (.type "object") = true := by rw [em, List.contains_cons, b.obj]; simp
  have ok1 : Looks (model P w) hh (isInstance (.ref x) (.type "object")) true := ia.type.andThen (looks_mroIn X (by unfold mroIn; rw [ec, Option.bind_some, if_neg (by rw [em]; simp), has]))
  refine codeAny_call_builtin so.slot.plain so.entry (@check_slot (model P w) _ _ ⟨hh, gs, dr, tn, os⟩ "object.__setattr__" "object" "__setattr__" (.ref x) [.str fl tk, v] [] _ so.kind so.split ok1 (so.args (.ref x) (.str fl tk) v) ?_)
  have lm : Looks (model P w) hh (mroOf (.ref C)) cd.mro := (looks_clsIn X ec).andThen .now
  have lt : Looks (model P w) hh (storeTaker? none) none := .now
  have lc : Looks (model P w) hh (classData C) cd := looks_clsIn X ec
  rw [osa_eq, refuse_eq]
  refine wpAny_bind (wpAny_bind (ia.type.at (wpAny_bind (lm.at ?_))))
  rw [em, refuseLoop_ref, b.pass]
  refine wpAny_pure (wpAny_bind (ia.type.at (wpAny_bind ((looks_findIn X nf).at (wpAny_bind (lt.at ?_))))))
  show wpAny _ _ (storeInOwnDict (.ref x) (.ref C) (.str fl tk) fl v false) _ _ _
  obtain ⟨z1, z2, z3, z4, z5, z6, z7, z8, z9, z10, z11⟩ := cd
  dsimp only at ed
  subst ed
  unfold storeInOwnDict ownDictForStores
  repeat (first | with_reducible refine store_in_new ?_ ?_ | with_reducible refine wpAny_loadPart_at hx ?_ | with_reducible refine lc.at ?_ | wp_step)
  · exact ⟨_, #[], _, (Heap.get?_update_ne _ _ _ _ nx.symm).trans (Heap.get?_push_at rfl rfl), rfl, fun e he => absurd he (by simp), fun _ => rfl⟩
  · intro h1 t1 n1 sb
    have hx1 : (hh.push { cls := .type "dict", data := .dict #[] }).get? x = some { cls := .ref C, data := .fields fv } := Heap.get?_push_of_some _ hx
    refine fin h1 t1 hh.objs.size (fun c o hc ho => ?_) (Nat.le_refl _) nx.symm ?_ n1
    · rw [sb.2 c (Nat.ne_of_lt (Heap.lt_size ho)), Heap.get?_update_ne _ _ _ _ hc]; exact Heap.get?_push_of_some _ ho
    · rw [sb.2 x nx]; exact Heap.get?_update_self _ hx1 rfl
end
section
variable {X : Cx} {pins : List (Addr × Obj)} {σ : St} {H : Hp} {s : Shared} {a C : Addr} {fl : Str} {y : V} {u : Value} {A : Around}
theorem setB_new {Q : Unit → Shared → Prop} {E : Value → Shared → Prop} (T : OexG X.K C) (I : Inv X pins σ H s) (e : H a = some (exo a C none)) (nf : findIn X.K (.ref C) fl = some none) (ry : RelV y u)
    (fin : ∀ dx s', H dx = none → dx ≠ a → Inv X pins σ (upd (upd H dx (exd dx [(fl, y)])) a (exo a C (some dx))) s' → Q () s') : wpAny (model X.prog X.w) A (setAttr (.ref a) fl u) Q E s := by
  obtain ⟨nw, tl, nm, qn, ns, bb, sn, su, ab, co, dc, c0, c1, c2, c3, c5, b, hC⟩ := T.cls
  have ec : clsIn X.K C = some { name := nm, bases := bb, mro := .ref C :: tl, ns := ns, qualname := qn, hasDict := true, slotNames := sn, subclasses := su, abstract := ab, collection := co, hasDel := false } := by
    unfold clsIn; rw [hC] <;> rfl
  obtain ⟨t1, ho⟩ := exo_at I.hok e
  obtain ⟨hp, gn, dn, tn, os⟩ := s
  refine set_plain I.kIn (ox := { cls := .ref C, dict := none, data := .fields #[.ref t1, .none, .none, .none, .bool false, .none] }) (od := none) ⟨ho, rfl, rfl, trivial⟩ T.sta ?_
  refine setB b I.kIn ho ec rfl rfl nf fun h1 tk dx kp lo ne hx hn => ?_
  have fresh : H dx = none := I.hok.fresh lo
  have nd : ∀ {c : Addr} {o : Obj}, hp.get? c = some o → c ≠ dx := fun {c o} z => Nat.ne_of_lt (Nat.lt_of_lt_of_le (Heap.lt_size z) lo)
  have na : ∀ {c : Addr}, H c = none → c ≠ a := fun {c} n z => by rw [z, e] at n; cases n
  have un : Un X.fs [] H (upd (upd H dx (exd dx [(fl, y)])) a (exo a C (some dx))) hp h1 := by
    refine ⟨fun c o z n _ _ => kp c o (na n) z, fun c o z n _ _ => ⟨o.slots, kp c o (na n) z⟩, fun c o z n _ => ?_, fun c o z _ => ?_, fun c xs z => ?_, fun c o v z => ?_, fun c ps z => ⟨#[], ?_⟩⟩
    · rw [upd_ne (na n), upd_ne (nd z)]; exact n
    · by_cases hc : c = a
      · exact ⟨_, by rw [hc]; exact hx⟩
      · exact ⟨o, kp c o hc z⟩
    · rw [upd_ne (at_ne e z exo_tup), upd_ne (ne_of_none z fresh)]; exact z
    · rw [upd_ne (at_ne e z exo_frz), upd_ne (ne_of_none z fresh)]; exact z
    · rw [upd_ne (at_ne e z exo_tbl), upd_ne (ne_of_none z fresh), z]; simp
  refine fin dx _ fresh ne (I.un (t' := tk) un fun c o z => ?_)
  by_cases hc : c = a
  · subst hc
    rw [upd_same] at z
    cases z
    exact exo_ok hx
  · rw [upd_ne hc] at z
    by_cases hd : c = dx
    · subst hd
      rw [upd_same] at z
      cases z
      exact exd_ok hn (relO_put (fs := []) ry fun _ => True.intro)
    · rw [upd_ne hd] at z
      refine (I.hok c o z).stay (fun i v hi zi => kp i v ?_ zi) (fun i hi => ?_) fun i xs hi => ?_
      · rcases hi with hi | hi
        · rw [hi]; exact hc
        · exact at_ne e hi exo_own
      · rw [upd_ne (at_ne e hi exo_own), upd_ne (ne_of_none hi fresh)]; exact hi
      · rw [upd_ne (at_ne e hi exo_tup), upd_ne (ne_of_none hi fresh)]; exact hi
/-- self.f = e, in __init__ -/
def tSetB (K : Frag) (fl : Str) (to te : TE) : TS := fun N σ H => te σ H fun y H1 => to σ H1 fun x H2 => ∃ a C : Addr, x = .ref a ∧ OexG K C ∧ findIn K (.ref C) fl = some none ∧ H2 a = some (exo a C none) ∧ ∀ dx, H2 dx = none → dx ≠ a → N.nx σ (upd (upd H2 dx (exd dx [(fl, y)])) a (exo a C (some dx)))
theorem ps_setB {o e : Expr} {to te : TE} {p1 pos : Pos} (ho : PE X o to) (he : PE X e te) (hs : swapsWith e (some (.Attribute o fl p1)) pos.line X.env = pure false := by rfl) : PS X (.Assign [.Attribute o fl p1] e pos) (tSetB X.K fl to te) := by
  refine ⟨fun pn st τ G N I q => plainObj_wpAny_Assign_Attribute (thn (he.run pn st τ G _ I q) fun z1 st1 k1 => ?_) hs⟩
  obtain ⟨y, G1, I1, r1, q1⟩ := k1
  refine thn (ho.run pn st1 τ G1 _ I1 q1) fun z2 st2 k2 => ?_
  obtain ⟨x, G2, I2, r2, a, C, rfl, T, nf, ea, q⟩ := k2
  obtain rfl : z2 = Value.ref a := r2
  exact setB_new T I2 ea nf r1 fun dx st' n ne J => ⟨τ, _, J, q dx n ne⟩
theorem pmkB {e : Expr} {es : List Expr} {ta : TA} {p pos : Pos} {CX : CXT} {x : Str} {fI : Addr} {k : Nat} {fd : FuncData} {ps : List Str} {sp : Sp} {ds : List Value} {dvs : List V} (T : OexG X.K C) (iC : findIn X.K (.ref C) "__init__" = some (some (.ref fI))) (tI : typeIn X.K (.ref fI) = some (.type "function"))
    (FI : FnOk X.prog X.w X.K X.mg X.base CX k fI fd ps sp) (rm : Room (k + 1) X.A) (bn : Binds X.K fd ps ds) (vd : Vals dvs ds) (px : Passes CX X (fun _ _ _ => False)) (hg : Gl X x) (hm : X.mg x = some (.ref C)) (ha : PA X (e :: es) ta)
    (hdb : (x == ("__debug__" : Str)) = false := by decide) (he : starEach (e :: es) X.env = (false, eval e X.env) :: starEach es X.env := by rfl) (hpl : (backTo pos (starEach es X.env)).any (·.1) = false := by rfl) :
    PMk X (.Call (.Name x p) (e :: es) [] pos) (tMkO C sp dvs ta) := by
  intro pn st τ G Q I h
  obtain ⟨nw, tl, nm, qn, ns, bb, sn, su, ab, co, dc, c0, c1, c2, c3, c5, b, hC⟩ := T.cls
  obtain ⟨B, ini, fac⟩ := b.fac
  refine wpAny_Call_Name_kw (ld_glob I hg hm (callWith_K (h₀ := X.base) I.ok.mod.kin T.kep (thn (ha.run pos pn st τ G _ I h) fun us st1 k1 => ?_) he hpl) hdb)
  obtain ⟨vs, G1, I1, r1, hz, q1⟩ := k1
  refine ⟨I1.kIn, ?_⟩
  show wpAny _ _ (call (.ref C) us) _ _ _
  obtain ⟨hp, gn, dn, tn, os⟩ := st1
  have up1 : hp.objs.size ≤ hp.objs.size + 1 := Nat.le_succ _
  have hq := q1 (hp.objs.size + 1) (I1.hok.fresh up1)
  have kp : ∀ c o, hp.get? c = some o → ((hp.push (kdv_tup us)).push (excO C hp.objs.size)).get? c = some o := fun c o z => Heap.get?_push_of_some _ (Heap.get?_push_of_some _ z)
  have at1 : ((hp.push (kdv_tup us)).push (excO C hp.objs.size)).get? (hp.objs.size + 1) = some (excO C hp.objs.size) := by heap_get
  have I2 : Inv X pn τ (upd G1 (hp.objs.size + 1) (exo (hp.objs.size + 1) C none)) ⟨(hp.push (kdv_tup us)).push (excO C hp.objs.size), gn, dn, tn, os⟩ := I1.laid (t' := tn) (a := hp.objs.size + 1) (o := exo (hp.objs.size + 1) C none) (h' := (hp.push (kdv_tup us)).push (excO C hp.objs.size)) kp up1 (exo_ok at1)
  have rr : Vals (V.ref (hp.objs.size + 1) :: (vs ++ dvs)) (Value.ref (hp.objs.size + 1) :: (us ++ ds)) := .cons rfl (r1.append vd)
  have len : (Value.ref (hp.objs.size + 1) :: us ++ ds).length = ps.length := by
    have z := rr.length
    rw [FI.len _ _ _ _ hq] at z
    exact z.symm
  have lu : us.length ≤ sizeLine := by rw [← Paired.length r1, sizeLine_eq]; omega
  have run := FI.run _ X.stack _ _ ⟨Value.ref (hp.objs.size + 1) :: us, []⟩ (Value.ref (hp.objs.size + 1) :: (us ++ ds)) _ _ (fun _ _ _ => False) (rm.make C us []) (I2.env0.make C us []) (bn _ (Value.ref (hp.objs.size + 1) :: us) I2.kIn len) rr hq
  refine wpAny_call (call_own fac (fun _ => rfl) (I1.kIn _ _ hC) (looks_findIn I1.kIn iC) (fun z => bind_fn I1.kIn z tI) lu (codeAny_mono run fun r st' z => ?_))
  cases r with
  | error er => exact px pn τ _ _ er st' I2 z
  | ok f =>
    cases f with
    | ret v =>
      obtain ⟨v', G2, os2, br, un, hok, rv, rfl, d, fs, ea, ed, hd, q2⟩ := z
      obtain ⟨h2, g2, d2, t2, os'⟩ := st'
      exact ⟨rv, mk_end (raises_own T.exc T.typ) I1 up1 kp un hok os2 br ea ed hd q2⟩
    | next => exact z.elim
    | brk => exact z.elim
    | cont => exact z.elim
end
/-- the look: C is an own class over such a base, with a dict -/
def oexB (K : Frag) (C : Addr) : Bool := (match K.lookup C with
  | some ⟨.type "type", _, .cls cd, sl⟩ => (match cd.mro, sl.toList with
    | .ref C' :: bm, [_, _, _, _, some (.builtin n), _] => C' == C && bseOf n == bm && !bm.isEmpty && !cd.hasDel && cd.hasDict
    | _, _ => false)
  | _ => false) && (decide (findIn K (.ref C) "__setattr__" = some (some (.builtin "object.__setattr__"))) && (decide (subIn K (.ref C) (.type "BaseException") = some true) && (decide (typeIn K (.ref C) = some (.type "type")) && keepIn K (.ref C))))
theorem oexB_ok {K : Frag} {C : Addr} (h : oexB K C = true) : OexG K C := by
  obtain ⟨q, h⟩ := Bool.and_eq_true_iff.mp h
  obtain ⟨h2, h⟩ := Bool.and_eq_true_iff.mp h
  obtain ⟨h3, h⟩ := Bool.and_eq_true_iff.mp h
  obtain ⟨h4, h5⟩ := Bool.and_eq_true_iff.mp h
  refine ⟨?_, of_decide_eq_true h2, of_decide_eq_true h3, of_decide_eq_true h4, h5⟩
  split at q
  · rename_i dd cd sl ho
    split at q
    · rename_i C' bm k0 k1 k2 k3 n k5 hm hs
      simp only [Bool.and_eq_true, beq_iff_eq, Bool.not_eq_true'] at q
      obtain ⟨⟨⟨⟨rfl, hb⟩, hne⟩, hdel⟩, hdi⟩ := q
      obtain ⟨nm, bs, mro, ns, qn, hd, sn, sub, ab, col, del⟩ := cd
      dsimp only at hm hdel hdi
      subst hm hdel hdi
      have hsl : sl = #[k0, k1, k2, k3, some (.builtin n), k5] := by
        obtain ⟨l⟩ := sl
        simp only at hs
        rw [hs]
      subst hsl
      exact ⟨n, bm, nm, qn, ns, bs, sn, sub, ab, col, dd, k0, k1, k2, k3, k5, bse_of hb (by rintro rfl; cases hne), ho⟩
    · cases q
  · cases q
end DL

end

section
set_option Elab.async false
set_option linter.all false
set_option maxRecDepth 100000
set_option maxHeartbeats 2000000
/-! DU: own errors with one field: made, raised. -/
namespace DL
open PySem L2
/-- what __init__ does: self.f = its one argument -/
def spI (C : Addr) (f : Str) : Sp := fun vs H Q _ => ∃ a v, vs = [.ref a, v] ∧ H a = some (exo a C none) ∧ ∀ dx, H dx = none → dx ≠ a → Q .non (upd (upd H dx (exd dx [(f, v)])) a (exo a C (some dx)))
section
variable {P : Program} {w : World} {K : Frag} {mg : Str → Option Value} {base : Heap} {x qual : Str} {params : Arguments} {body : List Stmt} {scope : Scope} {f : Addr} {fd : FuncData} {s0 s1 : Str}
theorem init_ok {C : Addr} {fl : Str} {p1 p2 p3 p4 : Pos} (T : OexG K C) (hno : PySem.W.findIn K (.ref C) fl = some none) (F : FunD K x qual params [.Assign [.Attribute (.Name "self" p1) fl p2] (.Name s1 p3) p4] scope [] [] f fd) (S : FnScope ["self", s1] ["self", s1] scope)
    (v0 : Vis scope "self") (v1 : Vis scope s1) (d1 : (s1 == ("__debug__" : Str)) = false) (c1 : (s1 == ("__classdict__" : Str)) = false) :
    FnOk P w K mg base (L2.CX P w) 1 f fd ["self", s1] (spI C fl) := by
  refine F.ok S (fun vs H Q E h => by obtain ⟨a, v, rfl, _⟩ := h; rfl) fun cdv A outer s H vs Q E hr h => ?_
  obtain ⟨a, v, rfl, ha, q⟩ := h
  exact ⟨_, pss_one (ps_setB (pe_var (i := 0) rfl v0) (pe_var (i := 1) rfl v1 d1 c1)), v, rfl, .ref a, rfl, a, C, rfl, T, hno, ha, q⟩
end
/-- an own error class of the text: where it stands, its field, its making -/
structure ErrD (P : Program) (w : World) (K : Frag) (mg : Str → Option Value) (base : Heap) (x fl : Str) : Prop where
  gC : mg x = some (.ref (He.ga K x))
  oex : OexG K (He.ga K x)
  xf : XfC K (He.ga K x)
  no : PySem.W.findIn K (.ref (He.ga K x)) fl = some none
  ini : ∃ fI fd ps, PySem.W.findIn K (.ref (He.ga K x)) "__init__" = some (some (.ref fI)) ∧ PySem.W.typeIn K (.ref fI) = some (.type "function") ∧ FnOk P w K mg base (L2.CX P w) 1 fI fd ps (spI (He.ga K x) fl) ∧ Binds K fd ps []
/-- raise C(a) -/
def fRaise (C : Str) (fl : Str) (fa : Ev → Rs D) (env : Ev) : Rs Fl := (fa env).bind fun e d => .er e C fl d
section
variable {X : Cx} {W : WX} {k : Nat} {a : Expr} {fa : Ev → Rs D} {fl x : Str} {p pos pos2 : Pos}
theorem del_upd {H : Hp} {a dx : Addr} {o1 o2 o3 u : HO} (na : H a = none) (hne : dx ≠ a) : upd (del (upd (upd (upd H a o1) dx o2) a o3) a) dx u = upd H dx u := by
  funext b
  by_cases h1 : b = dx
  · subst h1; rw [upd_same, upd_same]
  · rw [upd_ne h1, upd_ne h1]
    by_cases h2 : b = a
    · subst h2; rw [del_same, na]
    · rw [del_ne h2, upd_ne h2, upd_ne h1, upd_ne h2]
theorem ds_raise (B : Bd X W k) (T : ErrD X.prog X.w X.K X.mg X.base x fl) (hk : 2 ≤ k) (ha : DE X W a fa) (hg : Gl X x := by rfl) (hdb : (x == ("__debug__" : Str)) = false := by decide)
    (he : starEach [a] X.env = (false, eval a X.env) :: starEach [] X.env := by rfl) (hpl : (backTo pos (starEach [] X.env)).any (·.1) = false := by rfl) :
    DS X W (.Raise (some (.Call (.Name x p) [a] [] pos)) none pos2) (fRaise x fl fa) := by
  obtain ⟨fI, fd, ps, iC, tI, F, hb⟩ := T.ini
  refine ps_mono (ps_raise B.hc B.tk (pmkB (dvs := []) T.oex iC tI F (B.hr.mono hk) hb .nil (passes_call B.tk fun _ _ _ _ z => z.elim) hg T.gC (da_cons ha da_nil he) hdb he hpl)) fun N σ H q => ?_
  obtain ⟨E, H0, env, S, q⟩ := q
  show WP X.K W (RA X.K) (fCons fa fNil) σ H _
  refine ⟨E, H0, env, S, ?_⟩
  unfold fRaise at q
  unfold fCons
  cases h : fa env with
  | ok e d =>
    rw [h] at q
    intro vs H1 H' s1 S1 r
    obtain ⟨v, rfl, rv⟩ := rpa1 r
    refine ⟨by simp, fun b nb => ⟨b, v, rfl, upd_same, fun dx nd hne => ⟨rfl, dx, [(fl, v)], upd_same, ?_, ?_, ?_⟩⟩⟩
    · rw [upd_ne hne, upd_same]
    · rw [upd_ne hne] at nd; exact nd
    · rw [upd_ne hne] at nd
      rw [del_upd nb hne]
      exact q v dx σ _ _ (s1.trans (S1.same_new _ nd)) (S1.new (.xd [(fl, v)]) nd) (rv.mono (S1.same_new _ nd)) upd_same
  | er e C' fl' d =>
    rw [h] at q
    exact fun v dd H1 H' => q v dd σ H1 H'
  | no =>
    rw [h] at q
    exact q
end
end DL

end

section
set_option Elab.async false
set_option linter.all false
set_option maxRecDepth 100000
set_option maxHeartbeats 2000000
/-! DV: own errors caught: try, except C as e. -/
namespace DL
open PySem L2
/-- readings in a suite: G is what is known of the caught error -/
structure Gd where
  G : Hp → St → Prop
  up : ∀ {H0 H1 : Hp} {σ : St}, Same H0 H1 → G H0 σ → G H1 σ
def WPg {α β : Type} (g : Gd) (K : Frag) (R : RelT α β) (f : Ev → Rs α) : St → Hp → (β → Hp → Prop) → Prop :=
  fun σ H Q => ∃ E H0 env, g.G H0 σ ∧ StR K E H0 H σ env ∧ Post K W0 R E H0 σ Q (f env)
def tDSg (g : Gd) (K : Frag) (f : Ev → Rs Fl) : TS := fun N σ H => ∃ E H0 env, g.G H0 σ ∧ StR K E H0 H σ env ∧ PostS K W0 E H0 N (f env)
abbrev DEg (X : Cx) (g : Gd) (e : Expr) (f : Ev → Rs D) : Prop := PE X e (WPg g X.K (RD X.K) f)
abbrev DTg (X : Cx) (g : Gd) (e : Expr) (f : Ev → Rs Bool) : Prop := PT X e (WPg g X.K RB f)
abbrev DAg (X : Cx) (g : Gd) (es : List Expr) (f : Ev → Rs (List D)) : Prop := PA X es (WPg g X.K (RA X.K) f)
abbrev DFg (X : Cx) (g : Gd) (e : Expr) (f : Ev → Rs (List D)) : Prop := PE X e (WPg g X.K (RF X.K) f)
abbrev DSg (X : Cx) (g : Gd) (st : Stmt) (f : Ev → Rs Fl) : Prop := PS X st (tDSg g X.K f)
abbrev DSsg (X : Cx) (g : Gd) (st : List Stmt) (f : Ev → Rs Fl) : Prop := PSs X st (tDSg g X.K f)
section
variable {K : Frag} {E : En} {H0 H1 H : Hp} {σ : St} {env : Ev} {α β γ δ : Type} {R : RelT α β} {R' : RelT γ δ} {g : Gd}
theorem WPg.bind {f : Ev → Rs α} {k : Ev → α → Rs γ} {Q : δ → Hp → Prop} {Q' : β → Hp → Prop} (i : g.G H0 σ) (S : StR K E H0 H σ env) (h : Post K W0 R' E H0 σ Q ((f env).bind k))
    (hk : ∀ env' a b H1 H', g.G H1 σ → StR K E H1 H' σ env' → Same H0 H1 → R E σ env' H1 H' a b → Post K W0 R' E H1 σ Q (k env' a) → Q' b H') : WPg g K R f σ H Q' := by
  refine ⟨E, H0, env, i, S, ?_⟩
  cases e : f env with
  | ok env' a =>
    rw [e] at h
    exact fun b H1 H' s S' r => hk env' a b H1 H' (g.up s i) S' s r (h.up s)
  | er env' C fl d =>
    rw [e] at h
    exact h
  | no =>
    rw [e] at h
    exact h
theorem WPg.bindS {f : Ev → Rs α} {k : Ev → α → Rs Fl} {N : Ends} {Q' : β → Hp → Prop} (i : g.G H0 σ) (S : StR K E H0 H σ env) (h : PostS K W0 E H0 N ((f env).bind k))
    (hk : ∀ env' a b H1 H', g.G H1 σ → StR K E H1 H' σ env' → Same H0 H1 → R E σ env' H1 H' a b → PostS K W0 E H1 N (k env' a) → Q' b H') : WPg g K R f σ H Q' := by
  refine ⟨E, H0, env, i, S, ?_⟩
  cases e : f env with
  | ok env' a =>
    rw [e] at h
    exact fun b H1 H' s S' r => hk env' a b H1 H' (g.up s i) S' s r (h.up s)
  | er env' C fl d =>
    rw [e] at h
    exact fun v dd H1 H' => h v dd σ H1 H'
  | no =>
    rw [e] at h
    exact h
end
section
variable {X : Cx} {g : Gd} {e a b : Expr} {es : List Expr} {fa fb : Ev → Rs D} {fs : Ev → Rs (List D)} {pos : Pos}
theorem deg_of (h : DE X W0 e fa) : DEg X g e fa := pe_mono h fun σ H Q q => by
  obtain ⟨E, H0, env, _, S, q⟩ := q
  exact ⟨E, H0, env, S, q⟩
theorem dag_nil : DAg X g [] fNil := pa_mono (da_nil (W := W0)) fun σ H Q q => by
  obtain ⟨E, H0, env, _, S, q⟩ := q
  exact ⟨E, H0, env, S, q⟩
theorem dag_cons (ha : DEg X g e fa) (hr : DAg X g es fs) (hs : starEach (e :: es) X.env = (false, eval e X.env) :: starEach es X.env := by rfl) : DAg X g (e :: es) (fCons fa fs) := by
  refine pa_mono (pa_cons ha hr hs) fun σ H Q q => ?_
  obtain ⟨E, H0, env, i, S, q⟩ := q
  exact WPg.bind i S q fun e1 x v H1 H' i1 S1 s1 r1 q1 => WPg.bind i1 S1 q1 fun e2 xs vs H2 H'' i2 S2 s2 r2 q2 => Post.here S2 q2 (.cons (r1.mono s2) r2)
theorem dsg_ret (h : DEg X g a fa) : DSg X g (.Return (some a) pos) (fRet fa) := by
  refine ps_mono (ps_ret h) fun N σ H q => ?_
  obtain ⟨E, H0, env, i, S, q⟩ := q
  exact WPg.bindS i S q fun e1 x v H1 H' i1 S1 s1 r1 q1 => q1 v σ H1 H' (Same.refl _) S1 r1
theorem dsg_retF (h : DFg X g a fs) : DSg X g (.Return (some a) pos) (fun env => (fs env).bind fun e ds => .ok e (.rt (.fr ds))) := by
  refine ps_mono (ps_ret h) fun N σ H q => ?_
  obtain ⟨E, H0, env, i, S, q⟩ := q
  exact WPg.bindS i S q fun e1 x v H1 H' i1 S1 s1 r1 q1 => q1 v σ H1 H' (Same.refl _) S1 r1
theorem deg_N {r : List V → Hp → VK → Prop} {gn : List D → Option D} (hv : VN X.K r gn) (ha : DAg X g es fs) (h : PE X e (tCB r (WPg g X.K (RA X.K) fs))) : DEg X g e (fN gn fs) := by
  refine pe_mono h fun σ H Q q => ?_
  obtain ⟨E, H0, env, i, S, q⟩ := q
  exact WPg.bind i S q fun e1 xs vs H1 H' i1 S1 s1 r1 q1 => q1.fin S1 fun d ed k => hv H1 H' xs d vs Q S1.s1 r1 ed k
theorem deg_tup {x1} (ha : DAg X g es fs) : DEg X g (.Tuple es x1 pos) (fN gTup fs) := deg_N vn_tup ha (pe_tup ha)
theorem deg_lst (ha : DAg X g es fs) : DEg X g (.List es pos) (fN gLst fs) := deg_N vn_lst ha (pe_lst ha)
theorem dfg_lst (ha : DAg X g es fs) : DFg X g (.List es pos) (fLst fs) := by
  refine pe_mono (pe_lst ha) fun σ H Q q => ?_
  obtain ⟨E, H0, env, i, S, q⟩ := q
  refine WPg.bind i S q fun e1 ds vs H1 H' i1 S1 s1 r1 q1 => ?_
  by_cases hz : small ds.length = true
  · rw [if_pos hz] at q1
    refine ⟨by rw [← RpA.length r1]; exact le_line (small_le hz), fun p n => ?_⟩
    obtain ⟨S2, r2⟩ := S1.laid r1 n
    exact q1 _ H1 _ (Same.refl _) S2 r2
  · rw [if_neg hz] at q1
    exact (show False from q1).elim
theorem dssg_one {st : Stmt} {f : Ev → Rs Fl} (h : DSg X g st f) : DSsg X g [st] f := pss_one h
end
/-- the caught error: slot i holds it, its dict lies at dd -/
def gx (K : Frag) (i : Nat) (a dd : Addr) (fl : Str) (v : V) (d : D) : Gd where
  G := fun H0 σ => H0 dd = some (.xd [(fl, v)]) ∧ Rp K H0 d v ∧ σ[i]? = some (some (.ref a))
  up := fun s h => ⟨s _ _ h.1, h.2.1.mono s, h.2.2⟩
section
variable {X : Cx} {i : Nat} {a dd C : Addr} {fl n : Str} {v : V} {d : D} {oe : Obj} {pn : List (Addr × Obj)} {pos p : Pos}
/-- e.fl -/
theorem deg_fld (T : XfC X.K C) (hno : PySem.W.findIn X.K (.ref C) fl = some none) (hz : Zc (.ref C) (some dd) oe) (hf : ∃ vs, oe.data = .fields vs) (hN : X.N[i]? = some n := by rfl) (hv : Vis X.env.scope n := by first | exact Or.inl rfl | exact Or.inr (Or.inl rfl) | exact Or.inr (Or.inr rfl))
    (hdb : (n == ("__debug__" : Str)) = false := by decide) (hcd : (n == ("__classdict__" : Str)) = false := by decide) (hb : attributeBase (.Name n p) fl X.env (eval (.Name n p) X.env) = eval (.Name n p) X.env := by rfl) :
    DEg (X.suite a ((a, oe) :: pn)) (gx X.K i a dd fl v d) (.Attribute (.Name n p) fl pos) (fC d) := by
  refine pe_mono (pe_xf T hno hz hf (pe_var (X := X.suite a ((a, oe) :: pn)) (i := i) hN hv hdb hcd) hb) fun σ H Q q => ?_
  obtain ⟨E, H0, env, ⟨h1, h2, h3⟩, S, q⟩ := q
  exact ⟨.ref a, h3, rfl, rfl, dd, [(fl, v)], v, rfl, S.s1 _ _ h1, by simp [List.lookup], q v H0 H (Same.refl _) S h2⟩
end
/-! ### try -/
def fTry (cs : List (Str × Bool)) (i : Nat) (fl0 : Str) (fb : Ev → Rs Fl) (fs : D → Ev → Rs Fl) (env : Ev) : Rs Fl := match fb env with
  | .er e C fl d => (match cs.lookup C with
    | some true => if fl = fl0 ∧ plainSl e[i]? = true then (match fs d (e.set i .un) with
      | .ok e2 (.rt r) => .ok e2 (.rt r)
      | .ok e2 f => if plainSl e2[i]? = true then .ok (e2.set i .un) f else .no
      | _ => .no) else .no
    | some false => .er e C fl d
    | none => .no)
  | r => r
theorem StR.setUn {K : Frag} {E : En} {H0 H : Hp} {σ : St} {env : Ev} (S : StR K E H0 H σ env) {i : Nat} (hp : plainSl env[i]? = true) (o : Option V) : StR K E H0 H (σ.set i o) (env.set i .un) :=
  S.wiped (vs := [i]) (S.noRef fun v hv => by cases List.mem_singleton.mp hv; exact hp) (by simp [wipe]) (by simp)
theorem plain_lt {env : Ev} {i : Nat} (h : plainSl env[i]? = true) : i < env.length := by
  cases q : env[i]? with
  | none => rw [q] at h; cases h
  | some s => exact (List.getElem?_eq_some_iff.mp q).1
section
variable {X : Cx} {W : WX} {k i : Nat} {x n : Str} {body suite : List Stmt} {b₀ : Stmt} {np pos pos' : Pos} {fb : Ev → Rs Fl} {fs : D → Ev → Rs Fl} {fl0 : Str} {cs : List (Str × Bool)}
theorem ds_tryAs (B : Bd X W k) (hcs : ∀ c b, cs.lookup c = some b → PySem.W.exmOne X.K (.ref (He.ga X.K c)) (.ref (He.ga X.K x)) = some b ∧ (b = true → c = x)) (hc : Names X x (.ref (He.ga X.K x)))
    (hb : ∀ (W' : WX) (pn : List (Addr × Obj)) (xe : Value → Shared → Prop), Bd (X.tr pn xe) W' k → DSs (X.tr pn xe) W' body fb)
    (hsu : ∀ (a dd : Addr) (oe : Obj) (pn : List (Addr × Obj)) (v : V) (d : D), Zc (.ref (He.ga X.K x)) (some dd) oe → (∃ vs, oe.data = .fields vs) → DSsg (X.suite a ((a, oe) :: pn)) (gx X.K i a dd fl0 v d) (b₀ :: suite) (fs d))
    (hs : X.stack = X.env :: X.outer := by rfl) (hf : X.env.frame = some X.env.locals := by rfl) (hi : X.N[i]? = some n := by rfl) (hln : X.env.kindOf n = some .local := by rfl) :
    DS X W (.Try body [.ExceptHandler (some (.Name x np)) (some n) (b₀ :: suite) pos'] [] [] pos) (fTry cs i fl0 fb fs) := by
  refine ps_mono (ps_try_as (i := i) (Wout := W) (tb := fun W' => tDS X.K W' fb) (ts := fun a cls d => fun N σ H => ∃ dd v dp, cls = .ref (He.ga X.K x) ∧ d = some dd ∧ tDSg (gx X.K i a dd fl0 v dp) X.K (fs dp) N σ H) hs hf B.nd hi hln hc B.tk
    (fun W' pn xe tk ps => hb W' pn xe ⟨tk, ps, B.hc, B.nd, B.hr⟩) fun a oe cls d pn hz hf => ⟨fun pins s σ H N I h => ?_⟩) fun N σ H q => ?_
  · obtain ⟨dd, v, dp, rfl, rfl, h⟩ := h
    exact (hsu a dd oe pn v dp hz hf).run pins s σ H N I h
  · obtain ⟨E, H0, env, S, q⟩ := q
    refine ⟨E, H0, env, S, ?_⟩
    unfold fTry at q
    cases h : fb env with
    | ok e fl =>
      rw [h] at q
      cases fl <;> exact q
    | no =>
      rw [h] at q
      exact q
    | er e C' fl d =>
      rw [h] at q
      dsimp only at q
      intro v dd σ' H1 H' s1 S1 rv hx
      cases hl : cs.lookup C' with
      | none => rw [hl] at q; exact (show False from q).elim
      | some b =>
        rw [hl] at q
        obtain ⟨hm, hC⟩ := hcs C' b hl
        refine ⟨b, hm, fun hbt a na => ?_, fun hbf => ?_⟩
        · subst hbt
          cases hC rfl
          dsimp only at q
          split at q
          · rename_i hp
            obtain ⟨rfl, hp⟩ := hp
            refine ⟨dd, v, d, rfl, rfl, E, H1, e.set i .un, ⟨hx, rv, ?_⟩, S1.setUn hp _, ?_⟩
            · rw [List.getElem?_set_self (by rw [S1.len]; exact plain_lt hp)]
            · cases hq : fs d (e.set i .un) with
              | ok e2 f =>
                rw [hq] at q
                cases f with
                | rt r => exact PostS.up s1 q
                | nx =>
                  dsimp only at q
                  split at q
                  · rename_i hp2
                    exact fun σ2 H2 H3 s2 S2 => q _ _ _ (s1.trans s2) (S2.setUn hp2 none)
                  · exact (show False from q).elim
                | bk =>
                  dsimp only at q
                  split at q
                  · rename_i hp2
                    exact fun σ2 H2 H3 s2 S2 => q _ _ _ (s1.trans s2) (S2.setUn hp2 none)
                  · exact (show False from q).elim
                | ct =>
                  dsimp only at q
                  split at q
                  · rename_i hp2
                    exact fun σ2 H2 H3 s2 S2 => q _ _ _ (s1.trans s2) (S2.setUn hp2 none)
                  · exact (show False from q).elim
              | er e2 c2 f2 d2 => rw [hq] at q; exact (show False from q).elim
              | no => rw [hq] at q; exact (show False from q).elim
          · exact (show False from q).elim
        · subst hbf
          exact q v dd σ' H1 H' s1 S1 rv hx
/-- which errors the clause takes -/
theorem cs_nil {K : Frag} {x : Str} : ∀ c b, ([] : List (Str × Bool)).lookup c = some b → PySem.W.exmOne K (.ref (He.ga K c)) (.ref (He.ga K x)) = some b ∧ (b = true → c = x) := fun _ _ h => nomatch h
theorem cs_hit {K : Frag} {x : Str} {cs : List (Str × Bool)} (h : PySem.W.exmOne K (.ref (He.ga K x)) (.ref (He.ga K x)) = some true) (r : ∀ c b, cs.lookup c = some b → PySem.W.exmOne K (.ref (He.ga K c)) (.ref (He.ga K x)) = some b ∧ (b = true → c = x)) : ∀ c b, ((x, true) :: cs).lookup c = some b → PySem.W.exmOne K (.ref (He.ga K c)) (.ref (He.ga K x)) = some b ∧ (b = true → c = x) := fun c b e => by
  rw [List.lookup_cons] at e
  split at e
  · rename_i q
    have q : c = x := by simpa using q
    cases e
    subst q
    exact ⟨h, fun _ => rfl⟩
  · exact r c b e
theorem cs_not {K : Frag} {x x' : Str} {cs : List (Str × Bool)} (h : PySem.W.exmOne K (.ref (He.ga K x')) (.ref (He.ga K x)) = some false) (r : ∀ c b, cs.lookup c = some b → PySem.W.exmOne K (.ref (He.ga K c)) (.ref (He.ga K x)) = some b ∧ (b = true → c = x)) : ∀ c b, ((x', false) :: cs).lookup c = some b → PySem.W.exmOne K (.ref (He.ga K c)) (.ref (He.ga K x)) = some b ∧ (b = true → c = x) := fun c b e => by
  rw [List.lookup_cons] at e
  split at e
  · rename_i q
    have q : c = x' := by simpa using q
    cases e
    subst q
    exact ⟨h, fun z => nomatch z⟩
  · exact r c b e
end
/-! ### try without a name -/
def fTryN (cs : List (Str × Bool)) (fb fs : Ev → Rs Fl) (env : Ev) : Rs Fl := match fb env with
  | .er e C fl d => (match cs.lookup C with
    | some true => (match fs e with
      | .ok e2 f => .ok e2 f
      | _ => .no)
    | some false => .er e C fl d
    | none => .no)
  | r => r
section
variable {X : Cx} {W : WX} {k : Nat} {x : Str} {body suite : List Stmt} {b₀ : Stmt} {np pos pos' : Pos} {fb fs : Ev → Rs Fl} {cs : List (Str × Bool)}
theorem ds_tryN (B : Bd X W k) (hcs : ∀ c b, cs.lookup c = some b → PySem.W.exmOne X.K (.ref (He.ga X.K c)) (.ref (He.ga X.K x)) = some b) (hc : Names X x (.ref (He.ga X.K x)))
    (hb : ∀ (W' : WX) (pn : List (Addr × Obj)) (xe : Value → Shared → Prop), Bd (X.tr pn xe) W' k → DSs (X.tr pn xe) W' body fb)
    (hsu : ∀ (a : Addr) (oe : Obj) (pn : List (Addr × Obj)), DSs (X.suite a ((a, oe) :: pn)) W0 (b₀ :: suite) fs) (hs : X.stack = X.env :: X.outer := by rfl) (hf : X.env.frame = some X.env.locals := by rfl) :
    DS X W (.Try body [.ExceptHandler (some (.Name x np)) none (b₀ :: suite) pos'] [] [] pos) (fTryN cs fb fs) := by
  refine ps_mono (ps_try_only (Wout := W) (tb := fun W' => tDS X.K W' fb) (ts := fun _ _ _ => tDS X.K W0 fs) hs hf hc B.tk (fun W' pn xe tk ps => hb W' pn xe ⟨tk, ps, B.hc, B.nd, B.hr⟩) fun a oe cls d pn _ _ => hsu a oe pn) fun N σ H q => ?_
  obtain ⟨E, H0, env, S, q⟩ := q
  refine ⟨E, H0, env, S, ?_⟩
  unfold fTryN at q
  cases h : fb env with
  | ok e fl =>
    rw [h] at q
    cases fl <;> exact q
  | no =>
    rw [h] at q
    exact q
  | er e C' fl d =>
    rw [h] at q
    dsimp only at q
    intro v dd σ' H1 H' s1 S1 rv hx
    cases hl : cs.lookup C' with
    | none => rw [hl] at q; exact (show False from q).elim
    | some b =>
      rw [hl] at q
      refine ⟨b, hcs C' b hl, fun hbt a na => ?_, fun hbf => ?_⟩
      · subst hbt
        dsimp only at q
        refine ⟨E, H1, e, S1, ?_⟩
        cases hq : fs e with
        | ok e2 f =>
          rw [hq] at q
          have q := PostS.up s1 q
          cases f <;> exact q
        | er e2 c2 f2 d2 => rw [hq] at q; exact (show False from q).elim
        | no => rw [hq] at q; exact (show False from q).elim
      · subst hbf
        exact q v dd σ' H1 H' s1 S1 rv hx
theorem cn_nil {K : Frag} : ∀ c b, ([] : List (Str × Bool)).lookup c = some b → PySem.W.exmOne K (.ref (He.ga K c)) (.ref (He.ga K x)) = some b := fun _ _ h => nomatch h
theorem cn_cons {K : Frag} {y : Str} {b0 : Bool} (h : PySem.W.exmOne K (.ref (He.ga K y)) (.ref (He.ga K x)) = some b0) (r : ∀ c b, cs.lookup c = some b → PySem.W.exmOne K (.ref (He.ga K c)) (.ref (He.ga K x)) = some b) : ∀ c b, ((y, b0) :: cs).lookup c = some b → PySem.W.exmOne K (.ref (He.ga K c)) (.ref (He.ga K x)) = some b := fun c b e => by
  rw [List.lookup_cons] at e
  split at e
  · rename_i q
    have q : c = y := by simpa using q
    cases e
    subst q
    exact h
  · exact r c b e
end
end DL

end

section
set_option Elab.async false
set_option linter.all false
set_option maxRecDepth 100000
set_option maxHeartbeats 2000000
/-! DCd: calls, told by data. -/
namespace DL
open PySem L2
/-- what a callee does, by data: slots for the positional arguments, data for the keywords -/
abbrev GA := List Sl → List D → Rs Dr
def spC (K : Frag) (g : GA) : SpA := fun vs zs H Q E => ∃ H0 as ds, Same H0 H ∧ ArgR K H0 H as vs ∧ RpA K H0 ds zs ∧ PostD K H0 H as vs Q E (g as ds)
abbrev CalD (P : Program) (w : World) (K : Frag) (mg : Str → Option Value) (base : Heap) (k : Nat) (f : Addr) (ks : List Str) (g : GA) : Prop := FnA P w K mg base k f ks (spC K g)
section
variable {K : Frag} {H0 H H0' H' : Hp} {as : List Sl} {vs us : List V} {xs : List D} {Q : VK} {E : XK} {g : List Sl → Rs Dr} {n : Nat}
theorem get_app_l {α : Type} {l m : List α} {i : Nat} {x : α} (h : l[i]? = some x) : (l ++ m)[i]? = some x := by
  rw [List.getElem?_append_left (List.getElem?_eq_some_iff.mp h).1]; exact h
theorem rf_left {i : Nat} {o : Ob} (h : (as ++ xs.map Sl.sh)[i]? = some (.rf o)) : as[i]? = some (.rf o) := by
  by_cases hi : i < as.length
  · rw [List.getElem?_append_left hi] at h; exact h
  · rw [List.getElem?_append_right (by omega)] at h
    exact absurd h noRf
/-- further shared arguments, on a heap with new things -/
theorem sp_more (A : ArgR K H0 H as vs) (sH : Same H H') (s0 : Same H0 H0') (s1 : Same H0' H') (new : ∀ b, H b ≠ none → H0' b = H0 b) (r : RpA K H0' xs us) (hn : as.length + xs.length = n) (q : PostD K H0 H as vs Q E (g (as ++ xs.map .sh))) : spD K n g (vs ++ us) H' Q E := by
  have hl := A.len
  refine ⟨by rw [List.length_append, ← r.length, ← hl]; exact hn, H0', as ++ xs.map .sh, s1, ⟨?_, ?_, ?_⟩, ?_⟩
  · rw [List.length_append, List.length_append, List.length_map, hl, r.length]
  · intro i s e
    by_cases hi : i < as.length
    · rw [List.getElem?_append_left hi] at e
      rcases A.arg i s e with ⟨d, v, rfl, h2, h3⟩ | ⟨o, a, rfl, h2, h3, h4⟩
      · exact .inl ⟨d, v, rfl, get_app_l h2, h3.mono s0⟩
      · obtain ⟨u, hu⟩ := h4.some
        exact .inr ⟨o, a, rfl, get_app_l h2, by rw [new a (by rw [hu]; simp)]; exact h3, h4.mono s0 (by rw [hu]; exact sH _ _ hu)⟩
    · rw [List.getElem?_append_right (by omega), List.getElem?_map] at e
      cases z : xs[i - as.length]? with
      | none => rw [z] at e; cases e
      | some d =>
        rw [z] at e
        obtain ⟨v, h1, h2⟩ := r.get z
        refine .inl ⟨d, v, (Option.some.inj e).symm, ?_, h2⟩
        rw [List.getElem?_append_right (by omega), ← hl]
        exact h1
  · intro i j a o o' e1 e2 e3 e4
    have q1 := rf_left e1
    have q2 := rf_left e2
    have i1 := (List.getElem?_eq_some_iff.mp q1).1
    have i2 := (List.getElem?_eq_some_iff.mp q2).1
    rw [List.getElem?_append_left (by omega)] at e3 e4
    exact A.apart i j a o o' q1 q2 e3 e4
  · have key : ∀ {e : Ev} {H1 H2 : Hp}, Aft K H0' H' (as ++ xs.map .sh) (vs ++ us) e H1 H2 → Aft K H0 H as vs e H1 H2 := fun {e H1 H2} F => by
      refine ⟨s0.trans F.s0, F.s1, fun b hb => ?_, fun b u hb hk => ?_, fun i o a h1 h2 => F.refs i o a (get_app_l h1) (get_app_l h2)⟩
      · cases z : H b with
        | none => exact absurd z hb
        | some u => rw [F.new b (by rw [sH _ _ z]; simp), new b hb]
      · refine F.kept b u (sH _ _ hb) fun i o h1 h2 => ?_
        have q1 := rf_left h1
        have i1 := (List.getElem?_eq_some_iff.mp q1).1
        rw [List.getElem?_append_left (by omega)] at h2
        exact hk i o q1 h2
    cases e : g (as ++ xs.map .sh) with
    | ok e' dr =>
      rw [e] at q
      intro v H1 H2 F rb
      refine q v H1 H2 (key F) ?_
      cases dr with
      | sh d => exact rb
      | fr ds =>
        obtain ⟨a, ws, rfl, n1, n2, h3, h4⟩ := rb
        exact ⟨a, ws, rfl, n1, sH.free n2, h3, h4⟩
    | er e' C fl d =>
      rw [e] at q
      exact fun v dd H1 H2 F => q v dd H1 H2 (key F)
    | no =>
      rw [e] at q
      exact q
end
/-- shared data out of slots -/
def shs : List Sl → Option (List D)
  | [] => some []
  | .sh d :: r => (shs r).map (d :: ·)
  | _ => none
theorem shs_map : ∀ (ds : List D), shs (ds.map .sh) = some ds
  | [] => rfl
  | d :: r => by simp [shs, shs_map r]
theorem shs_rp {K : Frag} {H0 H : Hp} : ∀ {as : List Sl} {vs : List V} {ds : List D}, ArgR K H0 H as vs → shs as = some ds → as = ds.map .sh ∧ RpA K H0 ds vs
  | [], vs, _, A, e => by
    cases e
    have := A.len
    cases vs with
    | nil => exact ⟨rfl, .nil⟩
    | cons _ _ => cases this
  | s :: r, vs, ds, A, e => by
    cases s with
    | sh d =>
      obtain ⟨ds', e1, rfl⟩ := Option.map_eq_some_iff.mp e
      cases vs with
      | nil => have := A.len; cases this
      | cons v vs =>
        have A' : ArgR K H0 H r vs := ⟨by have := A.len; simpa using this, fun i t h => by
            have := A.arg (i + 1) t (by simpa using h)
            simpa using this, fun i j a o o' h1 h2 h3 h4 => by
            have := A.apart (i + 1) (j + 1) a o o' (by simpa using h1) (by simpa using h2) (by simpa using h3) (by simpa using h4)
            omega⟩
        obtain ⟨h1, h2⟩ := shs_rp A' e1
        rcases A.arg 0 _ rfl with ⟨d', v', q1, q2, q3⟩ | ⟨o, a, q1, _⟩
        · cases q1
          have q2 : some v = some v' := q2
          cases q2
          exact ⟨by rw [h1]; rfl, .cons q3 h2⟩
        · cases q1
    | un => cases e
    | ow _ => cases e
    | rf _ => cases e
theorem ArgR.left {K : Frag} {H0 H : Hp} {as bs : List Sl} {vs us : List V} (A : ArgR K H0 H (as ++ bs) (vs ++ us)) (h : as.length = vs.length) : ArgR K H0 H as vs ∧ ArgR K H0 H bs us := by
  have hl := A.len
  simp only [List.length_append] at hl
  refine ⟨⟨h, fun i t e => ?_, fun i j a o o' h1 h2 h3 h4 => A.apart i j a o o' (get_app_l h1) (get_app_l h2) (get_app_l h3) (get_app_l h4)⟩, ⟨by omega, fun i t e => ?_, fun i j a o o' h1 h2 h3 h4 => ?_⟩⟩
  · have hi := (List.getElem?_eq_some_iff.mp e).1
    have := A.arg i t (get_app_l e)
    rw [List.getElem?_append_left (by omega)] at this
    exact this
  · have := A.arg (as.length + i) t (by rw [List.getElem?_append_right (by omega)]; simpa using e)
    rw [List.getElem?_append_right (by omega), show as.length + i - vs.length = i by omega] at this
    exact this
  · have r1 : ∀ {q : Nat} {s : Sl}, bs[q]? = some s → (as ++ bs)[as.length + q]? = some s := fun {q s} e => by rw [List.getElem?_append_right (by omega)]; simpa using e
    have r2 : ∀ {q : Nat} {s : V}, us[q]? = some s → (vs ++ us)[as.length + q]? = some s := fun {q s} e => by rw [List.getElem?_append_right (by omega), show as.length + q - vs.length = q by omega]; exact e
    have := A.apart (as.length + i) (as.length + j) a o o' (r1 h1) (r1 h2) (r2 h3) (r2 h4)
    omega
/-- the ways in which a call's values come to the parameters -/
def gPl (n : Nat) (dv : List D) (g : List Sl → Rs Dr) : GA := fun as _ => if Nat.beq (as.length + dv.length) n = true then g (as ++ dv.map .sh) else .no
def gKw (n m : Nat) (td : List D → List D) (g : List Sl → Rs Dr) : GA := fun as ds => if (Nat.beq as.length n && Nat.beq (as.length + (td ds).length) m) = true then g (as ++ (td ds).map .sh) else .no
def gSt (n m : Nat) (td : List D → List D) (g : List Sl → Rs Dr) : GA := fun as ds => match shs (as.drop n) with
  | some rd => if (Nat.ble n as.length && (Nat.ble rd.length 1000 && Nat.beq (n + (td ds).length + 1) m)) = true then g (as.take n ++ (td ds ++ [D.tup rd]).map .sh) else .no
  | none => .no
def gDk (n m : Nat) (ks : List Str) (g : List Sl → Rs Dr) : GA := fun as ds => if (Nat.beq as.length n && (Nat.beq (n + 1) m && Nat.beq ds.length ks.length)) = true then g (as ++ [D.dct (ks.map fun x => (.inr x : Key)) ds].map .sh) else .no
section
variable {P : Program} {w : World} {K : Frag} {mg : Str → Option Value} {base : Heap} {k n m : Nat} {f : Addr} {fd : FuncData} {ps ks : List Str} {g : List Sl → Rs Dr} {dv : List D} {dvs : List V} {ds : List Value} {gv : List Value → List Value → List Value} {tV : List V → List V} {td : List D → List D}
theorem FnA.imp {sp sp' : SpA} (F : FnA P w K mg base k f ks sp) (h : ∀ vs zs H Q E, zs.length = ks.length → sp' vs zs H Q E → sp vs zs H Q E) : FnA P w K mg base k f ks sp' := fun A outer s H us ws vs zs Q E hr e0 r rz l hq => F A outer s H us ws vs zs Q E hr e0 r rz l (h vs zs H Q E l hq)
theorem calD_plain (F : FnOk P w K mg base (L2.CX P w) k f fd ps (spD K n g)) (hb : Binds K fd ps ds) (hd : Vals dvs ds) (hv : ∀ H, RpA K H dv dvs) : CalD P w K mg base k f [] (gPl n dv g) := by
  refine (fnA_plain F hb hd).imp fun vs zs H Q E _ h => ?_
  obtain ⟨H0, as, xs, s, A, r, q⟩ := h
  by_cases hn : Nat.beq (as.length + dv.length) n = true
  · simp only [gPl, if_pos hn] at q
    exact sp_more A (Same.refl _) (Same.refl _) s (fun _ _ => rfl) (hv _) (Nat.eq_of_beq_eq_true hn) q
  · simp only [gPl, if_neg hn] at q
    exact (show False from q).elim
theorem calD_kw (F : FnOk P w K mg base (L2.CX P w) k f fd ps (spD K m g)) (hb : KBn K fd ps n ks gv (fun vs zs => vs ++ tV zs)) (ht : ∀ {H : Hp} {xs : List D} {zs : List V}, zs.length = ks.length → RpA K H xs zs → RpA K H (td xs) (tV zs)) : CalD P w K mg base k f ks (gKw n m td g) := by
  refine (fnA_kw F hb).imp fun vs zs H Q E l h => ?_
  obtain ⟨H0, as, xs, s, A, r, q⟩ := h
  by_cases hn : (Nat.beq as.length n && Nat.beq (as.length + (td xs).length) m) = true
  · simp only [gKw, if_pos hn] at q
    obtain ⟨h1, h2⟩ := Bool.and_eq_true_iff.mp hn
    exact ⟨A.len.symm.trans (Nat.eq_of_beq_eq_true h1), sp_more A (Same.refl _) (Same.refl _) s (fun _ _ => rfl) (ht l r) (Nat.eq_of_beq_eq_true h2) q⟩
  · simp only [gKw, if_neg hn] at q
    exact (show False from q).elim
theorem calD_star (F : FnS P w K mg base (L2.CX P w) k f n ks (fun vs zs => vs ++ tV zs) (spD K m g)) (ht : ∀ {H : Hp} {xs : List D} {zs : List V}, zs.length = ks.length → RpA K H xs zs → RpA K H (td xs) (tV zs)) : CalD P w K mg base k f ks (gSt n m td g) := by
  refine (fnA_star F).imp fun vs zs H Q E l h => ?_
  obtain ⟨H0, as, xs, s, A, r, q⟩ := h
  unfold gSt at q
  cases hs : shs (as.drop n) with
  | none => rw [hs] at q; exact (show False from q).elim
  | some rd =>
    rw [hs] at q
    dsimp only at q
    by_cases hn : (Nat.ble n as.length && (Nat.ble rd.length 1000 && Nat.beq (n + (td xs).length + 1) m)) = true
    · rw [if_pos hn] at q
      simp only [Bool.and_eq_true] at hn
      have h1 := Nat.le_of_ble_eq_true hn.1
      have h2 := Nat.le_of_ble_eq_true hn.2.1
      have h3 := Nat.eq_of_beq_eq_true hn.2.2
      have A0 : ArgR K H0 H (as.take n ++ as.drop n) (vs.take n ++ vs.drop n) := by rw [List.take_append_drop, List.take_append_drop]; exact A
      have hl := A.len
      obtain ⟨A1, A2⟩ := A0.left (by simp; omega)
      obtain ⟨e1, r2⟩ := shs_rp A2 hs
      refine ⟨vs.take n, vs.drop n, (List.take_append_drop n vs).symm, by simp; omega, by rw [← r2.length]; exact le_line h2, fun p np => ?_⟩
      rw [List.append_assoc]
      have q' : PostD K H0 H (as.take n) (vs.take n) Q E (g (as.take n ++ (td xs ++ [D.tup rd]).map .sh)) := by
        have hsub : ∀ {e : Ev} {H1 H2 : Hp}, Aft K H0 H (as.take n) (vs.take n) e H1 H2 → Aft K H0 H as vs e H1 H2 := fun {e H1 H2} F => by
          have low : ∀ {i : Nat} {o : Ob}, as[i]? = some (.rf o) → (as.take n)[i]? = some (.rf o) ∧ i < n := fun {i o} z => by
            by_cases hi : i < n
            · exact ⟨by rw [List.getElem?_take_of_lt hi]; exact z, hi⟩
            · have z2 : (as.drop n)[i - n]? = some (.rf o) := by rw [List.getElem?_drop, show n + (i - n) = i by omega]; exact z
              rw [e1] at z2
              exact absurd z2 noRf
          refine ⟨F.s0, F.s1, F.new, fun b u hb hk => F.kept b u hb fun i o z1 z2 => ?_, fun i o a z1 z2 => ?_⟩
          · have hi : i < n := by
              have := (List.getElem?_eq_some_iff.mp z1).1
              simp at this; omega
            rw [List.getElem?_take_of_lt hi] at z1 z2
            exact hk i o z1 z2
          · obtain ⟨y1, y2⟩ := low z1
            exact F.refs i o a y1 (by rw [List.getElem?_take_of_lt y2]; exact z2)
        cases e : g (as.take n ++ (td xs ++ [D.tup rd]).map .sh) with
        | ok e' dr => rw [e] at q; exact fun v H1 H2 F rb => q v H1 H2 (hsub F) rb
        | er e' C fl d => rw [e] at q; exact fun v dd H1 H2 F => q v dd H1 H2 (hsub F)
        | no => rw [e] at q; exact q
      have np0 : H0 p = none := s.free np
      refine sp_more A1 (same_upd np) (same_upd np0) (same_upd2 s np) (fun b hb => upd_ne (by rintro rfl; exact hb np)) (((ht l r).mono (same_upd np0)).append (.cons (.tup (SqT.of upd_same) (r2.mono (same_upd np0))) .nil)) (by simp; omega) q'
    · rw [if_neg hn] at q
      exact (show False from q).elim
theorem calD_dict (F : FnW P w K mg base (L2.CX P w) k f n ks (spD K m g)) : CalD P w K mg base k f ks (gDk n m ks g) := by
  refine (fnA_dict F).imp fun vs zs H Q E l h => ?_
  obtain ⟨H0, as, xs, s, A, r, q⟩ := h
  by_cases hn : (Nat.beq as.length n && (Nat.beq (n + 1) m && Nat.beq xs.length ks.length)) = true
  · simp only [gDk, if_pos hn] at q
    simp only [Bool.and_eq_true] at hn
    have h1 := Nat.eq_of_beq_eq_true hn.1
    have h2 := Nat.eq_of_beq_eq_true hn.2.1
    refine ⟨A.len.symm.trans h1, fun p np => ?_⟩
    have np0 : H0 p = none := s.free np
    have rd : Rp K (upd H0 p (.dK ((ks.map fun x => (.inr x : Key)).zip zs))) (D.dct (ks.map fun x => (.inr x : Key)) xs) (.ref p) := by
      have e1 : ((ks.map fun x => (.inr x : Key)).zip zs).map (·.1) = ks.map fun x => (.inr x : Key) := List.map_fst_zip (by simp; omega)
      have e2 : ((ks.map fun x => (.inr x : Key)).zip zs).map (·.2) = zs := List.map_snd_zip (by simp; omega)
      have := Rp.dct (K := K) (H := upd H0 p (.dK ((ks.map fun x => (.inr x : Key)).zip zs))) (ds := xs) (upd_same) (by rw [e2]; exact r.mono (same_upd np0))
      rw [e1] at this
      exact this
    exact sp_more A (same_upd np) (same_upd np0) (same_upd2 s np) (fun b hb => upd_ne (by rintro rfl; exact hb np)) (.cons rd .nil) (by simp; omega) q
  · simp only [gDk, if_neg hn] at q
    exact (show False from q).elim
end
end DL

end

section
set_option Elab.async false
set_option linter.all false
set_option maxRecDepth 100000
set_option maxHeartbeats 2000000
/-! DCe: arguments by data, calls, instances made, their fields and methods. -/
namespace DL
open PySem L2
abbrev RAK (K : Frag) : RelT (List D × List D) (List V × List V) := fun _ _ _ H1 _ d v => RpA K H1 d.1 v.1 ∧ RpA K H1 d.2 v.2
abbrev tDK (K : Frag) (W : WX) (f : Ev → Rs (List D × List D)) : TKA := fun σ H R => WP K W (RAK K) f σ H (fun p H' => R p.1 p.2 H')
abbrev DArg (X : Cx) (W : WX) (args : List Expr) (kws : List Keyword) (ks : List Str) (f : Ev → Rs (List D × List D)) : Prop := PArg X args kws ks (tDK X.K W f)
abbrev DK (X : Cx) (W : WX) (kws : List Keyword) (f : Ev → Rs (List D)) : Prop := PK X kws (tDA X.K W f)
def faNo (env : Ev) : Rs (List D × List D) := .ok env ([], [])
def faPl (fa : Ev → Rs (List D)) (env : Ev) : Rs (List D × List D) := (fa env).bind fun e ds => .ok e (ds, [])
def faKw (m : Nat) (fa fk : Ev → Rs (List D)) (env : Ev) : Rs (List D × List D) := (fa env).bind fun e ds => (fk e).bind fun e zs => if Nat.beq zs.length m = true then .ok e (ds, zs) else .no
def faSt (m : Nat) (fa : Ev → Rs D) (fk : Ev → Rs (List D)) (env : Ev) : Rs (List D × List D) := (fa env).bind fun e y => (fk e).bind fun e zs => if Nat.beq zs.length m = true then (match itemsD y with
  | some xs => .ok e (xs, zs)
  | none => .no) else .no
section
variable {X : Cx} {W : WX} {e : Expr} {es : List Expr} {kws : List Keyword} {ks : List Str} {fa fk : Ev → Rs (List D)} {fe : Ev → Rs D} {p : Pos} {nm : Option Str} {kpos : Pos}
theorem parg_mono {args : List Expr} {t t' : TKA} (h : PArg X args kws ks t) (m : ∀ σ H R, t' σ H R → t σ H R) : PArg X args kws ks t' := ⟨fun f pos pins s σ H R I q => h.run f pos pins s σ H R I (m σ H R q)⟩
theorem pk_mono {t t' : TA} (h : PK X kws t) (m : ∀ σ H Q, t' σ H Q → t σ H Q) : PK X kws t' := ⟨fun pos pins s σ H Q I q => h.run pos pins s σ H Q I (m σ H Q q)⟩
theorem dk_nil : DK X W [] fNil := pk_mono pk_nil fun σ H Q q => by
  obtain ⟨E, H0, env, S, q⟩ := q
  exact Post.here S q .nil
theorem dk_cons (ha : DE X W e fe) (hr : DK X W kws fk) : DK X W (⟨nm, e, kpos⟩ :: kws) (fCons fe fk) := pk_mono (pk_cons ha hr) fun σ H Q q => by
  obtain ⟨E, H0, env, S, q⟩ := q
  exact WP.bind S q fun e1 x v H1 H' S1 s1 r1 q1 => WP.bind S1 q1 fun e2 xs vs H2 H'' S2 s2 r2 q2 => Post.here S2 q2 (.cons (r1.mono s2) r2)
theorem dg_none : DArg X W [] [] [] faNo := parg_mono ga_none fun σ H R q => by
  obtain ⟨E, H0, env, S, q⟩ := q
  exact Post.here (b := (([] : List V), ([] : List V))) S q ⟨.nil, .nil⟩
theorem dg_plain (ha : DA X W (e :: es) fa) (he : starEach (e :: es) X.env = (false, eval e X.env) :: starEach es X.env := by rfl) : DArg X W (e :: es) [] [] (faPl fa) := parg_mono (ga_plain ha he) fun σ H R q => by
  obtain ⟨E, H0, env, S, q⟩ := q
  exact WP.bind S q fun e1 ds vs H1 H' S1 s1 r1 q1 => Post.here (b := (vs, ([] : List V))) S1 q1 ⟨r1, .nil⟩
theorem dg_kw {m : Nat} (hm : ks.length = m) (ha : DA X W (e :: es) fa) (hk : DK X W kws fk) (hall : ∀ pos, (backToKw pos (keywordEach kws X.env)).all (·.1.isSome) = true := by intro _; rfl) (hks : ∀ pos, (backToKw pos (keywordEach kws X.env)).filterMap (·.1) = ks := by intro _; rfl) (he : starEach (e :: es) X.env = (false, eval e X.env) :: starEach es X.env := by rfl) :
    DArg X W (e :: es) kws ks (faKw m fa fk) := parg_mono (ga_kw ha hk hall hks he) fun σ H R q => by
  obtain ⟨E, H0, env, S, q⟩ := q
  refine WP.bind S q fun e1 ds vs H1 H' S1 s1 r1 q1 => WP.bind S1 q1 fun e2 zs ws H2 H'' S2 s2 r2 q2 => ?_
  by_cases hn : Nat.beq zs.length m = true
  · rw [if_pos hn] at q2
    exact ⟨by rw [hm, ← r2.length]; exact Nat.eq_of_beq_eq_true hn, Post.here (b := (vs, ws)) S2 q2 ⟨r1.mono s2, r2⟩⟩
  · rw [if_neg hn] at q2
    exact (show False from q2).elim
theorem dg_kw0 {m : Nat} (hm : ks.length = m) (hk : DK X W kws fk) (hall : ∀ pos, (backToKw pos (keywordEach kws X.env)).all (·.1.isSome) = true := by intro _; rfl) (hks : ∀ pos, (backToKw pos (keywordEach kws X.env)).filterMap (·.1) = ks := by intro _; rfl) :
    DArg X W [] kws ks (faKw m fNil fk) := parg_mono (ga_kw0 hk hall hks) fun σ H R q => by
  obtain ⟨E, H0, env, S, q⟩ := q
  refine WP.bind S (show Post X.K W (RAK X.K) E H0 σ (fun p H' => R p.1 p.2 H') ((fk env).bind fun e zs => if Nat.beq zs.length m = true then .ok e ([], zs) else .no) from q) fun e2 zs ws H2 H'' S2 s2 r2 q2 => ?_
  by_cases hn : Nat.beq zs.length m = true
  · rw [if_pos hn] at q2
    exact ⟨by rw [hm, ← r2.length]; exact Nat.eq_of_beq_eq_true hn, Post.here (b := (([] : List V), ws)) S2 q2 ⟨.nil, r2⟩⟩
  · rw [if_neg hn] at q2
    exact (show False from q2).elim
theorem dg_star {m : Nat} (hm : ks.length = m) (he : DE X W e fe) (hk : DK X W kws fk) (hall : ∀ pos, (backToKw pos (keywordEach kws X.env)).all (·.1.isSome) = true := by intro _; rfl) (hks : ∀ pos, (backToKw pos (keywordEach kws X.env)).filterMap (·.1) = ks := by intro _; rfl) (hst : starEach [.Starred e p] X.env = [(true, eval e X.env)] := by rfl) :
    DArg X W [.Starred e p] kws ks (faSt m fe fk) := parg_mono (ga_star he hk hall hks hst) fun σ H R q => by
  obtain ⟨E, H0, env, S, q⟩ := q
  refine WP.bind S q fun e1 y v H1 H' S1 s1 r1 q1 => WP.bind S1 q1 fun e2 zs ws H2 H'' S2 s2 r2 q2 => ?_
  by_cases hn : Nat.beq zs.length m = true
  · rw [if_pos hn] at q2
    cases hi : itemsD y with
    | none => rw [hi] at q2; exact (show False from q2).elim
    | some xs =>
      rw [hi] at q2
      obtain ⟨a, us, rfl, hs, r⟩ := items_rp (r1.mono s2) hi
      refine ⟨by rw [hm, ← r2.length]; exact Nat.eq_of_beq_eq_true hn, a, us, rfl, ?_, Post.here (b := (us, ws)) S2 q2 ⟨r, r2⟩⟩
      exact hs.elim (fun z => .inr (S2.s1.seq z)) (fun z => .inl (sqT_mono S2.s1 z))
  · rw [if_neg hn] at q2
    exact (show False from q2).elim
end
/-! ### calls -/
/-- a def of the text, however it is called -/
def CalN (P : Program) (w : World) (K : Frag) (mg : Str → Option Value) (base : Heap) (k : Nat) (x : Str) (ks : List Str) (g : GA) : Prop := ∃ f, CalD P w K mg base k f ks g ∧ mg x = some (.ref f) ∧ PySem.W.keepIn K (.ref f) = true
def fCallA (g : GA) (fa : Ev → Rs (List D × List D)) (env : Ev) : Rs Dr := (fa env).bind fun e p => back e (g (p.1.map .sh) p.2)
section
variable {X : Cx} {W : WX} {k j : Nat} {args : List Expr} {kws : List Keyword} {ks : List Str} {fa : Ev → Rs (List D × List D)} {g : GA} {x m : Str} {p pos apos : Pos} {C : Str}
theorem callA_read {K : Frag} {E : En} {H0 H : Hp} {σ : St} {env : Ev} {ds zs : List D} {vs ws : List V} {Q : VK} (S : StR K E H0 H σ env) (r : RpA K H0 ds vs) (rz : RpA K H0 zs ws) (q : Post K W (RDr K) E H0 σ Q (back env (g (ds.map .sh) zs))) : spC K g vs ws H Q (WE W σ) := by
  refine ⟨H0, ds.map .sh, zs, S.s1, shArgs r, rz, ?_⟩
  cases h : g (ds.map .sh) zs with
  | ok e' dr =>
    rw [h] at q
    exact fun v H1 H' A rb => q v H1 H' A.s0 (S.aftSh A) (backRD S (fun _ _ z => z) rb)
  | er e' C fl d =>
    rw [h] at q
    exact fun v dd H1 H' A rd hx => q v dd H1 H' A.s0 (S.aftSh A) rd hx
  | no =>
    rw [h] at q
    exact q
theorem dx_callA (B : Bd X W k) (F : CalN X.prog X.w X.K X.mg X.base j x ks g) (hj : j ≤ k) (ha : DArg X W args kws ks fa) (hg : Gl X x := by rfl) (hdb : (x == ("__debug__" : Str)) = false := by decide) : DX X W (.Call (.Name x p) args kws pos) (fCallA g fa) := by
  obtain ⟨f, F, hm, hk⟩ := F
  refine pe_mono (pe_callA (E := WE W) F (B.hr.mono hj) hg hm hk (fun σ => passAt B.tk σ) ha hdb) fun σ H Q q => ?_
  obtain ⟨E, H0, env, S, q⟩ := q
  exact WP.bind S q fun e1 p v H1 H' S1 s1 r1 q1 => callA_read S1 r1.1 r1.2 q1
/-! ### instances made -/
def mkBack (e : Ev) : Rs Dr → Rs D
  | .ok e' (.sh .non) => (match (e'[0]? : Option Sl) with
    | some (Sl.rf (.ins C ns ds)) => .ok e (.obj C ns ds)
    | _ => .no)
  | .ok _ _ => .no
  | .er _ C fl d => .er e C fl d
  | .no => .no
def fMkA (C : Str) (g : GA) (fa : Ev → Rs (List D × List D)) (env : Ev) : Rs D := (fa env).bind fun e p => mkBack e (g (.rf (.ins C [] []) :: p.1.map .sh) p.2)
/-- a class of the text whose instances are made by its __init__ -/
def MkD (P : Program) (w : World) (K : Frag) (mg : Str → Option Value) (base : Heap) (k : Nat) (x : Str) (ks : List Str) (g : GA) : Prop := ∃ f, CalD P w K mg base k f ks g ∧ mg x = some (.ref (He.ga K x)) ∧ Mk K (He.ga K x) f
theorem mkA_read {K : Frag} {E : En} {H0 H : Hp} {σ : St} {env : Ev} {ds zs : List D} {vs ws : List V} {Q : VK} (S : StR K E H0 H σ env) (r : RpA K H0 ds vs) (rz : RpA K H0 zs ws) (q : Post K W (RD K) E H0 σ Q (mkBack env (g (.rf (.ins C [] []) :: ds.map .sh) zs))) : mkSp (He.ga K C) (spC K g) vs ws H Q (WE W σ) := by
  intro x dx nx ndx hne
  have n0x : H0 x = none := S.s1.free nx
  have n0d : H0 dx = none := S.s1.free ndx
  have sHH : Same H (upd (upd H dx (.own x)) x (.ins (He.ga K C) dx [])) := fun b u e => by
    rw [upd_ne (ne_of_none e nx), upd_ne (ne_of_none e ndx)]; exact e
  have s1 : Same H0 (upd (upd H dx (.own x)) x (.ins (He.ga K C) dx [])) := S.s1.trans sHH
  refine ⟨H0, .rf (.ins C [] []) :: ds.map .sh, zs, s1, refArgs (E := E) (σ := σ) (env := env) n0x ⟨dx, [], upd_same, rfl, .nil⟩ r, rz, ?_⟩
  have kept : ∀ {e' : Ev} {H1 H' : Hp}, Aft K H0 (upd (upd H dx (.own x)) x (.ins (He.ga K C) dx [])) (.rf (.ins C [] []) :: ds.map .sh) (.ref x :: vs) e' H1 H' → Same H H' := fun {e' H1 H'} A b u hb => by
    refine A.kept b u (sHH b u hb) fun i o z1 z2 => ?_
    cases i with
    | zero =>
      have : x = b := by simpa using z2
      subst this
      rw [nx] at hb; cases hb
    | succ i => exact absurd (by simpa using z1) (noRf (ds := ds) (i := i) (o := o))
  have nnew : ∀ {e' : Ev} {H1 H' : Hp}, Aft K H0 (upd (upd H dx (.own x)) x (.ins (He.ga K C) dx [])) (.rf (.ins C [] []) :: ds.map .sh) (.ref x :: vs) e' H1 H' → ∀ a, H a ≠ none → H1 a = H0 a := fun {e' H1 H'} A a ha => by
    refine A.new a ?_
    cases z : H a with
    | none => exact absurd z ha
    | some u => rw [sHH _ _ z]; simp
  cases h : g (.rf (.ins C [] []) :: ds.map .sh) zs with
  | ok e' dr =>
    rw [h] at q
    intro v H1 H' A rb
    obtain ⟨o', q1, q2⟩ := A.refs 0 _ x rfl rfl
    cases dr with
    | fr _ => exact (show False from q).elim
    | sh d =>
      cases d with
      | non =>
        refine ⟨rp_non rb, ?_⟩
        unfold mkBack at q
        dsimp only at q
        rw [q1] at q
        cases o' with
        | lst _ => exact (show False from q).elim
        | ins C' ns ds' =>
          obtain ⟨dx', fs, hx', rfl, rf⟩ := q2
          have n1x : H1 x = none := by rw [A.new x (by rw [upd_same]; simp)]; exact n0x
          have sS : Same H1 (upd H1 x (.ins (He.ga K C') dx' fs)) := same_upd n1x
          refine q (.ref x) (upd H1 x (.ins (He.ga K C') dx' fs)) H' (A.s0.trans sS) (S.grow (A.s0.trans sS) (fun b u hb => ?_) (kept A) fun a ha => ?_) (.obj upd_same (rf.mono sS))
          · by_cases z : b = x
            · subst z; rw [upd_same] at hb; rw [hx']; exact hb
            · rw [upd_ne z] at hb; exact A.s1 _ _ hb
          · rw [upd_ne (by rintro rfl; exact ha nx)]
            exact nnew A a ha
      | _ => exact (show False from q).elim
  | er e' C' fl d =>
    rw [h] at q
    exact fun v dd H1 H' A rd hx => q v dd H1 H' A.s0 (S.grow A.s0 A.s1 (kept A) (nnew A)) rd hx
  | no =>
    rw [h] at q
    exact q
theorem de_mkA (B : Bd X W k) (F : MkD X.prog X.w X.K X.mg X.base j x ks g) (hj : j + 1 ≤ k) (ha : DArg X W args kws ks fa) (hg : Gl X x := by rfl) (hdb : (x == ("__debug__" : Str)) = false := by decide) : DE X W (.Call (.Name x p) args kws pos) (fMkA x g fa) := by
  obtain ⟨f, F, hm, M⟩ := F
  refine pe_mono (pe_mkA (E := WE W) M F (B.hr.mono hj) hg hm (fun σ => passAt B.tk σ) ha hdb) fun σ H Q q => ?_
  obtain ⟨E, H0, env, S, q⟩ := q
  exact WP.bind S q fun e1 p v H1 H' S1 s1 r1 q1 => mkA_read S1 r1.1 r1.2 q1
/-! ### fields -/
def lookF (f : Str) (ns : List Str) (ds : List D) : Option D := (ns.zip ds).lookup f
theorem lookF_rp {K : Frag} {H : Hp} {f : Str} : ∀ {fs : List (Str × V)} {ds : List D} {d : D}, RpA K H ds (fs.map (·.2)) → lookF f (fs.map (·.1)) ds = some d → ∃ v, fs.lookup f = some v ∧ Rp K H d v
  | [], _, _, _, e => by simp [lookF] at e
  | q :: fs, [], _, r, _ => by cases r
  | q :: fs, d0 :: ds, d, .cons r1 r2, e => by
    unfold lookF at e
    simp only [List.map_cons, List.zip_cons_cons, List.lookup_cons] at e ⊢
    cases z : f == q.1 with
    | true =>
      rw [z] at e
      cases e
      exact ⟨q.2, by rw [List.lookup_cons, z], r1⟩
    | false =>
      rw [z] at e
      obtain ⟨v, h1, h2⟩ := lookF_rp (fs := fs) (ds := ds) (d := d) r2 e
      exact ⟨v, by rw [List.lookup_cons, z]; exact h1, h2⟩
def lookC (Cs : List Str) (f : Str) : D → Option D
  | .obj C ns ds => if Cs.contains C = true then lookF f ns ds else none
  | _ => none
def fFld (Cs : List Str) (f : Str) (fa : Ev → Rs D) : Ev → Rs D := f1 (lookC Cs f) fa
theorem de_fld {Cs : List Str} {f : Str} {a : Expr} {fa : Ev → Rs D} (hC : ∀ C ∈ Cs, Cls X.K (He.ga X.K C) ∧ NoAttr X.K (He.ga X.K C) f) (ha : DE X W a fa) (hb : attributeBase a f X.env (eval a X.env) = eval a X.env := by rfl) : DE X W (.Attribute a f pos) (fFld Cs f fa) := by
  refine pe_mono (pe_fld ha hb) fun σ H Q q => ?_
  obtain ⟨E, H0, env, S, q⟩ := q
  refine WP.bind S q fun e1 d v H1 H' S1 s1 r1 q1 => ?_
  cases hl : lookC Cs f d with
  | none => rw [hl] at q1; exact (show False from q1).elim
  | some d' =>
    rw [hl] at q1
    unfold lookC at hl
    split at hl
    · split at hl
      · rename_i hc
        cases r1 with
        | obj h r =>
          obtain ⟨v', h1, h2⟩ := lookF_rp r hl
          obtain ⟨c1, c2⟩ := hC _ (List.contains_iff_mem.mp hc)
          exact ⟨_, _, _, _, v', rfl, S1.s1 _ _ h, c1, c2, h1, Post.here S1 q1 h2⟩
      · cases hl
    · cases hl
/-- of slot i's own instance -/
def fFldO (i : Nat) (Cs : List Str) (f : Str) (env : Ev) : Rs D := match ob? env[i]? with
  | some (.ins C ns ds) => if Cs.contains C = true then lift env (lookF f ns ds) else .no
  | _ => .no
theorem de_fldO {i : Nat} {y : Str} {py : Pos} {Cs : List Str} {f : Str} (hC : ∀ C ∈ Cs, Cls X.K (He.ga X.K C) ∧ NoAttr X.K (He.ga X.K C) f) (hN : X.N[i]? = some y := by rfl) (hv : Vis X.env.scope y := by first | exact Or.inl rfl | exact Or.inr (Or.inl rfl) | exact Or.inr (Or.inr rfl)) (hdy : (y == ("__debug__" : Str)) = false := by decide) (hcd : (y == ("__classdict__" : Str)) = false := by decide)
    (hb : attributeBase (.Name y py) f X.env (eval (.Name y py) X.env) = eval (.Name y py) X.env := by rfl) : DE X W (.Attribute (.Name y py) f pos) (fFldO i Cs f) := by
  refine pe_mono (pe_fld (pe_var hN hv hdy hcd) hb) fun σ H Q q => ?_
  obtain ⟨E, H0, env, S, q⟩ := q
  unfold fFldO at q
  split at q
  · rename_i C ns ds ho
    split at q
    · rename_i hc
      obtain ⟨a, e1, n0, ⟨dx, fs, hx, rfl, r⟩, hh⟩ := S.obj ho
      cases hl : lookF f (fs.map (·.1)) ds with
      | none => rw [hl] at q; exact (show False from q).elim
      | some d =>
        rw [hl] at q
        obtain ⟨v', h1, h2⟩ := lookF_rp r hl
        obtain ⟨c1, c2⟩ := hC _ (List.contains_iff_mem.mp hc)
        exact ⟨.ref a, e1, a, _, dx, fs, v', rfl, hx, c1, c2, h1, Post.here S q h2⟩
    · exact (show False from q).elim
  · exact (show False from q).elim
/-- self.f = e -/
def putN (f : Str) : List Str → List Str
  | [] => [f]
  | g :: r => if g = f then g :: r else g :: putN f r
def putFD (f : Str) (d : D) : List Str → List D → List D
  | [], _ => [d]
  | g :: r, x :: ds => if g = f then d :: ds else x :: putFD f d r ds
  | _ :: _, [] => []
theorem putF_rp {K : Frag} {H : Hp} {f : Str} {d : D} {v : V} (rv : Rp K H d v) : ∀ {fs : List (Str × V)} {ds : List D}, RpA K H ds (fs.map (·.2)) → (putF f v fs).map (·.1) = putN f (fs.map (·.1)) ∧ RpA K H (putFD f d (fs.map (·.1)) ds) ((putF f v fs).map (·.2))
  | [], _, .nil => ⟨rfl, .cons rv .nil⟩
  | q :: fs, _, .cons r1 r2 => by
    obtain ⟨h1, h2⟩ := putF_rp (f := f) rv r2
    simp only [putF, putN, putFD, List.map_cons]
    by_cases z : q.1 = f
    · simp only [if_pos z, List.map_cons]
      exact ⟨trivial, .cons rv r2⟩
    · simp only [if_neg z, List.map_cons, h1]
      exact ⟨trivial, .cons r1 h2⟩
def fSetF (i : Nat) (Cs : List Str) (f : Str) (fa : Ev → Rs D) (env : Ev) : Rs Fl := (fa env).bind fun e d => match ob? e[i]? with
  | some (.ins C ns ds) => if (Cs.contains C && Nat.ble ns.length 900) = true then .ok (putOb e i (.ins C (putN f ns) (putFD f d ns ds))) .nx else .no
  | _ => .no
theorem ds_setF {i : Nat} {y : Str} {py p2 : Pos} {Cs : List Str} {f : Str} {a : Expr} {fa : Ev → Rs D} (hC : ∀ C ∈ Cs, Cls X.K (He.ga X.K C) ∧ NoAttr X.K (He.ga X.K C) f) (ha : DE X W a fa) (hN : X.N[i]? = some y := by rfl) (hv : Vis X.env.scope y := by first | exact Or.inl rfl | exact Or.inr (Or.inl rfl) | exact Or.inr (Or.inr rfl)) (hdy : (y == ("__debug__" : Str)) = false := by decide) (hcd : (y == ("__classdict__" : Str)) = false := by decide)
    (hs : swapsWith a (some (.Attribute (.Name y py) f p2)) pos.line X.env = pure false := by rfl) : DS X W (.Assign [.Attribute (.Name y py) f p2] a pos) (fSetF i Cs f fa) := by
  refine ps_mono (ps_fld (pe_var hN hv hdy hcd) ha hs) fun N σ H q => ?_
  obtain ⟨E, H0, env, S, q⟩ := q
  refine WP.bindS S q fun e1 d v H1 H' S1 s1 r1 q1 => ?_
  split at q1
  · rename_i C ns ds ho
    split at q1
    · rename_i hc
      obtain ⟨hc1, hc2⟩ := Bool.and_eq_true_iff.mp hc
      obtain ⟨a0, e2, n0, ⟨dx, fs, hx, rfl, r⟩, hh⟩ := S1.obj ho
      obtain ⟨c1, c2⟩ := hC _ (List.contains_iff_mem.mp hc1)
      have hlen := Nat.le_of_ble_eq_true hc2
      rw [List.length_map] at hlen
      obtain ⟨k1, k2⟩ := putF_rp (f := f) r1 r
      refine ⟨.ref a0, e2, a0, _, dx, fs, rfl, hx, c1, c2, by omega, q1 σ H1 _ (Same.refl _) (S1.chg hh (Same.refl _) (fun b u z => ?_) (fun b u z ne => by rw [upd_ne ne]; exact z) (fun _ _ => rfl) ⟨dx, putF f v fs, upd_same, k1, k2⟩)⟩
      rw [upd_ne (ne_of_none z n0)]
      exact S1.s1 _ _ z
    · exact (show False from q1).elim
  · exact (show False from q1).elim
/-! ### methods of shared instances -/
/-- a method of a class -/
def MetD (P : Program) (w : World) (K : Frag) (mg : Str → Option Value) (base : Heap) (k : Nat) (C m : Str) (ks : List Str) (g : GA) : Prop := ∃ f, CalD P w K mg base k f ks g ∧ Cls K (He.ga K C) ∧ Meth K (He.ga K C) m f
def fMet (C m : Str) (g : GA) (fo : Ev → Rs D) (fa : Ev → Rs (List D × List D)) (env : Ev) : Rs Dr := (fo env).bind fun e o => match o with
  | .obj C' ns ds => if (C' == C && !ns.contains m) = true then (fa e).bind fun e p => back e (g ((.obj C' ns ds :: p.1).map .sh) p.2) else .no
  | _ => .no
theorem look_none {m : Str} : ∀ {fs : List (Str × V)}, (fs.map (·.1)).contains m = false → fs.lookup m = none
  | [], _ => rfl
  | q :: fs, h => by
    simp only [List.map_cons, List.contains_cons, Bool.or_eq_false_iff] at h
    rw [List.lookup_cons, h.1]
    exact look_none h.2
theorem dx_met {o : Expr} {fo : Ev → Rs D} {pl : Sem Bool} (B : Bd X W k) (F : MetD X.prog X.w X.K X.mg X.base j C m ks g) (hj : j ≤ k) (ho : DE X W o fo) (ha : DArg X W args kws ks fa)
    (ht : eval (.Call (.Attribute o m apos) args kws pos) X.env = (do
      let ov ← eval o X.env
      standAt apos.atName
      let (f, first) ← holding [ov] (getMethod ov m pl)
      callWith pos f first (backTo pos (starEach args X.env)) (backToKw pos (keywordEach kws X.env))) := by rfl) : DX X W (.Call (.Attribute o m apos) args kws pos) (fMet C m g fo fa) := by
  obtain ⟨f, F, c, M⟩ := F
  refine pe_mono (pe_metA (E := WE W) (pl := pl) ho c M F (B.hr.mono hj) (fun σ => passAt B.tk σ) ha ht) fun σ H Q q => ?_
  obtain ⟨E, H0, env, S, q⟩ := q
  refine WP.bind S q fun e1 d v H1 H' S1 s1 r1 q1 => ?_
  cases r1 with
  | obj h r =>
    dsimp only at q1
    split at q1
    · rename_i hc
      obtain ⟨hc1, hc2⟩ := Bool.and_eq_true_iff.mp hc
      have hC := eq_of_beq hc1
      subst hC
      refine ⟨_, _, _, rfl, S1.s1 _ _ h, look_none (by simpa using hc2), ?_⟩
      exact WP.bind S1 q1 fun e2 p v2 H2 H'' S2 s2 r2 q2 => callA_read S2 (.cons ((Rp.obj h r).mono s2) r2.1) r2.2 q2
    · exact (show False from q1).elim
  | _ => exact (show False from q1).elim
end
end DL

end

section
set_option Elab.async false
set_option linter.all false
set_option maxRecDepth 100000
set_option maxHeartbeats 2000000
/-! DY: slices of texts and of tuples. -/
namespace DL
open PySem L2
section
variable {X : Cx} {W : WX} {a : Expr} {fa : Ev → Rs D} {lo hi : Option Expr} {fl fh : Ev → Rs (Option Int)} {pos p2 : Pos}
def fCutS (fa : Ev → Rs D) (fl fh : Ev → Rs (Option Int)) (env : Ev) : Rs D := (fa env).bind fun e x => (fl e).bind fun e l => (fh e).bind fun e h => match x with
  | .str z => if szS z = true then .ok e (.str (cutS z l h)) else .no
  | _ => .no
theorem de_cutS (ha : DE X W a fa) (hl : DP X W lo fl) (hh : DP X W hi fh) : DE X W (.Subscript a (.Slice lo hi none p2) pos) (fCutS fa fl fh) := by
  refine pe_mono (pe_slice sl_str ha hl hh) fun σ H Q q => ?_
  obtain ⟨E, H0, env, S, q⟩ := q
  refine WP.bind S q fun e1 x v H1 H' S1 s1 r1 q1 => WP.bind S1 q1 fun e2 l l' H2 H'' S2 s2 r2 q2 => WP.bind S2 q2 fun e3 h h' H3 H4 S3 s3 r3 q3 => ?_
  have r2 : l = l' := r2
  have r3 : h = h' := r3
  subst r2 r3
  cases x with
  | str z =>
    dsimp only at q3
    split at q3
    · rename_i hz
      have := szS_le hz
      exact ⟨z, rp_str r1, by rw [sizeLine_eq]; omega, q3 _ H3 H4 (Same.refl _) S3 (.str _)⟩
    · exact (show False from q3).elim
  | _ => exact (show False from q3).elim
def fCutT (fa : Ev → Rs D) (fl fh : Ev → Rs (Option Int)) (env : Ev) : Rs D := (fa env).bind fun e x => (fl e).bind fun e l => (fh e).bind fun e h => match x with
  | .tup ds => .ok e (.tup (cutD ds l h))
  | _ => .no
theorem cutD_all {α : Type} (xs : List α) {l h : Option Int} (c : HT.sIx xs.length 0 l = 0 ∧ HT.sIx xs.length xs.length h = xs.length) : cutD xs l h = xs := by
  unfold cutD
  rw [c.1, c.2]
  simp
theorem de_cutT (ha : DE X W a fa) (hl : DP X W lo fl) (hh : DP X W hi fh) : DE X W (.Subscript a (.Slice lo hi none p2) pos) (fCutT fa fl fh) := by
  refine pe_mono (pe_slice sl_tupA ha hl hh) fun σ H Q q => ?_
  obtain ⟨E, H0, env, S, q⟩ := q
  refine WP.bind S q fun e1 x v H1 H' S1 s1 r1 q1 => WP.bind S1 q1 fun e2 l l' H2 H'' S2 s2 r2 q2 => WP.bind S2 q2 fun e3 h h' H3 H4 S3 s3 r3 q3 => ?_
  have r2 : l = l' := r2
  have r3 : h = h' := r3
  subst r2 r3
  have rx := (r1.mono s2).mono s3
  cases rx with
  | tup ht r =>
    rename_i p vs ds
    refine ⟨_, _, rfl, sqT_mono S3.s1 ht, fun c => ?_, fun _ b nb => ?_⟩
    · dsimp only at q3
      rw [cutD_all ds (by rw [RpA.length r]; exact c)] at q3
      exact q3 _ H3 H4 (Same.refl _) S3 (.tup ht r)
    · exact q3 _ _ _ (S3.same_new _ nb) (S3.new (.tup _) nb) (.tup (SqT.of upd_same) ((cut_rp r l h).mono (S3.same_new _ nb)))
  | _ => exact (show False from q3).elim
end
end DL

end

section
set_option Elab.async false
set_option linter.all false
set_option maxRecDepth 100000
set_option maxHeartbeats 2000000
/-! DG: all(..), list.count, dict.get, list of a dict, replace where nothing is found, constants of classes. -/
namespace DL
open PySem L2 ClX
/-! ### all -/
def blsD : List D → Option (List Bool)
  | [] => some []
  | .bl b :: r => (blsD r).map (b :: ·)
  | _ => none
theorem bls_rp {K : Frag} {H : Hp} : ∀ {ds : List D} {vs : List V} {bs : List Bool}, RpA K H ds vs → blsD ds = some bs → vs = bs.map V.bl
  | _, _, _, .nil, e => by cases e; rfl
  | _, _, _, .cons (d := d) r t, e => by
    cases d with
    | bl b =>
      obtain ⟨bs, h1, rfl⟩ := Option.map_eq_some_iff.mp e
      rw [rp_bl r, bls_rp t h1]; rfl
    | _ => cases e
def gAll : List D → Option D
  | [.lst ds] => (blsD ds).map fun bs => .bl (bs.all id)
  | _ => none
theorem vn_all {K : Frag} : VN K (rAll K) gAll := by
  intro H0 H xs d vs Q s r e k
  unfold gAll at e
  split at e
  · rename_i ds
    obtain ⟨bs, h1, rfl⟩ := Option.map_eq_some_iff.mp e
    obtain ⟨v, rfl, rv⟩ := rpa1 r
    cases rv with
    | lst h rr =>
      cases bls_rp rr h1
      exact ⟨_, bs, rfl, .inl (.inl (s _ _ h)), k _ H0 H .refl (.bl _)⟩
  · cases e
/-! ### list.count of texts -/
section
variable {X : Cx}
theorem ty_list : TyOk X "list" (fun x H => ∃ p ys, x = .ref p ∧ SqL X.K H p ys) := by
  intro pins σ H s x v I r t
  obtain ⟨p, ys, rfl, h⟩ := t
  cases r
  obtain ⟨its, rv, ⟨ob, n, ho, hc, hd, hs⟩, hl⟩ := I.list h
  refine ⟨⟨_, ho, hc⟩, fun b e => ?_⟩
  cases e
  exact ⟨_, ho, hd⟩
theorem countIn_strs (k : Str) : ∀ (ys : List Str), PySem.Spec.countIn (.str k) (ys.map PyData.str) = ((ys.count k : Nat) : Int)
  | [] => rfl
  | y :: r => by
    have e : PySem.Spec.countIn (.str k) ((y :: r).map PyData.str) = (if PySem.Spec.same (.str y) (.str k) = true then 1 else 0) + PySem.Spec.countIn (.str k) (r.map PyData.str) := rfl
    have e2 : PySem.Spec.same (.str y) (.str k) = (y == k) := rfl
    rw [e, e2, countIn_strs k r, List.count_cons]
    by_cases h : (y == k) = true
    · rw [if_pos h, if_pos h]; push_cast; omega
    · rw [if_neg h, if_neg h]; push_cast; omega
theorem mt_countS : MtR X "list.count" (fun x xs H Q => ∃ (p : Addr) (ys : List Str) (z : Str), x = .ref p ∧ xs = [.str z] ∧ SqL X.K H p (ys.map V.str) ∧ Q (.int (ys.count z : Nat)) H) := by
  intro pins s σ H x xs v us Q I rx rxs h
  obtain ⟨p, ys, z, rfl, rfl, hs, q⟩ := h
  cases rx
  obtain ⟨u, rfl, ru⟩ := rxs.one
  obtain ⟨t, rfl⟩ := ru
  obtain ⟨its, rv, ⟨ob, n, ho, hc, hdn, hd⟩, hl⟩ := I.list hs
  refine PyProof.Rows.count_list_strs (ys := ys) (vs := its) ⟨ob, ho, hc, n, hd⟩ (strs_of_vals rv) ⟨.int (ys.count z : Nat), H, I.tok _, ⟨s.toks, ?_⟩, q⟩
  rw [countIn_strs]
end
def lstD : D → Option (List D)
  | .lst ds => some ds
  | .fz ds => some ds
  | _ => none
theorem lstD_rp {K : Frag} {H : Hp} {x : D} {v : V} {ds : List D} (r : Rp K H x v) (h : lstD x = some ds) : ∃ a vs, v = .ref a ∧ SqL K H a vs ∧ RpA K H ds vs := by
  cases r with
  | lst e r => cases h; exact ⟨_, _, rfl, .inl (.inl e), r⟩
  | fz e r => cases h; exact ⟨_, _, rfl, e, r⟩
  | _ => cases h
def fCount (fa fb : Ev → Rs D) (env : Ev) : Rs D := (fa env).bind fun e x => match lstD x with
  | some ds => (fb e).bind fun e y => (match strsD ds, y with
    | some xs, .str z => .ok e (.int (xs.count z : Nat))
    | _, _ => .no)
  | none => .no
section
variable {X : Cx} {W : WX} {k : Nat} {a b c : Expr} {fa fb fc : Ev → Rs D} {fs : Ev → Rs (List D)} {pos apos : Pos}
theorem de_count (ha : DE X W a fa) (hb : DE X W b fb) (hs : starEach [b] X.env = (false, eval b X.env) :: starEach [] X.env := by rfl) (hbase : attributeBase a "count" X.env (eval a X.env) = eval a X.env := by rfl) (hline : (apos.endLine == pos.line) = true := by rfl)
    (hfew : ((backTo pos (starEach [b] X.env)).all (fun x => !x.1) && (backToKw pos (keywordEach [] X.env)).all (fun x => x.1.isSome) && decide ([b].length + ([] : List Keyword).length + (if ([] : List Keyword).isEmpty then 0 else 1) < 30)) = true := by rfl) (hp : (backTo pos (starEach [] X.env)).any (·.1) = false := by rfl) :
    DE X W (.Call (.Attribute a "count" apos) [b] [] pos) (fCount fa fb) := by
  refine pe_mono (pe_mG ty_list PySem.F.plainAttrs_list PySem.F.slot_list_count PySem.F.type_list_count mt_countS ha (da_cons hb da_nil hs) hbase hfew hline hs hp) fun σ H Q q => ?_
  obtain ⟨E, H0, env, S, q⟩ := q
  refine WP.bind S q fun e1 x v H1 H' S1 s1 r1 q1 => ?_
  cases hx : lstD x with
  | none => rw [hx] at q1; exact (show False from q1).elim
  | some ds =>
    rw [hx] at q1
    obtain ⟨p, vs, rfl, hsq, rr⟩ := lstD_rp r1 hx
    refine ⟨⟨p, vs, rfl, S1.s1.seq hsq⟩, ?_⟩
    have q1' : Post X.K W (RD X.K) E H1 σ Q ((fCons fb fNil e1).bind fun e ys => match strsD ds, ys with
        | some xs, [.str z] => .ok e (.int (xs.count z : Nat))
        | _, _ => .no) := by
      unfold fCons fNil
      cases hb : fb e1 with
      | ok e2 y =>
        simp only [hb, Rs.bind] at q1 ⊢
        cases hz : strsD ds with
        | none => simp only [hz] at q1; exact q1
        | some xs =>
          simp only [hz] at q1 ⊢
          cases y <;> exact q1
      | er _ _ _ _ => simp only [hb, Rs.bind] at q1 ⊢; exact q1
      | no => simp only [hb, Rs.bind] at q1 ⊢; exact q1
    refine WP.bind S1 q1' fun e2 ys us H2 H'' S2 s2 r2 q2 => ?_
    split at q2
    · rename_i xs z hz
      obtain ⟨u, rfl, ru⟩ := rpa1 r2
      cases strs_rp rr hz
      exact ⟨p, xs, z, rfl, by rw [rp_str ru], S2.s1.seq (s2.seq hsq), q2 _ H2 H'' (Same.refl _) S2 (.int _)⟩
    · exact (show False from q2).elim
/-! ### dict.get -/
def lookK (k : Key) : List Key → List D → Option D
  | c :: ks, d :: ds => if c = k then some d else lookK k ks ds
  | _, _ => none
theorem lookK_rp {K : Frag} {H : Hp} {k : Key} : ∀ {kvs : List (Key × V)} {ds : List D}, RpA K H ds (kvs.map (·.2)) → (∃ d v, lookK k (kvs.map (·.1)) ds = some d ∧ valV kvs k = some v ∧ Rp K H d v) ∨ (lookK k (kvs.map (·.1)) ds = none ∧ valV kvs k = none)
  | [], _, .nil => .inr ⟨rfl, rfl⟩
  | q :: kvs, d :: ds, .cons r1 r2 => by
    by_cases h : q.1 = k
    · exact .inl ⟨d, q.2, by simp [lookK, h], by simp [valV, List.find?, h], r1⟩
    · have h2 := lookK_rp (k := k) r2
      simpa [lookK, valV, List.find?, h] using h2
def fDGet (fa fb fc : Ev → Rs D) (env : Ev) : Rs D := (fa env).bind fun e x => match x with
  | .dct ks ds => (fb e).bind fun e y => (fc e).bind fun e z => (match y with
    | .str k => .ok e ((lookK (.inr k) ks ds).getD z)
    | _ => .no)
  | _ => .no
theorem de_dget (B : Bd X W k) (ha : DE X W a fa) (hb : DE X W b fb) (hc : DE X W c fc) (m : M2 X a "get" apos b c pos := by exact ⟨rfl, rfl, rfl, rfl⟩) : DE X W (.Call (.Attribute a "get" apos) [b, c] [] pos) (fDGet fa fb fc) := by
  refine pe_mono (pe_dget2 (by have := B.hr.units; omega) ha hb hc m) fun σ H Q q => ?_
  obtain ⟨E, H0, env, S, q⟩ := q
  refine WP.bind S q fun e1 x v H1 H' S1 s1 r1 q1 => ?_
  cases r1 with
  | dct h rr =>
    rename_i p kvs ds
    refine ⟨p, rfl, .inl ⟨kvs, .inl (S1.s1 _ _ h)⟩, ?_⟩
    refine WP.bind S1 q1 fun e2 y u H2 H'' S2 s2 r2 q2 => WP.bind S2 q2 fun e3 z w H3 H3' S3 s3 r3 q3 => ?_
    cases y with
    | str kk =>
      dsimp only at q3
      rcases lookK_rp (k := .inr kk) rr with ⟨d, v', h1, h2, h3⟩ | ⟨h1, h2⟩
      · rw [h1] at q3
        exact ⟨some v', .inl ⟨kvs, .inr kk, .inl (S3.s1 _ _ (s3 _ _ (s2 _ _ h))), rp_str (r2.mono s3), h2.symm⟩, q3 v' H3 H3' (Same.refl _) S3 ((h3.mono s2).mono s3)⟩
      · rw [h1] at q3
        exact ⟨none, .inl ⟨kvs, .inr kk, .inl (S3.s1 _ _ (s3 _ _ (s2 _ _ h))), rp_str (r2.mono s3), h2.symm⟩, q3 w H3 H3' (Same.refl _) S3 r3⟩
    | _ => exact (show False from q3).elim
  | _ => exact (show False from q1).elim
/-! ### list(d), d a dict -/
def keyD : Key → D
  | .inl i => .int i
  | .inr x => .str x
theorem keys_rp {K : Frag} {H : Hp} : ∀ (kvs : List (Key × V)), RpA K H ((kvs.map (·.1)).map keyD) (kvs.map fun q => kV q.1)
  | [] => .nil
  | (.inl i, _) :: r => .cons (.int i) (keys_rp r)
  | (.inr x, _) :: r => .cons (.str x) (keys_rp r)
def gListD : List D → Option (List D)
  | [.dct ks _] => some (ks.map keyD)
  | _ => none
theorem df_listD {x : Str} {e : Expr} {p : Pos} (B : Bd X W k) (hm : X.mg x = none) (hb : bootBuiltins x = some (.type "list")) (ha : DA X W [e] fs) (hg : Gl X x := by rfl) (hn : x ≠ "__name__" := by decide) (hdb : (x == ("__debug__" : Str)) = false := by decide)
    (he : starEach [e] X.env = (false, eval e X.env) :: starEach [] X.env := by rfl) (hpl : (backTo pos (starEach [] X.env)).any (·.1) = false := by rfl) : DF X W (.Call (.Name x p) [e] [] pos) (fNewL gListD fs) := by
  refine pe_mono (pe_callTy (call_list_dK B.hc) hg hm hb ha hn hdb he hpl) fun σ H Q q => ?_
  obtain ⟨E, H0, env, S, q⟩ := q
  refine WP.bind S q fun e1 xs vs H1 H' S1 s1 r1 q1 => ?_
  cases h : gListD xs with
  | none => rw [h] at q1; exact (show False from q1).elim
  | some ds =>
    rw [h] at q1
    unfold gListD at h
    split at h
    · cases h
      obtain ⟨v, rfl, rv⟩ := rpa1 r1
      cases rv with
      | dct hd rr =>
        rename_i a kvs
        refine ⟨a, kvs, rfl, S1.s1 _ _ hd, fun l n => ?_⟩
        obtain ⟨S3, r3⟩ := S1.laid (keys_rp kvs) n
        exact q1 _ H1 _ (Same.refl _) S3 r3
    · cases h
/-! ### constants of classes, the module's own names -/
def CvD (K : Frag) (C f : Str) (d : D) : Prop := ∃ mc v u, CRead K (He.ga K C) mc ∧ CVal K (He.ga K C) mc f v u ∧ ∀ H, Rp K H d v
theorem de_cval {C f : Str} {p : Pos} {d : D} (hm : X.mg C = some (.ref (He.ga X.K C))) (T : CvD X.K C f d) (hg : Gl X C := by rfl) (hd : (C == ("__debug__" : Str)) = false := by decide) (hb : attributeBase (.Name C p) f X.env (eval (.Name C p) X.env) = eval (.Name C p) X.env := by rfl) : DE X W (.Attribute (.Name C p) f pos) (fC d) := by
  obtain ⟨mc, v, u, h1, h2, h3⟩ := T
  refine pe_mono (pe_cval (pe_glob (v := .ref (He.ga X.K C)) hg hm rfl hd) hb) fun σ H Q q => ?_
  obtain ⟨E, H0, env, S, q⟩ := q
  exact ⟨_, mc, v, u, rfl, h1, h2, q v H0 H (Same.refl _) S (h3 _)⟩
theorem de_glo {x : Str} {p : Pos} (hm : X.mg x = some (.ref (He.ga X.K x))) (hg : Gl X x := by rfl) (hd : (x == ("__debug__" : Str)) = false := by decide) : DE X W (.Name x p) (fC (.glo x)) := de_c (pe_glob (v := .ref (He.ga X.K x)) hg hm rfl hd) fun _ => .glo x
/-! ### a table of the module -/
def GlD (K : Frag) (w : World) (mg : Str → Option Value) (x : Str) (kvs : List (Str × D)) : Prop := mg x = some (.ref (He.ga K x)) ∧ ∀ k d, kvs.lookup k = some d → ∃ v, KDct K w (He.ga K x) k v ∧ ∀ H, Rp K H d v
def gIxG (x : Str) (kvs : List (Str × D)) (y z : D) : Option D := match y, z with
  | .glo n, .str k => if n = x then kvs.lookup k else none
  | _, _ => none
theorem v2_ixG {K : Frag} {w : World} {mg : Str → Option Value} {x : Str} {kvs : List (Str × D)} (T : GlD K w mg x kvs) : V2 K (rIxD K w) (gIxG x kvs) := by
  intro H0 H y z d v u Q s ry rz e k
  unfold gIxG at e
  split at e
  · split at e
    · rename_i n kk hn
      subst hn
      cases ry
      obtain ⟨v', h1, h2⟩ := T.2 kk d e
      exact ⟨_, kk, v', rfl, rp_str rz, h1, k v' H0 H .refl (h2 _)⟩
    · cases e
  · cases e
theorem de_ixG {x : Str} {kvs : List (Str × D)} {p : Pos} (T : GlD X.K X.w X.mg x kvs) (hb : DE X W b fb) (hg : Gl X x := by rfl) (hd : (x == ("__debug__" : Str)) = false := by decide) (hs : PlainIx b := by exact fun _ _ => rfl) : DE X W (.Subscript (.Name x p) b pos) (f2 (gIxG x kvs) (fC (.glo x)) fb) :=
  de_ix ix_kdict (v2_ixG T) (de_glo T.1 hg hd) hb hs
/-! ### a call of a local name that holds a def -/
def fCallL (i : Nat) (T : List (Str × GA)) (fa : Ev → Rs (List D × List D)) (env : Ev) : Rs Dr := match env[i]? with
  | some (.sh (.glo x)) => (match T.lookup x with
    | some g => fCallA g fa env
    | none => .no)
  | _ => .no
end
section
variable {X : Cx} {W : WX} {k i : Nat} {args : List Expr} {fa : Ev → Rs (List D × List D)} {y : Str} {p pos : Pos} {T : List (Str × GA)}
theorem dx_callL (B : Bd X W k) (F : ∀ x g, T.lookup x = some g → ∃ j, j ≤ k ∧ CalD X.prog X.w X.K X.mg X.base j (He.ga X.K x) [] g ∧ PySem.W.keepIn X.K (.ref (He.ga X.K x)) = true) (ha : DArg X W args [] [] fa)
    (hN : X.N[i]? = some y := by rfl) (hv : Vis X.env.scope y := by first | exact Or.inl rfl | exact Or.inr (Or.inl rfl) | exact Or.inr (Or.inr rfl)) (hdy : (y == ("__debug__" : Str)) = false := by decide) (hcd : (y == ("__classdict__" : Str)) = false := by decide) :
    DX X W (.Call (.Name y p) args [] pos) (fCallL i T fa) := by
  refine ⟨fun pins s σ H Q I q => ?_⟩
  obtain ⟨E, H0, env, S, q⟩ := q
  unfold fCallL at q
  split at q
  · rename_i x hx
    split at q
    · rename_i g hg
      obtain ⟨j, hj, F, hk⟩ := F x g hg
      obtain ⟨v, hv1, rv⟩ := S.sh hx
      cases rv
      refine wpAny_Call_Name_kw (thn ((pe_var (pos := p) hN hv hdy hcd).run pins s σ H (fun v H1 => v = .ref (He.ga X.K x) ∧ H1 = H) I ⟨_, hv1, rfl, rfl⟩) fun u s1 hu => ?_)
      obtain ⟨v, H1, I1, r1, rfl, rfl⟩ := hu
      cases r1
      have hq : tDK X.K W fa σ H1 fun vs zs H2 => spC X.K g vs zs H2 Q (WE W σ) := WP.bind S q fun e1 p v H1 H' S1 s1 r1 q1 => callA_read S1 r1.1 r1.2 q1
      refine callWith_any (P := fun h => X.K.In h) (PySem.W.keeps_K hk) (thn (ha.run _ pos pins s1 σ H1 _ I1 hq) fun a s2 hh => ?_)
      obtain ⟨us, ws, vs, zs, H2, rfl, r, rz, l2, I2, q2⟩ := hh
      exact ⟨I2.kIn, run_fnA (E := WE W) F (B.hr.mono hj) (passAt B.tk σ) I2 r rz l2 q2⟩
    · exact (show False from q).elim
  · exact (show False from q).elim
theorem tl_nil {P : Program} {w : World} {K : Frag} {mg : Str → Option Value} {base : Heap} : ∀ x g, ([] : List (Str × GA)).lookup x = some g → ∃ j, j ≤ k ∧ CalD P w K mg base j (He.ga K x) [] g ∧ PySem.W.keepIn K (.ref (He.ga K x)) = true := fun _ _ h => nomatch h
theorem tl_cons {P : Program} {w : World} {K : Frag} {mg : Str → Option Value} {base : Heap} {j : Nat} {z : Str} {g0 : GA} (hj : j ≤ k) (h : CalD P w K mg base j (He.ga K z) [] g0) (hk : PySem.W.keepIn K (.ref (He.ga K z)) = true)
    (r : ∀ x g, T.lookup x = some g → ∃ j, j ≤ k ∧ CalD P w K mg base j (He.ga K x) [] g ∧ PySem.W.keepIn K (.ref (He.ga K x)) = true) : ∀ x g, ((z, g0) :: T).lookup x = some g → ∃ j, j ≤ k ∧ CalD P w K mg base j (He.ga K x) [] g ∧ PySem.W.keepIn K (.ref (He.ga K x)) = true := fun x g e => by
  rw [List.lookup_cons] at e
  split at e
  · rename_i q
    have q : x = z := by simpa using q
    cases e
    subst q
    exact ⟨j, hj, h, hk⟩
  · exact r x g e
end
end DL

end

section
set_option Elab.async false
set_option linter.all false
set_option maxRecDepth 100000
set_option maxHeartbeats 2000000
/-! DH: the head's facts by a look of one's own; the law's call. -/
namespace DL
open PySem L2
def obsM (chk : Frag → Bool) (fn : List He.DefD) (K : Frag) : He.AlD := (chk K && fn.all fun d => d.ok K, fn.map fun d => He.fnW K d.at_)
def SaysM (chk : Frag → Bool) (fn : List He.DefD) (K : Frag) : Prop := obsM chk fn K = He.valD fn
def obsMG (n : Nat) (chk : Frag → Bool) (fn : List He.DefD) (g : Addr → Option Obj) : He.AlD := obsM chk fn (He.frG g (He.asD g n))
def hookM (n : Nat) (chk : Frag → Bool) (fn : List He.DefD) : PySem.W.Hook where
  α := He.AlD
  obs := fun s => obsMG n chk fn s.heap.get?
  val := fun _ => He.valD fn
  says := fun _ h => ∃ K : Frag, K.In h ∧ SaysM chk fn K
  of := fun _ _ e => ⟨_, He.frG_in, e⟩
  keeps := fun _ _ _ ⟨K, hK, c⟩ k => ⟨K, PySem.W.Frag.In.keeps hK k, c⟩
theorem obsMG_eq {n : Nat} {chk : Frag → Bool} {fn : List He.DefD} {g : Addr → Option Obj} {s : Shared} (h : ∀ a, g a = s.heap.get? a) : obsMG n chk fn g = (hookM n chk fn).obs s := by
  have e : g = s.heap.get? := funext h
  rw [e] <;> rfl
section
variable {ck : Frag → Bool} {fn : List He.DefD} {K : Frag}
theorem SaysM.chk (c : SaysM ck fn K) : ck K = true := (He.ba (show (ck K && fn.all fun d => d.ok K) = true from congrArg (fun z : He.AlD => z.1) c)).1
theorem SaysM.def_ (c : SaysM ck fn K) (i : Nat) {d : He.DefD} (h : fn[i]? = some d := by rfl) : ∃ fd, FunD K d.name d.qual d.params d.body d.scope (d.dvs K) (d.kws K) (He.fAd K d.at_) fd := by
  have c2 := (He.ba (show (ck K && fn.all fun d => d.ok K) = true from congrArg (fun z : He.AlD => z.1) c)).2
  have e : fn.map (fun d => He.fnW K d.at_) = fn.map He.DefD.val := congrArg (fun z : He.AlD => z.2) c
  have e2 : (fn.map fun d => He.fnW K d.at_)[i]? = (fn.map He.DefD.val)[i]? := by rw [e]
  rw [List.getElem?_map, List.getElem?_map, h] at e2
  exact He.DefD.funD (Option.some.inj e2) (List.all_eq_true.mp c2 d (List.mem_of_getElem? h))
end
/-- a tuple's items as they are written -/
def dvD : He.Dv → D
  | .non => .non
  | .bl b => .bl b
  | .int i => .int i
  | .str x => .str x
  | .ty n => .ty n
  | _ => .non
def dvF : He.Dv → Bool
  | .non => true
  | .bl _ => true
  | .int _ => true
  | .str _ => true
  | .ty _ => true
  | _ => false
theorem dv_rp {K : Frag} {H : Hp} : ∀ (vs : List He.Dv), vs.all dvF = true → RpA K H (vs.map dvD) (vs.map (He.Dv.v K))
  | [], _ => .nil
  | d :: r, h => by
    simp only [Rs.bind, List.all_cons, Bool.and_eq_true] at h
    refine .cons ?_ (dv_rp r h.2)
    cases d <;> first | exact .non | exact .bl _ | exact .int _ | exact .str _ | exact .ty _ | exact absurd h.1 Bool.false_ne_true
def tupM (K : Frag) (x : Str) (vs : List He.Dv) : Bool := (He.Fa.glo x).ok K && (He.tupB K x vs && vs.all dvF)
theorem tupM_ok {K : Frag} {h : Heap} {mg : Str → Option Value} {x : Str} {vs : List He.Dv} (X : K.In h) (G : h.Ns mainGlobals mg) (c : tupM K x vs = true) : GlT K mg x (vs.map dvD) := by
  obtain ⟨c1, c2⟩ := He.ba c
  obtain ⟨c2, c3⟩ := He.ba c2
  exact ⟨_, _, He.glo_ok X G c1, fun H => He.tupB_ok c2 H, fun H => dv_rp vs c3⟩
/-- the law's call -/
theorem walkM {l : PySem.W.OpenLaw} {n k : Nat} {q : Program} {loose : List Str} {XP : (Str → Option Value) → Heap → Prop} {YP : World → Heap → Prop} {d : DefRec} {x : Str}
    (hn : l.most = some n) (hn2 : n ≤ sizeLine) (hdf : d.params.defaults = []) (hr : Room k callerA)
    (F : ∀ (w : World) (mg : Str → Option Value) (fa : Addr) (h : Heap), YP w h → h.Ns mainGlobals mg → mg d.name = some (.ref fa) →
      ∃ (K : Frag) (fd : FuncData) (g : List Sl → Rs Dr), K.In h ∧ (∀ (s : Shared) (u : Value), BindsTo s fd ⟨[u], []⟩ [(x, u)]) ∧
        (∀ ns : List Int, ns.length ≤ n → ∃ e, g [.sh (.fz (ns.map .int))] = .ok e (.sh (.bl true))) ∧
        ∀ base : Heap, K.In base → base.Ns mainGlobals mg → FnOk l.prog w K mg base (L2.CX l.prog w) k fa fd [x] (spD K 1 g)) :
    PySem.W.WalkO q loose XP YP l.row.toRowW d [] (fun f vs => PySem.call f vs) := by
  refine Att.attach_call hn hdf fun w s₀ s₁ mg mb fa o pm cd doc a vs ns G Y ho hd hcd hmg hobj hints hlen hg => ?_
  obtain ⟨K, fd, g, KX, hb, hsp, hF⟩ := F w mg fa _ Y G.T.g hmg
  refine law_call KX G.T.g G.T.b G.T.builtins G.T.nolimit hg hobj hints (Nat.le_trans hlen hn2) hr hF hb (fun H hO hS => ?_) fun H e s' c => ?_
  · obtain ⟨e, eg⟩ := hsp ns hlen
    refine ⟨rfl, H, [.sh (.fz (ns.map .int))], Same.refl _, shArgs (ds := [.fz (ns.map .int)]) (.cons (.fz hS (ints_rp ns)) .nil), ?_⟩
    rw [eg]
    intro v H1 H' A r
    exact rp_bl r
  · obtain ⟨_, _, _, _, _, _, _, _, _, _, _, _, z⟩ := c
    exact z.elim
where
  ints_rp {K : Frag} {H : Hp} : ∀ ns : List Int, RpA K H (ns.map .int) (ns.map V.int)
    | [] => .nil
    | n :: r => .cons (.int n) (ints_rp r)
end DL

end

section
set_option Elab.async false
set_option linter.all false
set_option maxRecDepth 100000
set_option maxHeartbeats 2000000
/-! DCf: defs with stars and keywords, put together. -/
namespace DL
open PySem PySem.Spec PyProof.Rows L2
/-- the keyword-only parameters' values: the i-th given one, or the i-th lacking one -/
def pk {α : Type} : List (Nat ⊕ Nat) → List α → List α → List α
  | [], _, _ => []
  | .inl i :: r, zs, ms => zs[i]?.toList ++ pk r zs ms
  | .inr i :: r, zs, ms => ms[i]?.toList ++ pk r zs ms
def pkOk (l : List (Nat ⊕ Nat)) (n m : Nat) : Bool := l.all fun
  | .inl i => Nat.blt i n
  | .inr i => Nat.blt i m
theorem opt_vals {zs : List V} {ws : List Value} (r : Vals zs ws) (i : Nat) : Vals zs[i]?.toList ws[i]?.toList := by
  cases e : zs[i]? with
  | none =>
    have : ws[i]? = none := by rw [List.getElem?_eq_none_iff] at e ⊢; rw [← r.length]; exact e
    rw [this]; exact .nil
  | some x =>
    obtain ⟨u, h1, h2⟩ := r.get e
    rw [h1]; exact .cons h2 .nil
theorem pk_vals {mz : List V} {mv : List Value} (rm : Vals mz mv) {zs : List V} {ws : List Value} (r : Vals zs ws) : ∀ (l : List (Nat ⊕ Nat)), Vals (pk l zs mz) (pk l ws mv)
  | [] => .nil
  | .inl i :: l => (opt_vals r i).append (pk_vals rm r l)
  | .inr i :: l => (opt_vals rm i).append (pk_vals rm r l)
theorem opt_rp {K : Frag} {H : Hp} {zs : List D} {ws : List V} (r : RpA K H zs ws) (i : Nat) : RpA K H zs[i]?.toList ws[i]?.toList := by
  cases e : zs[i]? with
  | none =>
    have : ws[i]? = none := by rw [List.getElem?_eq_none_iff] at e ⊢; rw [← r.length]; exact e
    rw [this]; exact .nil
  | some x =>
    obtain ⟨u, h1, h2⟩ := r.get e
    rw [h1]; exact .cons h2 .nil
theorem pk_rp {K : Frag} {H : Hp} {mz : List D} {mv : List V} (rm : RpA K H mz mv) {zs : List D} {ws : List V} (r : RpA K H zs ws) : ∀ (l : List (Nat ⊕ Nat)), RpA K H (pk l zs mz) (pk l ws mv)
  | [] => .nil
  | .inl i :: l => (opt_rp r i).append (pk_rp rm r l)
  | .inr i :: l => (opt_rp rm i).append (pk_rp rm r l)
theorem pk_len {α : Type} {zs ms : List α} : ∀ {l : List (Nat ⊕ Nat)}, pkOk l zs.length ms.length = true → (pk l zs ms).length = l.length
  | [], _ => rfl
  | .inl i :: l, h => by
    simp only [pkOk, List.all_cons, Bool.and_eq_true] at h
    have hi : i < zs.length := Nat.le_of_ble_eq_true h.1
    have := pk_len (zs := zs) (ms := ms) (l := l) h.2
    simp [pk, List.getElem?_eq_getElem hi, this]
  | .inr i :: l, h => by
    simp only [pkOk, List.all_cons, Bool.and_eq_true] at h
    have hi : i < ms.length := Nat.le_of_ble_eq_true h.1
    have := pk_len (zs := zs) (ms := ms) (l := l) h.2
    simp [pk, List.getElem?_eq_getElem hi, this]
section
variable {P : Program} {w : World} {K : Frag} {mg : Str → Option Value} {base : Heap} {x qual : Str} {params : Arguments} {body : List Stmt} {scope : Scope} {dvs : List V} {kws ms : List (Str × V)} {f : Addr} {fd : FuncData} {N ps ks : List Str} {pv : Str} {k n m : Nat} {l : List (Nat ⊕ Nat)} {fb : Ev → Rs Fl} {md : List D}
/-- what the walk of a def's body gives -/
abbrev Walk (P : Program) (w : World) (K : Frag) (mg : Str → Option Value) (base : Heap) (N : List Str) (qual : Str) (scope : Scope) (f : Addr) (k : Nat) (body : List Stmt) (fb : Ev → Rs Fl) : Prop :=
  ∀ (cdv : Value) (A : Around) (outer : List Env) (s : Shared) (H : Hp) (E : XK), Bd (cxOf (L2.CX P w) P w K mg base N qual scope f cdv A outer s H E) (fun cls d _ H => E cls d H) k → DSs (cxOf (L2.CX P w) P w K mg base N qual scope f cdv A outer s H E) (fun cls d _ H => E cls d H) body fb
theorem def_walk (S : FnScope N ps scope) (hb : Walk P w K mg base N qual scope f k body fb) (cdv : Value) (A : Around) (outer : List Env) (s : Shared) (H : Hp) (vs : List V) (Q : VK) (E : XK) (hr : Room k (A.deeper (envOfC qual scope s.heap.objs.size f cdv))) (h : spD K ps.length (gOf N.length fb) vs H Q E) :
    ∃ t, PSs (cxOf (L2.CX P w) P w K mg base N qual scope f cdv A outer s H E) body t ∧ t { nx := fun _ H' => Q .non H', rt := Q } (L2.start N vs) H := by
  refine ⟨tDS K (fun cls d _ H => E cls d H) fb, hb cdv A outer s H E ⟨takes_of rfl rfl rfl rfl, passes_of rfl, rfl, S.nd, hr⟩, ?_⟩
  obtain ⟨hl, H0, as, sm, A, h⟩ := h
  have hpl : ps.length ≤ N.length := by have := congrArg List.length S.pre; rw [List.length_take] at this; omega
  refine ⟨_, H0, _, entry (N := N) A sm (by rw [A.len, hl]; exact hpl), ?_⟩
  unfold gOf at h
  cases e : fb (as ++ List.replicate (N.length - as.length) .un) with
  | ok e' fl =>
    rw [e] at h
    cases fl with
    | nx => exact fun σ' H1 H' _ S' => h .non H1 H' S'.aft Rp.non
    | rt d =>
      intro v σ' H1 H' _ S' r
      refine h v H1 H' S'.aft ?_
      cases d with
      | sh d => exact r
      | fr ds =>
        obtain ⟨a, vs, rfl, n0, nE, nf, nh, e, r⟩ := r
        exact ⟨a, vs, rfl, n0, nE, e, r⟩
    | bk => exact (show False from h).elim
    | ct => exact (show False from h).elim
  | er e' C fl d =>
    rw [e] at h
    exact fun v dd σ' H1 H' _ S' r q => h v dd H1 H' S'.aft r q
  | no =>
    rw [e] at h
    exact (show False from h).elim
/-- a def with keyword-only parameters -/
theorem cal_kw (F : FunD K x qual params body scope [] kws f fd) (S : FnScope N ps scope) (hb : Walk P w K mg base N qual scope f k body fb) (hk : kws ≠ []) (hms : ∀ q ∈ ms, q ∈ kws) (hmd : ∀ H, RpA K H md (ms.map (·.2)))
    (h : ∀ (D : Addr) (doc pm : Value) (an : Option Addr) (cdv ct : Value) (us mv ws : List Value), us.length = n → mv.length = ms.length → ws.length = ks.length → KwChain D ((ms.map (·.1)).zip mv) (bindArgs (PySem.W.fnOf x qual params body scope .none (.ref D) doc pm an cdv ct) ⟨us, ks.zip ws⟩) (ps.zip (us ++ pk l ws mv))) :
    CalD P w K mg base (k + 1) f ks (gKw n ps.length (fun xs => pk l xs md) (gOf N.length fb)) := by
  obtain ⟨mv, kb⟩ := F.kbinds0 n ks ms (fun us mv ws => us ++ pk l ws mv) hk hms (fun r1 r2 r3 => r1.append (pk_vals r2 r3 l)) h
  exact calD_kw (tV := fun zs => pk l zs (ms.map (·.2))) (def_ok F S hb) kb fun _ r => pk_rp (hmd _) r l
/-- a def with a star parameter and keyword-only ones -/
theorem cal_star (F : FunD K x qual params body scope [] kws f fd) (S : FnScope N (ps ++ [pv]) scope) (hb : Walk P w K mg base N qual scope f k body fb) (hk : kws ≠ []) (hms : ∀ q ∈ ms, q ∈ kws) (hmd : ∀ H, RpA K H md (ms.map (·.2))) (hpk : pkOk l ks.length ms.length = true) (hl : n + l.length = ps.length)
    (h : ∀ (D : Addr) (doc pm : Value) (an : Option Addr) (cdv ct : Value) (us rest mv ws : List Value), us.length = n → mv.length = ms.length → ws.length = ks.length → KwTo D ((ms.map (·.1)).zip mv) (bindArgs (PySem.W.fnOf x qual params body scope .none (.ref D) doc pm an cdv ct) ⟨us ++ rest, ks.zip ws⟩) (newTuple rest >>= fun t => pure (ps.zip (us ++ pk l ws mv) ++ [(pv, t)]))) :
    CalD P w K mg base (k + 1) f ks (gSt n (ps.length + 1) (fun xs => pk l xs md) (gOf N.length fb)) := by
  obtain ⟨oc, od, dV, kV, doc, pm, an, cdv, ct, osl, e0, lk, hcd, hD, hK⟩ := F.ex
  rcases hD with ⟨_, rfl⟩ | ⟨e, _⟩
  · rcases hK with e | ⟨D, rfl, hq⟩
    · exact absurd e hk
    · obtain ⟨mv, hl1, rk, hks⟩ := kwd_vals (ms := ms) fun q hm => hq q (hms q hm)
      have SB : SBn K fd ps pv n ks (fun us ws => us ++ pk l ws mv) (fun vs zs => vs ++ pk l zs (ms.map (·.2))) := by
        refine ⟨fun M A Q E s us rest ws KX l1 l2 hw => ?_, fun r1 r2 l1 l2 => ⟨r1.append (pk_vals rk r2 l), ?_⟩⟩
        · subst e0
          exact KwTo.run KX hks (h D doc pm an cdv ct us rest mv ws l1 hl1 l2) hw
        · rw [List.length_append, r1.length, l1, pk_len (by rw [r2.length, l2, List.length_map]; exact hpk)]
          exact hl
      have hlen : (ps ++ [pv]).length = ps.length + 1 := by simp
      have FS := fnS_of (sp := spD K (ps.length + 1) (gOf N.length fb)) F S StX.cxUp SB (fun cdv A outer s H vs Q E hr hs => def_walk S hb cdv A outer s H vs Q E hr (by rw [hlen]; exact hs))
      exact calD_star (tV := fun zs => pk l zs (ms.map (·.2))) FS fun _ r => pk_rp (hmd _) r l
  · exact absurd rfl e
/-- a def with **kw -/
theorem cal_dict {pd : Str} (F : FunD K x qual params body scope [] kws f fd) (S : FnScope N (ps ++ [pd]) scope) (hb : Walk P w K mg base N qual scope f k body fb) (hks : ks.Nodup) (hkl : ks.length ≤ 1000) (hpn : ps.length = n)
    (h : ∀ (kV doc pm : Value) (an : Option Addr) (cdv ct : Value) (us ws : List Value), us.length = n → ws.length = ks.length → bindArgs (PySem.W.fnOf x qual params body scope .none kV doc pm an cdv ct) ⟨us, ks.zip ws⟩ = ((alloc ({ cls := .type "dict", data := .dict #[] } : Obj) : Sem Addr) >>= fun q => kwFill q (ks.zip ws) >>= fun _ => pure (ps.zip us ++ [(pd, Value.ref q)]))) :
    CalD P w K mg base (k + 1) f ks (gDk n (ps.length + 1) ks (gOf N.length fb)) := by
  obtain ⟨oc, od, dV, kV, doc, pm, an, cdv, ct, osl, e0, lk, hcd, hD, hK⟩ := F.ex
  rcases hD with ⟨_, rfl⟩ | ⟨e, _⟩
  · have hlen : (ps ++ [pd]).length = ps.length + 1 := by simp
    refine calD_dict (fnW_of (sp := spD K (ps.length + 1) (gOf N.length fb)) F S StX.cxUp hks hkl hpn (fun us ws l1 l2 => ?_) (fun cdv A outer s H vs Q E hr hs => def_walk S hb cdv A outer s H vs Q E hr (by rw [hlen]; exact hs)))
    subst e0
    exact h kV doc pm an cdv ct us ws l1 l2
  · exact absurd rfl e
/-- a plain def -/
theorem cal_plain (F : FunD K x qual params body scope [] kws f fd) (S : FnScope N ps scope) (hb : Walk P w K mg base N qual scope f k body fb)
    (h : ∀ (kV doc pm : Value) (an : Option Addr) (cdv ct : Value) (us : List Value), us.length = ps.length → bindArgs (PySem.W.fnOf x qual params body scope .none kV doc pm an cdv ct) ⟨us, []⟩ = pure (ps.zip us)) :
    CalD P w K mg base (k + 1) f [] (gPl ps.length [] (gOf N.length fb)) := calD_plain (def_ok F S hb) (F.bindsN h) .nil fun _ => .nil
end
/-! ### looks -/
/-- where a keyword-only default that is an object lies -/
def kwAt (f : Str × Option Str) (x : Str) (K : Frag) : Addr := match K.lookup (He.fAd K f) with
  | some ⟨_, _, .func fd, _⟩ => (match fd.kwdefaults with
    | .ref D => (match PySem.W.nsIn K D x with
      | some (some (.ref a)) => a
      | _ => 0)
    | _ => 0)
  | _ => 0
/-- an empty tuple stands at a -/
def nilB (K : Frag) (a : Addr) : Bool := match K.lookup a with
  | some ⟨.type c, none, .seq its _, _⟩ => decide (c = "tuple") && its.isEmpty
  | _ => false
theorem nilB_ok {K : Frag} {a : Addr} (h : nilB K a = true) (H : Hp) : Rp K H (.tup []) (.ref a) := by
  unfold nilB at h
  split at h
  · rename_i c its n sl e
    obtain ⟨h1, h2⟩ := Bool.and_eq_true_iff.mp h
    have h1 := of_decide_eq_true h1
    have h2 := Array.isEmpty_iff.mp h2
    subst h1 h2
    exact .tup (.inr ⟨_, #[], n, e, rfl, rfl, Nat.zero_le _, .nil⟩) .nil
  · cases h
/-- C.f is the constant d -/
def cvB (K : Frag) (C f : Str) (v : He.Dv) : Bool := dvF v && (PySem.W.readsIn K (He.ga K C) (.type "type") && (decide (PySem.W.specialIn K (.ref (He.ga K C)) "__getattribute__" = some (some (.builtin "type.__getattribute__"))) && (match PySem.W.findCls K (.ref (He.ga K C)) (.type "type") f with
  | some (.val u) => He.relB (v.v K) u
  | _ => false)))
theorem cvB_ok {K : Frag} {C f : Str} {v : He.Dv} (h : cvB K C f v = true) : CvD K C f (dvD v) := by
  obtain ⟨h0, h⟩ := Bool.and_eq_true_iff.mp h
  obtain ⟨h1, h⟩ := Bool.and_eq_true_iff.mp h
  obtain ⟨h2, h⟩ := Bool.and_eq_true_iff.mp h
  split at h
  · rename_i u hu
    refine ⟨.type "type", v.v K, u, ⟨h1, of_decide_eq_true h2⟩, ⟨hu, He.relB_ok h⟩, fun H => ?_⟩
    have := dv_rp (K := K) (H := H) [v] (by simp [h0])
    cases this with
    | cons r _ => exact r
  · cases h
end DL

end

section
set_option Elab.async false
set_option linter.all false
set_option maxRecDepth 100000
set_option maxHeartbeats 2000000
/-! DHt: the head's facts, tables among them; the law's call. -/
namespace DL
open PySem L2
abbrev Tb : Type := Str × List (Str × Str)
def obsTM (chk : Frag → Bool) (fn : List He.DefD) (ts : List Tb) (K : Frag) : He.AlT := (obsM chk fn K, ts.map fun t => He.dicW K (He.ga K t.1))
def valTM (fn : List He.DefD) (ts : List Tb) (w : World) : He.AlT := (He.valD fn, ts.map fun t => some (He.keysIn w.params (t.2.map (·.1))))
def SaysT (chk : Frag → Bool) (fn : List He.DefD) (ts : List Tb) (w : World) (K : Frag) : Prop := obsTM chk fn ts K = valTM fn ts w
/-- what is looked at: what the names reach in n steps, the interpreter's statics, and some single places -/
def asX (n : Nat) (ex : List (Frag → Addr)) (g : Addr → Option Obj) : List Addr := ex.map (fun p => p (He.frG g (He.asD g n))) ++ (cStatics :: He.asD g n)
def obsTMG (n : Nat) (ex : List (Frag → Addr)) (chk : Frag → Bool) (fn : List He.DefD) (ts : List Tb) (g : Addr → Option Obj) : He.AlT := obsTM chk fn ts (He.frG g (asX n ex g))
def hookTM (n : Nat) (ex : List (Frag → Addr)) (chk : Frag → Bool) (fn : List He.DefD) (ts : List Tb) : PySem.W.Hook where
  α := He.AlT
  obs := fun s => obsTMG n ex chk fn ts s.heap.get?
  val := fun w => valTM fn ts w
  says := fun w h => ∃ K : Frag, K.In h ∧ SaysT chk fn ts w K
  of := fun _ _ e => ⟨_, He.frG_in, e⟩
  keeps := fun _ _ _ ⟨K, hK, c⟩ k => ⟨K, PySem.W.Frag.In.keeps hK k, c⟩
theorem obsTMG_eq {n : Nat} {ex : List (Frag → Addr)} {chk : Frag → Bool} {fn : List He.DefD} {ts : List Tb} {g : Addr → Option Obj} {s : Shared} (h : ∀ a, g a = s.heap.get? a) : obsTMG n ex chk fn ts g = (hookTM n ex chk fn ts).obs s := by
  have e : g = s.heap.get? := funext h
  rw [e] <;> rfl
section
variable {ck : Frag → Bool} {fn : List He.DefD} {ts : List Tb} {w : World} {K : Frag}
theorem SaysT.m (c : SaysT ck fn ts w K) : SaysM ck fn K := congrArg (fun z : He.AlT => z.1) c
/-- the values of a table of defs -/
def tabB (K : Frag) (t : Tb) : Bool := (He.Fa.glo t.1).ok K && He.valsB K (He.ga K t.1) (t.2.map fun q => (q.1, .glo q.2))
theorem SaysT.tab {h : Heap} {mg : Str → Option Value} (X : K.In h) (G : h.Ns mainGlobals mg) (c : SaysT ck fn ts w K) (i : Nat) {t : Tb} (hi : ts[i]? = some t) (b : tabB K t = true) : GlD K w mg t.1 (t.2.map fun q => (q.1, .glo q.2)) := by
  obtain ⟨b1, b2⟩ := He.ba b
  have e : ts.map (fun t => He.dicW K (He.ga K t.1)) = ts.map (fun t => some (He.keysIn w.params (t.2.map (·.1)))) := congrArg (fun z : He.AlT => z.2) c
  have e2 : (ts.map (fun t => He.dicW K (He.ga K t.1)))[i]? = (ts.map (fun t => some (He.keysIn w.params (t.2.map (·.1)))))[i]? := by rw [e]
  rw [List.getElem?_map, List.getElem?_map, hi] at e2
  obtain ⟨es, n, kd⟩ := He.dicW_ok (Option.some.inj e2)
  refine ⟨He.glo_ok X G b1, fun k d hd => ?_⟩
  have hm : ∀ {l : List (Str × Str)}, (l.map fun q => (q.1, D.glo q.2)).lookup k = some d → ∃ y, d = .glo y ∧ (k, y) ∈ l := by
    intro l
    induction l with
    | nil => intro z; cases z
    | cons q l ih =>
      intro z
      rw [List.map_cons, List.lookup_cons] at z
      split at z
      · rename_i q1
        have q1 : k = q.1 := by simpa using q1
        cases z
        exact ⟨q.2, rfl, by rw [q1]; exact List.mem_cons_self⟩
      · obtain ⟨y, h1, h2⟩ := ih z
        exact ⟨y, h1, List.mem_cons_of_mem _ h2⟩
  obtain ⟨y, rfl, hy⟩ := hm hd
  obtain ⟨u, h1, h2⟩ := He.valsB_ok b2 (q := (k, .glo y)) (List.mem_map.mpr ⟨_, hy, rfl⟩)
  exact ⟨.ref (He.ga K y), ⟨es, n, u, kd.at_, kd.lit, h1, h2⟩, fun H => .glo y⟩
end
end DL

end

section
set_option Elab.async false
set_option linter.all false
set_option maxRecDepth 100000
set_option maxHeartbeats 2000000
/-! DZ: own error classes, out of the head's facts. -/
namespace DL
open PySem L2
/-- the j-th statement in a class's body -/
def inC (s : Stmt) (j : Nat) : Stmt := match s with
  | .ClassDef _ _ _ body .. => body.getD j (.Pass ⟨0, 0, 0, 0⟩)
  | _ => .Pass ⟨0, 0, 0, 0⟩
theorem errD_of {P : Program} {w : World} {K : Frag} {h : Heap} {mg : Str → Option Value} {base : Heap} {x fl s1 qual : Str} {params : Arguments} {scope : Scope} {fd : FuncData} {p1 p2 p3 p4 : Pos} (X : K.In h) (G : h.Ns mainGlobals mg)
    (c1 : (He.Fa.glo x).ok K = true) (c2 : (He.Fa.meth x "__init__").ok K = true) (c3 : (He.Fa.noat x fl).ok K = true) (co : oexB K (He.ga K x) = true) (cx : xfB K (He.ga K x) = true)
    (F : FunD K "__init__" qual params [.Assign [.Attribute (.Name "self" p1) fl p2] (.Name s1 p3) p4] scope [] [] (He.fAd K (x, some "__init__")) fd) (S : FnScope ["self", s1] ["self", s1] scope)
    (v0 : Vis scope "self") (v1 : Vis scope s1) (d1 : (s1 == ("__debug__" : Str)) = false) (e1 : (s1 == ("__classdict__" : Str)) = false) (hb : Binds K fd ["self", s1] []) : ErrD P w K mg base x fl := by
  obtain ⟨m1, m2, m3⟩ := He.meth_ok c2
  exact ⟨He.glo_ok X G c1, oexB_ok co, xfB_ok cx, He.noat_ok c3, _, fd, _, m1, eq_of_beq m2, init_ok (oexB_ok co) (He.noat_ok c3) F S v0 v1 d1 e1, hb⟩
end DL

end

section
set_option Elab.async false
set_option linter.all false
set_option maxRecDepth 100000
set_option maxHeartbeats 4000000
namespace K08
open PySem L2 DL
def top (i : Nat) : Stmt := PySem.Challenge.pw_selfchains_k08_texts_of_standings.main.body.getD i (.Pass ⟨0, 0, 0, 0⟩)
abbrev s__law_bag : Stmt := top 36
abbrev s__law_take : Stmt := top 37
abbrev s__law_of : Stmt := top 38
abbrev s__law_parts : Stmt := top 39
abbrev s_is_word : Stmt := top 28
abbrev s_look_rows : Stmt := top 29
abbrev s_look_start : Stmt := top 30
abbrev s_Job_init : Stmt := inC (top 31) 2
abbrev s_Job_changed : Stmt := inC (top 31) 11
abbrev s__law_job : Stmt := top 40
abbrev s__law_token : Stmt := top 42
abbrev s__law_standing : Stmt := top 43
abbrev s_show_standing : Stmt := top 19
abbrev s_read_token : Stmt := top 20
abbrev s_is_token : Stmt := top 17
abbrev s_is_standing : Stmt := top 18
abbrev s_read_standing : Stmt := top 21
abbrev s_law : Stmt := top 44
end K08

end

section
set_option Elab.async false
set_option linter.all false
set_option maxRecDepth 100000
set_option maxHeartbeats 0
namespace K08
open PySem L2 DL
def d__law_bag : He.DefD := ⟨("_law_bag", none), "_law_bag", "_law_bag", defArgs s__law_bag, defBody s__law_bag, defScope s__law_bag, [], []⟩
def d__law_take : He.DefD := ⟨("_law_take", none), "_law_take", "_law_take", defArgs s__law_take, defBody s__law_take, defScope s__law_take, [], []⟩
def d__law_of : He.DefD := ⟨("_law_of", none), "_law_of", "_law_of", defArgs s__law_of, defBody s__law_of, defScope s__law_of, [], []⟩
def d__law_parts : He.DefD := ⟨("_law_parts", none), "_law_parts", "_law_parts", defArgs s__law_parts, defBody s__law_parts, defScope s__law_parts, [], []⟩
def d_is_word : He.DefD := ⟨("is_word", none), "is_word", "is_word", defArgs s_is_word, defBody s_is_word, defScope s_is_word, [], []⟩
def d_look_rows : He.DefD := ⟨("look_rows", none), "look_rows", "look_rows", defArgs s_look_rows, defBody s_look_rows, defScope s_look_rows, [], []⟩
def d_look_start : He.DefD := ⟨("look_start", none), "look_start", "look_start", defArgs s_look_start, defBody s_look_start, defScope s_look_start, [], []⟩
def d_Job_init : He.DefD := ⟨("Job", some "__init__"), "__init__", "Job.__init__", defArgs s_Job_init, defBody s_Job_init, defScope s_Job_init, [], [("last", .adr (kwAt ("Job", some "__init__") "last")), ("start", .adr (kwAt ("Job", some "__init__") "start")), ("watch", .non), ("lapse", .non)]⟩
def d_Job_changed : He.DefD := ⟨("Job", some "changed"), "changed", "Job.changed", defArgs s_Job_changed, defBody s_Job_changed, defScope s_Job_changed, [], []⟩
def d__law_job : He.DefD := ⟨("_law_job", none), "_law_job", "_law_job", defArgs s__law_job, defBody s__law_job, defScope s__law_job, [], []⟩
def d__law_token : He.DefD := ⟨("_law_token", none), "_law_token", "_law_token", defArgs s__law_token, defBody s__law_token, defScope s__law_token, [], []⟩
def d__law_standing : He.DefD := ⟨("_law_standing", none), "_law_standing", "_law_standing", defArgs s__law_standing, defBody s__law_standing, defScope s__law_standing, [], []⟩
def d_show_standing : He.DefD := ⟨("show_standing", none), "show_standing", "show_standing", defArgs s_show_standing, defBody s_show_standing, defScope s_show_standing, [], []⟩
def d_read_token : He.DefD := ⟨("read_token", none), "read_token", "read_token", defArgs s_read_token, defBody s_read_token, defScope s_read_token, [], []⟩
def d_is_token : He.DefD := ⟨("is_token", none), "is_token", "is_token", defArgs s_is_token, defBody s_is_token, defScope s_is_token, [], []⟩
def d_is_standing : He.DefD := ⟨("is_standing", none), "is_standing", "is_standing", defArgs s_is_standing, defBody s_is_standing, defScope s_is_standing, [], []⟩
def d_read_standing : He.DefD := ⟨("read_standing", none), "read_standing", "read_standing", defArgs s_read_standing, defBody s_read_standing, defScope s_read_standing, [], []⟩
def d_law : He.DefD := ⟨("law", none), "law", "law", defArgs s_law, defBody s_law, defScope s_law, [], []⟩
abbrev i_BadRow : Stmt := inC (top 2) 0
def d_BadRow_init : He.DefD := ⟨("BadRow", some "__init__"), "__init__", "BadRow.__init__", defArgs i_BadRow, defBody i_BadRow, defScope i_BadRow, [], []⟩
abbrev i_BadStart : Stmt := inC (top 3) 0
def d_BadStart_init : He.DefD := ⟨("BadStart", some "__init__"), "__init__", "BadStart.__init__", defArgs i_BadStart, defBody i_BadStart, defScope i_BadStart, [], []⟩
abbrev i_Twice : Stmt := inC (top 7) 0
def d_Twice_init : He.DefD := ⟨("Twice", some "__init__"), "__init__", "Twice.__init__", defArgs i_Twice, defBody i_Twice, defScope i_Twice, [], []⟩
abbrev i_TooMany : Stmt := inC (top 10) 0
def d_TooMany_init : He.DefD := ⟨("TooMany", some "__init__"), "__init__", "TooMany.__init__", defArgs i_TooMany, defBody i_TooMany, defScope i_TooMany, [], []⟩
abbrev i_BadWatch : Stmt := inC (top 4) 0
def d_BadWatch_init : He.DefD := ⟨("BadWatch", some "__init__"), "__init__", "BadWatch.__init__", defArgs i_BadWatch, defBody i_BadWatch, defScope i_BadWatch, [], []⟩
abbrev i_BadLapse : Stmt := inC (top 5) 0
def d_BadLapse_init : He.DefD := ⟨("BadLapse", some "__init__"), "__init__", "BadLapse.__init__", defArgs i_BadLapse, defBody i_BadLapse, defScope i_BadLapse, [], []⟩
abbrev i_BadPart : Stmt := inC (top 9) 0
def d_BadPart_init : He.DefD := ⟨("BadPart", some "__init__"), "__init__", "BadPart.__init__", defArgs i_BadPart, defBody i_BadPart, defScope i_BadPart, [], []⟩
abbrev i_BadText : Stmt := inC (top 6) 0
def d_BadText_init : He.DefD := ⟨("BadText", some "__init__"), "__init__", "BadText.__init__", defArgs i_BadText, defBody i_BadText, defScope i_BadText, [], []⟩
def fn : List He.DefD := [d__law_bag, d__law_take, d__law_of, d__law_parts, d_is_word, d_look_rows, d_look_start, d_Job_init, d_Job_changed, d__law_job, d__law_token, d__law_standing, d_show_standing, d_read_token, d_is_token, d_is_standing, d_read_standing, d_law, d_BadRow_init, d_BadStart_init, d_Twice_init, d_TooMany_init, d_BadWatch_init, d_BadLapse_init, d_BadPart_init, d_BadText_init]
def fa : List He.Fa := [.glo "_law_bag", .glo "_law_take", .glo "_law_of", .glo "_law_parts", .glo "is_word", .glo "look_rows", .glo "look_start", .glo "Job", .cls "Job", .meth "Job" "__init__", .mkr "Job", .meth "Job" "changed", .glo "_law_job", .glo "_law_token", .glo "_law_standing", .glo "show_standing", .glo "read_token", .glo "is_token", .glo "is_standing", .glo "read_standing", .glo "law", .free "abs", .free "all", .free "bool", .free "enumerate", .free "int", .free "isinstance", .free "len", .free "list", .free "max", .free "min", .free "range", .free "sorted", .free "str", .free "tuple", .noat "Job" "lapse", .noat "Job" "last", .noat "Job" "rows", .noat "Job" "start", .noat "Job" "watch", .noat "Job" "words", .str "DIGITS" "0123456789", .str "LETTERS" "befk", .int "MOST_TOKENS" 5, .glo "BadRow", .meth "BadRow" "__init__", .noat "BadRow" "row", .glo "BadStart", .meth "BadStart" "__init__", .noat "BadStart" "word", .glo "Twice", .meth "Twice" "__init__", .noat "Twice" "name", .glo "TooMany", .meth "TooMany" "__init__", .noat "TooMany" "limit", .glo "BadWatch", .meth "BadWatch" "__init__", .noat "BadWatch" "watch", .glo "BadLapse", .meth "BadLapse" "__init__", .noat "BadLapse" "lapse", .glo "BadPart", .meth "BadPart" "__init__", .noat "BadPart" "name", .glo "BadText", .meth "BadText" "__init__", .noat "BadText" "text"]
def chk (K : Frag) : Bool := (fa.all fun f => f.ok K) && (tupM K "KEYS" [.str "free", .str "held", .str "lost"] && (tupM K "LAPSES" [.non, .str "any", .str "lost"] && (tupM K "PARTS" [.str "lapse", .str "last", .str "rows", .str "start", .str "watch"] && (tupM K "STARTS" [.str "once", .str "raise"] && (tupM K "SWITCHES" [.str "on", .str "off"] && (tupM K "WATCHES" [.non, .str "always", .str "nothing", .str "present", .str "waiting"] && (tupM K "WORDS" [.str "check", .str "clear", .str "confirm", .str "free", .str "hold", .str "look", .str "next", .str "once", .str "put", .str "work"] && (oexB K (He.ga K "BadRow") && (xfB K (He.ga K "BadRow") && (oexB K (He.ga K "BadStart") && (xfB K (He.ga K "BadStart") && (oexB K (He.ga K "Twice") && (xfB K (He.ga K "Twice") && (oexB K (He.ga K "TooMany") && (xfB K (He.ga K "TooMany") && (oexB K (He.ga K "BadWatch") && (xfB K (He.ga K "BadWatch") && (oexB K (He.ga K "BadLapse") && (xfB K (He.ga K "BadLapse") && (oexB K (He.ga K "BadPart") && (xfB K (He.ga K "BadPart") && (oexB K (He.ga K "BadText") && (xfB K (He.ga K "BadText") && (cvB K "Job" "MOST_LAST" (.int 3) && (cvB K "Job" "MOST_ROWS" (.int 8) && (nilB K (kwAt ("Job", some "__init__") "last" K) && (nilB K (kwAt ("Job", some "__init__") "start" K) && true)))))))))))))))))))))))))))
def tbs : List Tb := []
abbrev R : PySem.W.OpenRow := PySem.W.OpenLaw.row PySem.Challenge.rw_selfchains_k08_texts_of_standings
def exs : List (Frag → Addr) := [kwAt ("Job", some "__init__") "last", kwAt ("Job", some "__init__") "start"]
abbrev hk : PySem.W.Hook := hookTM 4 exs chk fn tbs
def ob (s : PySem.W.SharedT) : He.AlT := obsTMG 4 exs chk fn tbs (HandSHeadRun.getT s)
theorem ob_eq (s : PySem.W.SharedT) : ob s = hk.obs s.abs := obsTMG_eq (HandSHeadRun.getT_eq s)
def loose : List Str := (PySem.Challenge.pw_selfchains_k08_texts_of_standings.main.scope.names.map (·.1)).filter fun x => !(x == ("law" : Str))
theorem run_false (w : World) : HandSHeadRun.RunEq R (PySem.W.view R.prog [44]) hk ob 20000 loose (w.withFollow "special-get-raises" false) := by
  intro os
  kernel_rfl
theorem run_true (w : World) : HandSHeadRun.RunEq R (PySem.W.view R.prog [44]) hk ob 20000 loose (w.withFollow "special-get-raises" true) := by
  intro os
  kernel_rfl
theorem run (w : World) : HandSHeadRun.RunEq R (PySem.W.view R.prog [44]) hk ob 20000 loose w := PySem.W.byRow2 "special-get-raises" (P := fun w => HandSHeadRun.RunEq R (PySem.W.view R.prog [44]) hk ob 20000 loose w) run_false run_true w
end K08

end

section
set_option Elab.async false
set_option linter.all false
set_option maxRecDepth 100000
set_option maxHeartbeats 2000000
/-! DGr: s.replace(a, b) where a is not found. -/
namespace DL
open PySem L2 Builtin.Str
def noOcc (x y : Str) : Bool := (occurrences x y 0 x.length (x.length + 1)).isEmpty
section
variable {X : Cx} {W : WX} {a b c : Expr} {fa fb fc : Ev → Rs D} {pos apos : Pos}
theorem ty_strS : TyOk X "str" (fun x _ => ∃ z, x = .str z) := by
  intro pins σ H s x v I r t
  obtain ⟨z, rfl⟩ := t
  obtain ⟨t, rfl⟩ := r
  exact ⟨typeIs_str _ _ _, fun b e => nomatch e⟩
theorem mt_replN : MtR X "str.replace" (fun x xs H Q => ∃ a b c, x = .str a ∧ xs = [.str b, .str c] ∧ noOcc a b = true ∧ Q (.str a) H) := by
  intro pins s σ H x xs v us Q I rx rxs h
  obtain ⟨x, y, z, rfl, rfl, ho, q⟩ := h
  obtain ⟨t, rfl⟩ := rx
  cases rxs with
  | cons r1 rs =>
    cases rs with
    | cons r2 rs =>
      cases rs
      obtain ⟨t1, rfl⟩ := r1
      obtain ⟨t2, rfl⟩ := r2
      have hc : ((occurrences x y 0 x.length (x.length + 1)).isEmpty || (y.length == 0 && z.length == 0)) = true := by
        have h1 : (occurrences x y 0 x.length (x.length + 1)).isEmpty = true := ho
        rw [h1]; rfl
      refine call_gives F.slot_str_replace (typeIs_str _ _ _) F.entry_str_replace (F.args_str_replace_3 _ _ _) (gives_str_replace x y z t t1 t2 fun e => by rw [hc] at e; cases e) ?_
      rw [if_pos hc]
      exact ⟨.str x, H, I, ⟨t, rfl⟩, q⟩
def fRepN (fa fb fc : Ev → Rs D) (env : Ev) : Rs D := (fa env).bind fun e x => match x with
  | .str xs => (fb e).bind fun e y => (fc e).bind fun e z => (match y, z with
    | .str ys, .str _ => if noOcc xs ys = true then .ok e (.str xs) else .no
    | _, _ => .no)
  | _ => .no
theorem de_replN (ha : DE X W a fa) (hb : DE X W b fb) (hc : DE X W c fc) (hs : starEach [b, c] X.env = (false, eval b X.env) :: starEach [c] X.env := by rfl) (hs2 : starEach [c] X.env = (false, eval c X.env) :: starEach [] X.env := by rfl) (hbase : attributeBase a "replace" X.env (eval a X.env) = eval a X.env := by rfl) (hline : (apos.endLine == pos.line) = true := by rfl)
    (hfew : ((backTo pos (starEach [b, c] X.env)).all (fun x => !x.1) && (backToKw pos (keywordEach [] X.env)).all (fun x => x.1.isSome) && decide ([b, c].length + ([] : List Keyword).length + (if ([] : List Keyword).isEmpty then 0 else 1) < 30)) = true := by rfl) (hp : (backTo pos (starEach [c] X.env)).any (·.1) = false := by rfl) :
    DE X W (.Call (.Attribute a "replace" apos) [b, c] [] pos) (fRepN fa fb fc) := by
  refine pe_mono (pe_mG ty_strS PySem.F.plainAttrs_str PySem.F.slot_str_replace PySem.F.type_str_replace mt_replN ha (da_cons hb (da_cons hc da_nil hs2) hs) hbase hfew hline hs hp) fun σ H Q q => ?_
  obtain ⟨E, H0, env, S, q⟩ := q
  refine WP.bind S q fun e1 x v H1 H' S1 s1 r1 q1 => ?_
  cases x with
  | str xs =>
    dsimp only at q1
    refine ⟨⟨xs, rp_str r1⟩, ?_⟩
    have q1' : Post X.K W (RD X.K) E H1 σ Q ((fCons fb (fCons fc fNil) e1).bind fun e ys => match ys with
        | [.str ys, .str _] => if noOcc xs ys = true then .ok e (.str xs) else .no
        | _ => .no) := by
      unfold fCons fNil
      cases hb : fb e1 with
      | ok e2 y =>
        simp only [hb, Rs.bind] at q1 ⊢
        cases hc : fc e2 with
        | ok e3 z =>
          simp only [hc] at q1 ⊢
          cases y with
          | str ys => cases z <;> exact q1
          | _ => exact q1
        | er _ _ _ _ => simp only [hc] at q1 ⊢; exact q1
        | no => simp only [hc] at q1 ⊢; exact q1
      | er _ _ _ _ => simp only [hb, Rs.bind] at q1 ⊢; exact q1
      | no => simp only [hb, Rs.bind] at q1 ⊢; exact q1
    refine WP.bind S1 q1' fun e2 ys us H2 H'' S2 s2 r2 q2 => ?_
    split at q2
    · split at q2
      · rename_i ho
        cases r2 with
        | cons ra rb =>
          obtain ⟨w, rfl, rw'⟩ := rpa1 rb
          exact ⟨xs, _, _, rp_str r1, by rw [rp_str ra, rp_str rw'], ho, q2 _ H2 H'' (Same.refl _) S2 (.str _)⟩
      · exact (show False from q2).elim
    · exact (show False from q2).elim
  | _ => exact (show False from q1).elim
end
/-! ### a starred item -/
def fStar (fa : Ev → Rs D) (fr : Ev → Rs (List D)) (env : Ev) : Rs (List D) := (fa env).bind fun e x => match itemsD x with
  | some xs => (fr e).bind fun e ys => .ok e (xs ++ ys)
  | none => .no
section
variable {X : Cx} {W : WX} {e : Expr} {es : List Expr} {fa : Ev → Rs D} {fr : Ev → Rs (List D)} {p : Pos}
theorem da_star (he : DE X W e fa) (hr : DA X W es fr) (hs : starEach (.Starred e p :: es) X.env = (true, eval e X.env) :: starEach es X.env := by rfl) : DA X W (.Starred e p :: es) (fStar fa fr) := by
  refine pa_mono (StX.pa_star he hr hs) fun σ H Q q => ?_
  obtain ⟨E, H0, env, S, q⟩ := q
  refine WP.bind S q fun e1 x v H1 H' S1 s1 r1 q1 => ?_
  cases hx : itemsD x with
  | none => rw [hx] at q1; exact (show False from q1).elim
  | some xs =>
    rw [hx] at q1
    obtain ⟨a, vs, rfl, hsq, rr⟩ := items_rp r1 hx
    refine ⟨a, vs, rfl, hsq.elim (fun z => .inr (S1.s1.seq z)) (fun z => .inl (sqT_mono S1.s1 z)), ?_⟩
    exact WP.bind S1 q1 fun e2 ys us H2 H'' S2 s2 r2 q2 => Post.here S2 q2 ((rr.mono s2).append r2)
end
/-! ### what is never reached -/
section
variable {X : Cx} {W : WX} {e : Expr}
theorem wp_never {α β : Type} {K : Frag} {R : RelT α β} {σ : St} {H : Hp} {Q : β → Hp → Prop} (q : WP K W R (fun _ => .no) σ H Q) : False := by
  obtain ⟨E, H0, env, S, q⟩ := q
  exact q
theorem de_never : DE X W e (fun _ => .no) := ⟨fun pins s σ H Q I q => (wp_never q).elim⟩
theorem dt_never : DT X W e (fun _ => .no) := ⟨fun pins s σ H Q I q => (wp_never q).elim⟩
theorem df_never : DF X W e (fun _ => .no) := ⟨fun pins s σ H Q I q => (wp_never q).elim⟩
end
theorem fl_cons {K : Frag} {f C : Str} {Cs : List Str} (h : Cls K (He.ga K C) ∧ NoAttr K (He.ga K C) f) (r : ∀ C ∈ Cs, Cls K (He.ga K C) ∧ NoAttr K (He.ga K C) f) : ∀ B ∈ C :: Cs, Cls K (He.ga K B) ∧ NoAttr K (He.ga K B) f := fun B hB => by
  rcases List.mem_cons.mp hB with e | e
  · rw [e]; exact h
  · exact r B e
end DL

end

section
set_option Elab.async false
set_option linter.all false
set_option maxRecDepth 100000
set_option maxHeartbeats 4000000
namespace LP
open PySem L2 DL
abbrev c_KEYS : List D := [(.str "free"), (.str "held"), (.str "lost")]
abbrev c_LAPSES : List D := [.non, (.str "any"), (.str "lost")]
abbrev c_PARTS : List D := [(.str "lapse"), (.str "last"), (.str "rows"), (.str "start"), (.str "watch")]
abbrev c_PLACED : List D := [(.str "step"), (.str "kill"), (.str "fail"), (.str "repeat"), (.str "lose")]
abbrev c_PLAIN : List D := [(.str "lapse"), (.str "watch"), (.str "start"), (.str "off"), (.str "on")]
abbrev c_STARTS : List D := [(.str "once"), (.str "raise")]
abbrev c_SWITCHES : List D := [(.str "on"), (.str "off")]
abbrev c_WATCHES : List D := [.non, (.str "always"), (.str "nothing"), (.str "present"), (.str "waiting")]
abbrev c_WORDS : List D := [(.str "check"), (.str "clear"), (.str "confirm"), (.str "free"), (.str "hold"), (.str "look"), (.str "next"), (.str "once"), (.str "put"), (.str "work")]
def f_is_token_t1 : Ev → Rs Bool :=
    (fTest (f2 dIn (fVar 4) (fVar 3)))
def f_is_token_e2 : Ev → Rs D :=
    (fVar 4)
def f_is_token : Ev → Rs Fl :=
    (fSeq (fIfS (fOr (fNot (fTest (fN gIsi (fCons (fVar 1) (fCons (fC (.ty "tuple")) fNil))))) (fTest (f2 dNe (fN gLen (fCons (fVar 1) fNil)) (fC (.int 2))))) (fRet (fC (.bl false))) fsNil)
    (fSeq (fAsg (fVar 1) (gTp (gsCons (gNm 2) (gsCons (gNm 3) gsNil))))
    (fSeq (fIfS (fOr (fNot (fTest (fN gIsi (fCons (fVar 2) (fCons (fC (.ty "int")) fNil))))) (fOr (fTest (fN gIsi (fCons (fVar 2) (fCons (fC (.ty "bool")) fNil)))) (fNot (fTest (fChain dLe dLe (fC (.int 0)) (fVar 2) (f2 dAdd (fN gLen (fCons (fFld ["Job"] "words" (fVar 0)) fNil)) (fC (.int 1)))))))) (fRet (fC (.bl false))) fsNil)
    (fSeq (fIfS (fOr (fNot (fTest (fN gIsi (fCons (fVar 3) (fCons (fC (.ty "str")) fNil))))) (fTest (f2 dNe (fVar 3) (fM1 dJoin (fC (.str "")) (fSh (fLc (([("one", 4)] : List (Str × Nat)).map (·.2)) (fiS (fC (.str "befk"))) (gNm 4) f_is_token_t1 f_is_token_e2)))))) (fRet (fC (.bl false))) fsNil)
    (fSeq (fIfS (fAnd (fTest (f2 dIn (fC (.str "b")) (fVar 3))) (fTest (f2 dEq (fVar 2) (fC (.int 0))))) (fRet (fC (.bl false))) fsNil)
    (fRet (fOrV (f2 dNotIn (fC (.str "f")) (fVar 3)) (fAndV (f2 dGt (fVar 2) (fN gLen (fCons (fFld ["Job"] "rows" (fVar 0)) fNil))) (f2 dGt (fN gLen (fCons (fFld ["Job"] "last" (fVar 0)) fNil)) (fC (.int 0)))))))))))
def g_is_token : List Sl → Rs Dr := gOf 5 f_is_token
def f_is_standing_e1 : Ev → Rs D :=
    (fShR (fCall 2 g_is_token [] (fCons (fVar 0) (fCons (fVar 6) fNil))))
def f_is_standing_t2 : Ev → Rs Bool :=
    (fTest (f2 dIn (fC (.str "k")) (fVar 8)))
def f_is_standing_e3 : Ev → Rs D :=
    (fVar 8)
def f_is_standing : Ev → Rs Fl :=
    (fSeq (fIfS (fOr (fNot (fTest (fN gIsi (fCons (fVar 1) (fCons (fC (.ty "tuple")) fNil))))) (fTest (f2 dNe (fN gLen (fCons (fVar 1) fNil)) (fC (.int 3))))) (fRet (fC (.bl false))) fsNil)
    (fSeq (fAsg (fVar 1) (gTp (gsCons (gNm 3) (gsCons (gNm 4) (gsCons (gNm 5) gsNil)))))
    (fSeq (fIfS (fOr (fNot (fTest (fN gIsi (fCons (fVar 3) (fCons (fC (.ty "str")) fNil))))) (fOr (fNot (fTest (fN gIsi (fCons (fVar 4) (fCons (fC (.ty "str")) fNil))))) (fOr (fTest (f2 dNotIn (fVar 3) (fC (.tup c_SWITCHES)))) (fTest (f2 dNotIn (fVar 4) (fC (.tup c_KEYS))))))) (fRet (fC (.bl false))) fsNil)
    (fSeq (fIfS (fOr (fNot (fTest (fN gIsi (fCons (fVar 5) (fCons (fC (.ty "tuple")) fNil))))) (fTest (f2 dGt (fN gLen (fCons (fVar 5) fNil)) (fC (.int 5))))) (fRet (fC (.bl false))) fsNil)
    (fSeq (fIfS (fNot (fTest (fN gAll (fCons (fSh (fLc (([("token", 6)] : List (Str × Nat)).map (·.2)) (fiQ (fVar 5)) (gNm 6) fYes f_is_standing_e1)) fNil)))) (fRet (fC (.bl false))) fsNil)
    (fSeq (fSet 2 (fN gLen (fCons (fSh (fLc (([("place", 7), ("flags", 8)] : List (Str × Nat)).map (·.2)) (fiQ (fVar 5)) (gTp (gsCons (gNm 7) (gsCons (gNm 8) gsNil))) f_is_standing_t2 f_is_standing_e3)) fNil)))
    (fRet (fAndV (f2 dEq (fSh (fNewL gList (fCons (fVar 5) fNil))) (fSh (fNewL gSort (fCons (fVar 5) fNil)))) (f2 dEq (fVar 2) (fIf (fTest (f2 dEq (fVar 4) (fC (.str "held")))) (fC (.int 1)) (fC (.int 0))))))))))))
def g_is_standing : List Sl → Rs Dr := gOf 9 f_is_standing
def f_look_standing : Ev → Rs Fl :=
    (fSeq (fIfS (fNot (fTest (fShR (fCall 2 g_is_standing [] (fCons (fVar 0) (fCons (fVar 1) fNil)))))) (fRaise "BadStanding" "standing" (fVar 1)) fsNil)
    (fRet (fVar 1)))
def g_look_standing : List Sl → Rs Dr := gOf 2 f_look_standing
def f_is_word : Ev → Rs Fl :=
    (fRet (fAndV (fN gIsi (fCons (fVar 0) (fCons (fC (.ty "str")) fNil))) (f2 dIn (fVar 0) (fVar 1))))
def g_is_word : List Sl → Rs Dr := gOf 2 f_is_word
def f_look_rows_b1 : Ev → Rs Fl :=
    (fIfS (fNot (fTest (fShR (fCall 2 g_is_word [] (fCons (fVar 2) (fCons (fC (.tup c_WORDS)) fNil)))))) (fRaise "BadRow" "row" (fVar 2)) fsNil)
def f_look_rows_b2 : Ev → Rs Fl :=
    (fIfS (fOr (fNot (fTest (fShR (fCall 2 g_is_word [] (fCons (fVar 2) (fCons (fC (.tup c_WORDS)) fNil)))))) (fTest (f2 dEq (fVar 2) (fC (.str "work"))))) (fRaise "BadRow" "row" (fVar 2)) fsNil)
def f_look_rows : Ev → Rs Fl :=
    (fSeq (fFor (fiQ (fVar 0)) (gNm 2) f_look_rows_b1)
    (fSeq (fFor (fiQ (fVar 1)) (gNm 2) f_look_rows_b2)
    (fIfS (fTest (f2 dEq (fN gLen (fCons (fVar 0) fNil)) (fC (.int 0)))) (fRaise "BadRow" "row" (fC .non)) fsNil)))
def g_look_rows : List Sl → Rs Dr := gOf 3 f_look_rows
def f_look_start_b1 : Ev → Rs Fl :=
    (fIfS (fNot (fTest (fShR (fCall 2 g_is_word [] (fCons (fVar 1) (fCons (fC (.tup c_STARTS)) fNil)))))) (fRaise "BadStart" "word" (fVar 1)) fsNil)
def f_look_start_b2 : Ev → Rs Fl :=
    (fIfS (fTest (f2 dGt (fCount (fSh (fNewL gList (fCons (fVar 0) fNil))) (fVar 2)) (fC (.int 1)))) (fRaise "Twice" "name" (fVar 2)) fsNil)
def f_look_start : Ev → Rs Fl :=
    (fSeq (fFor (fiQ (fVar 0)) (gNm 1) f_look_start_b1)
    (fFor (fiQ (fC (.tup c_STARTS))) (gNm 2) f_look_start_b2))
def g_look_start : List Sl → Rs Dr := gOf 3 f_look_start
def f_Job_init : Ev → Rs Fl :=
    (fSeq (fExp (fShR (fCall 2 g_look_rows [] (fCons (fVar 5) (fCons (fVar 1) fNil)))))
    (fSeq (fIfS (fTest (f2 dGt (fN gLen (fCons (fVar 5) fNil)) (fC (.int 8)))) (fRaise "TooMany" "limit" (fC (.int 8))) fsNil)
    (fSeq (fIfS (fTest (f2 dGt (fN gLen (fCons (fVar 1) fNil)) (fC (.int 3)))) (fRaise "TooMany" "limit" (fC (.int 3))) fsNil)
    (fSeq (fExp (fShR (fCall 1 g_look_start [] (fCons (fVar 2) fNil))))
    (fSeq (fIfS (fAnd (fTest (f2 dNotN (fVar 3) (fC .non))) (fNot (fTest (fShR (fCall 2 g_is_word [] (fCons (fVar 3) (fCons (fCutT (fC (.tup c_WATCHES)) (fP (fC (.int 1))) fNoP) fNil))))))) (fRaise "BadWatch" "watch" (fVar 3)) fsNil)
    (fSeq (fIfS (fAnd (fTest (f2 dNotN (fVar 4) (fC .non))) (fNot (fTest (fShR (fCall 2 g_is_word [] (fCons (fVar 4) (fCons (fCutT (fC (.tup c_LAPSES)) (fP (fC (.int 1))) fNoP) fNil))))))) (fRaise "BadLapse" "lapse" (fVar 4)) fsNil)
    (fSeq (fSetF 0 ["Job"] "rows" (fN gTuple (fCons (fVar 5) fNil)))
    (fSeq (fSetF 0 ["Job"] "last" (fN gTuple (fCons (fVar 1) fNil)))
    (fSeq (fSetF 0 ["Job"] "start" (fN gTuple (fCons (fSh (fNewL gSort (fCons (fVar 2) fNil))) fNil)))
    (fSeq (fSetF 0 ["Job"] "watch" (fVar 3))
    (fSeq (fSetF 0 ["Job"] "lapse" (fVar 4))
    (fSetF 0 ["Job"] "words" (f2 dAdd (fFldO 0 ["Job"] "rows") (fFldO 0 ["Job"] "last"))))))))))))))
def g_Job_init : List Sl → Rs Dr := gOf 6 f_Job_init
def c_Job_init_last_start_watch_lapse : GA := gSt 1 6 (fun xs => pk [.inl 0, .inl 1, .inl 2, .inl 3] xs []) g_Job_init
def c_Job_init_p : GA := gSt 1 6 (fun xs => pk [.inr 0, .inr 1, .inr 2, .inr 3] xs [(.tup []), (.tup []), .non, .non]) g_Job_init
def f_Job_changed_t1 : Ev → Rs Bool :=
    (fTest (f2 dNotIn (fVar 8) (fC (.tup c_PARTS))))
def f_Job_changed_e2 : Ev → Rs D :=
    (fVar 8)
def f_Job_changed : Ev → Rs Fl :=
    (fSeq (fSet 2 (fSh (fLc (([("name", 8)] : List (Str × Nat)).map (·.2)) (fiQ (fSh (fNewL gSort (fCons (fSh (fNewL gListD (fCons (fVar 1) fNil))) fNil)))) (gNm 8) f_Job_changed_t1 f_Job_changed_e2)))
    (fSeq (fIfS (fTest (f2 dGt (fN gLen (fCons (fVar 2) fNil)) (fC (.int 0)))) (fRaise "BadPart" "name" (f2 dIx (fVar 2) (fC (.int 0)))) fsNil)
    (fSeq (fSet 3 (fDGet (fVar 1) (fC (.str "rows")) (fFld ["Job"] "rows" (fVar 0))))
    (fSeq (fSet 4 (fDGet (fVar 1) (fC (.str "last")) (fFld ["Job"] "last" (fVar 0))))
    (fSeq (fSet 5 (fDGet (fVar 1) (fC (.str "start")) (fFld ["Job"] "start" (fVar 0))))
    (fSeq (fSet 6 (fDGet (fVar 1) (fC (.str "watch")) (fFld ["Job"] "watch" (fVar 0))))
    (fSeq (fSet 7 (fDGet (fVar 1) (fC (.str "lapse")) (fFld ["Job"] "lapse" (fVar 0))))
    (fRet (fMkA "Job" c_Job_init_last_start_watch_lapse (faSt 4 (fVar 3) (fCons (fVar 4) (fCons (fVar 5) (fCons (fVar 6) (fCons (fVar 7) fNil))))))))))))))
def g_Job_changed : List Sl → Rs Dr := gOf 9 f_Job_changed
def c_Job_changed_rows_last_start_watch_lapse : GA := gDk 1 2 ["rows", "last", "start", "watch", "lapse"] g_Job_changed
def f_is_room : Ev → Rs Fl :=
    (fRet (fAndV (fN gIsi (fCons (fVar 0) (fCons (fC (.ty "int")) fNil))) (fAndV (fNotV (fN gIsi (fCons (fVar 0) (fCons (fC (.ty "bool")) fNil)))) (fChain dLe dLe (fC (.int 2)) (fVar 0) (fVar 1)))))
def g_is_room : List Sl → Rs Dr := gOf 2 f_is_room
def f_look_room : Ev → Rs Fl :=
    (fIfS (fNot (fTest (fShR (fCall 2 g_is_room [] (fCons (fVar 0) (fCons (fVar 1) fNil)))))) (fRaise "BadRoom" "room" (fVar 0)) fsNil)
def g_look_room : List Sl → Rs Dr := gOf 2 f_look_room
def f_is_move : Ev → Rs Fl :=
    (fSeq (fIfS (fOr (fNot (fTest (fN gIsi (fCons (fVar 0) (fCons (fC (.ty "tuple")) fNil))))) (fOr (fNot (fTest (fChain dLe dLe (fC (.int 1)) (fN gLen (fCons (fVar 0) fNil)) (fC (.int 2))))) (fNot (fTest (fN gIsi (fCons (f2 dIx (fVar 0) (fC (.int 0))) (fCons (fC (.ty "str")) fNil))))))) (fRet (fC (.bl false))) fsNil)
    (fSeq (fIfS (fTest (f2 dEq (fN gLen (fCons (fVar 0) fNil)) (fC (.int 1)))) (fRet (f2 dIn (f2 dIx (fVar 0) (fC (.int 0))) (fC (.tup c_PLAIN)))) fsNil)
    (fSeq (fSet 1 (f2 dIx (fVar 0) (fC (.int 1))))
    (fRet (fAndV (f2 dIn (f2 dIx (fVar 0) (fC (.int 0))) (fC (.tup c_PLACED))) (fAndV (fN gIsi (fCons (fVar 1) (fCons (fC (.ty "int")) fNil))) (fAndV (fNotV (fN gIsi (fCons (fVar 1) (fCons (fC (.ty "bool")) fNil)))) (fChain dLe dLe (fC (.int 0)) (fVar 1) (fC (.int 4))))))))))
def g_is_move : List Sl → Rs Dr := gOf 2 f_is_move
def f_look_move : Ev → Rs Fl :=
    (fIfS (fNot (fTest (fShR (fCall 1 g_is_move [] (fCons (fVar 0) fNil))))) (fRaise "BadMove" "move" (fVar 0)) fsNil)
def g_look_move : List Sl → Rs Dr := gOf 1 f_look_move
def f__law_bag_b1 : Ev → Rs Fl :=
    (fSet 3 (f2 dMod (fN gInt (fCons (f2 dAdd (f2 dAdd (f2 dAdd (f2 dMul (fVar 3) (fC (.int 40087))) (f2 dMod (fN gInt (fCons (fVar 5) fNil)) (fC (.int 2147483549)))) (f2 dMul (fC (.int 211)) (fVar 4))) (fC (.int 7))) fNil)) (fC (.int 2147483647))))
def f__law_bag : Ev → Rs Fl :=
    (fSeq (fSet 2 (fIf (fTest (f2 dLt (fVar 1) (fN gLen (fCons (fVar 0) fNil)))) (f2 dIx (fVar 0) (fVar 1)) (fC (.int 0))))
    (fSeq (fSet 3 (f2 dAdd (f2 dMul (fC (.int 4099)) (fVar 1)) (fC (.int 31))))
    (fSeq (fFor (fiE (fCons (fSh (fCutL (fVar 0) fNoP (fP (fC (.int 60))))) fNil)) (gTp (gsCons (gNm 4) (gsCons (gNm 5) gsNil))) f__law_bag_b1)
    (fun env => ((fLst (fCons (fIf (fTest (f2 dGe (fN gAbs (fCons (fVar 2) fNil)) (f2 dPow (fC (.int 10)) (fC (.int 18))))) (fN gAbs (fCons (fVar 2) fNil)) (fC (.int 0))) (fCons (fVar 3) fNil))) env).bind fun e ds => .ok e (.rt (.fr ds))))))
def g__law_bag : List Sl → Rs Dr := gOf 6 f__law_bag
def f__law_take : Ev → Rs Fl :=
    (fSeq (fIfS (fTest (f2 dGt (fIxO 0 (fC (.int 0))) (fC (.int 0)))) (fSeq (fSet 2 (f2 dMod (fN gInt (fCons (fIxO 0 (fC (.int 0))) fNil)) (fVar 1)))
    (fSeq (fSetIx 0 (f2 dDiv (fIxO 0 (fC (.int 0))) (fVar 1)) (fC (.int 0)))
    (fRet (fVar 2)))) fsNil)
    (fSeq (fSetIx 0 (f2 dMod (fN gInt (fCons (f2 dAdd (f2 dMul (fIxO 0 (fC (.int 1))) (fC (.int 48271))) (fC (.int 12820163))) fNil)) (fC (.int 2147483587))) (fC (.int 1)))
    (fRet (f2 dMod (f2 dDiv (f2 dMod (fN gInt (fCons (f2 dMul (f2 dDiv (fIxO 0 (fC (.int 1))) (fC (.int 17))) (fC (.int 69697))) fNil)) (fC (.int 2147483489))) (fC (.int 32))) (fVar 1)))))
def g__law_take : List Sl → Rs Dr := gOf 3 f__law_take
def f__law_of : Ev → Rs Fl :=
    (fRet (f2 dIx (fVar 1) (fShR (fCallR 0 2 g__law_take [] (fCons (fN gLen (fCons (fVar 1) fNil)) fNil)))))
def g__law_of : List Sl → Rs Dr := gOf 2 f__law_of
def f__law_parts_e1 : Ev → Rs D :=
    (fShR (fCallR 0 2 g__law_of [] (fCons (fVar 2) fNil)))
def f__law_parts_e2 : Ev → Rs D :=
    (fShR (fCallR 0 2 g__law_of [] (fCons (fSh (fCutL (fVar 2) fNoP (fP (fC (.int 9))))) fNil)))
def f__law_parts : Ev → Rs Fl :=
    (fSeq (fSet 2 (fN gLst (fCons (fC (.str "check")) (fCons (fC (.str "clear")) (fCons (fC (.str "confirm")) (fCons (fC (.str "free")) (fCons (fC (.str "hold")) (fCons (fC (.str "look")) (fCons (fC (.str "next")) (fCons (fC (.str "once")) (fCons (fC (.str "put")) (fCons (fC (.str "work")) fNil))))))))))))
    (fSeq (fSet 3 (fSh (fLc (([("_law_k", 7)] : List (Str × Nat)).map (·.2)) (fiR1 (fCons (f2 dAdd (fC (.int 1)) (fShR (fCallR 0 2 g__law_take [] (fCons (fVar 1) fNil)))) fNil)) (gNm 7) fYes f__law_parts_e1)))
    (fSeq (fSet 4 (fSh (fLc (([("_law_k", 7)] : List (Str × Nat)).map (·.2)) (fiR1 (fCons (fShR (fCallR 0 2 g__law_of [] (fCons (fN gLst (fCons (fC (.int 0)) (fCons (fC (.int 0)) (fCons (fC (.int 1)) (fCons (fC (.int 2)) (fCons (fC (.int 3)) fNil)))))) fNil))) fNil)) (gNm 7) fYes f__law_parts_e2)))
    (fSeq (fSet 5 (fShR (fCallR 0 2 g__law_of [] (fCons (fN gLst (fCons (fN gLst fNil) (fCons (fN gLst fNil) (fCons (fN gLst (fCons (fC (.str "once")) fNil)) (fCons (fN gLst (fCons (fC (.str "raise")) fNil)) (fCons (fN gLst (fCons (fC (.str "once")) (fCons (fC (.str "raise")) fNil))) fNil)))))) fNil))))
    (fSeq (fSet 6 (fShR (fCallR 0 2 g__law_of [] (fCons (fN gLst (fCons (fC .non) (fCons (fC .non) (fCons (fC (.str "always")) (fCons (fC (.str "nothing")) (fCons (fC (.str "present")) (fCons (fC (.str "waiting")) fNil))))))) fNil))))
    (fRet (fN gLst (fCons (fVar 3) (fCons (fVar 4) (fCons (fVar 5) (fCons (fVar 6) (fCons (fShR (fCallR 0 2 g__law_of [] (fCons (fN gLst (fCons (fC .non) (fCons (fC .non) (fCons (fC (.str "any")) (fCons (fC (.str "lost")) fNil))))) fNil))) fNil))))))))))))
def g__law_parts : List Sl → Rs Dr := gOf 8 f__law_parts
def f__law_job : Ev → Rs Fl :=
    (fSeq (fAsg (fVar 0) (gLs (gsCons (gNm 1) (gsCons (gNm 2) (gsCons (gNm 3) (gsCons (gNm 4) (gsCons (gNm 5) gsNil)))))))
    (fRet (fShR (fMet "Job" "changed" c_Job_changed_rows_last_start_watch_lapse (fMkA "Job" c_Job_init_p (faPl (fCons (fC (.str "work")) fNil))) (faKw 5 fNil (fCons (fVar 1) (fCons (fVar 2) (fCons (fVar 3) (fCons (fVar 4) (fCons (fVar 5) fNil))))))))))
def g__law_job : List Sl → Rs Dr := gOf 6 f__law_job
end LP

end

section
set_option Elab.async false
set_option linter.all false
set_option maxRecDepth 100000
set_option maxHeartbeats 4000000
/-! DTk: behind a first token: comprehensions. -/
namespace DL
open PySem PySem.Spec PyProof.Rows L2
/-- posts may know that a token is out -/
theorem tkF {α : Type} {t : Sem α} {Q Q' : α → Shared → Prop} {M : Model} {A : Around} {E : Value → Shared → Prop} {s : Shared} (h0 : 1 ≤ s.toks) (h : wpAny M A t Q (fun _ _ => False) s) (k : ∀ a s, 1 ≤ s.toks → Q a s → Q' a s) : wpAny M A t Q' E s :=
  wpAny_mono (wpAny_toks_of h0 h) (fun a s z => k a s z.1 z.2) fun _ _ z => z.2.elim
theorem tkE {α : Type} {t : Sem α} {Q Q' : α → Shared → Prop} {M : Model} {A : Around} {E : Value → Shared → Prop} {s : Shared} (h0 : 1 ≤ s.toks) (h : wpAny M A t Q E s) (k : ∀ a s, 1 ≤ s.toks → Q a s → Q' a s) : wpAny M A t Q' E s :=
  wpAny_mono (wpAny_toks_of h0 h) (fun a s z => k a s z.1 z.2) fun _ _ z => z.2
section
variable {X : Cx}
theorem lcT {pins : List (Addr × Obj)} {s0 : Shared} {τ : L2.St} {G0 : Hp} {Q : VK} {elt tg iter : Expr} {ifs : List Expr} {scope : Scope} {own : List (Str × Nat)} {pos pos' : Pos} {wi : TI} {g : TG} {tt : TT} {te : TE} {use : Option (Value → Sem Unit)} {Qf : Value → Shared → Prop} (h0 : 1 ≤ s0.toks)
    (hc : X.calm = true) (nd : X.N.Nodup) (I0 : L2.Inv X pins τ G0 s0) (hi : PI X tg iter wi) (ok : BlkOk X.N X.env.scope scope own)
    (hg : ∀ (s : Shared) (H : Hp) (C : Addr) (cl : List (Str × Addr)) (fp : List Addr), PG (X.blk s H scope (compEnvC scope cl C X.env) fp) tg g) (ht : ∀ (s : Shared) (H : Hp) (C : Addr) (cl : List (Str × Addr)) (fp : List Addr), PTs (X.blk s H scope (compEnvC scope cl C X.env) fp) ifs tt)
    (he : ∀ (s : Shared) (H : Hp) (C : Addr) (cl : List (Str × Addr)) (fp : List Addr), PET (X.blk s H scope (compEnvC scope cl C X.env) fp) elt te) (hs : ∀ x, foldedSetIterable iter X.env x = pure x)
    (h : tLc wi g tt te (own.map (·.2)) τ G0 Q)
    (back : ∀ D C s' m H', L2.Inv X pins τ H' s' → Q (.ref D) H' → s'.heap.Ns C m → FpOk X pins H' C → compPost (model X.prog X.w) X.A X.xe use Qf (.ref D) C (.ok .next) s') :
    wpAny (model X.prog X.w) X.A (comprehension (.ListComp elt [⟨tg, iter, ifs, 0⟩] scope pos) scope X.env pos' (newList []) false (eval iter X.env) use) Qf X.xe s0 := by
  have fr : ∀ y ∈ scope.names, y.2 = .free → ∃ c, X.env.cells.lookup y.1 = some c := fun y hy e => (ok.free y hy e).elim (fun k => I0.ok.has _ (.inl k)) fun k => I0.ok.has _ (.inr k)
  refine wpAny_comprehension_free (use := use) rfl hs (closure_ok fr) ok.kind (fun y hy e => by rw [ok.uniq y hy, e]) (tkE h0 (hi.run pins s0 τ G0 _ I0 h) fun xv s1 t1 hx => tkE t1 hx fun itv s2 t2 h2 => ?_)
  obtain ⟨it, fp, tn, J, G2, rfl, I2, T, st2, f2, q⟩ := h2
  refine wpAny_newObj_type (newEnv_comp ?_) (by show 0 ≤ sizeLine; decide)
  generalize dd : s2.heap.objs.size = D
  have fresh : G2 D = none := I2.hok.fresh (Nat.le_of_eq dd)
  obtain ⟨W, ⟨m0, w0⟩, turn⟩ := q D fresh
  generalize e3 : ({ s2 with heap := s2.heap.push { cls := .type "list", data := .seq ([] : List Value).toArray } } : Shared) = s3
  have t3 : 1 ≤ s3.toks := by rw [← e3]; exact t2
  have p3 : s3.heap = s2.heap.push { cls := .type "list", data := .seq ([] : List Value).toArray } := by rw [← e3]
  have I3 : L2.Inv X pins τ (upd G2 D (.lst [])) s3 := by
    rw [← e3]
    exact I2.laid (t' := s2.toks) (fun _ _ e => Heap.get?_push_of_some _ e) (Nat.le_of_eq dd) ⟨Nat.zero_le _, [], 0, .nil, by rw [← dd]; exact Heap.get?_push_size _ rfl⟩
  have low : ∀ b ∈ fp, b < s2.heap.objs.size := fun b hb => let ⟨_, e, _⟩ := T.obj _ _ st2 b hb; Heap.lt_size e
  have f3 : ∀ b ∈ fp, FpOk X pins (upd G2 D (.lst [])) b ∧ b < s3.heap.objs.size := fun b hb => by
    refine ⟨⟨?_, (f2 b hb).2⟩, by rw [p3, Heap.size_push]; exact Nat.lt_succ_of_lt (low b hb)⟩
    rw [upd_ne (by rw [← dd]; exact Nat.ne_of_lt (low b hb))]
    exact (f2 b hb).1
  have st3 : tn 0 s3.heap := T.keep _ _ _ st2 fun b _ o e => by rw [p3]; exact Heap.get?_push_of_some _ e
  have I4 := block_start I3 ok nd f3
  have pg := hg s3 (upd G2 D (.lst [])) s3.heap.objs.size (cellsFrom (s3.heap.objs.size + 1) scope.names (cloFrom X.env.cells scope.names [])) fp
  have pt := ht s3 (upd G2 D (.lst [])) s3.heap.objs.size (cellsFrom (s3.heap.objs.size + 1) scope.names (cloFrom X.env.cells scope.names [])) fp
  have pe := he s3 (upd G2 D (.lst [])) s3.heap.objs.size (cellsFrom (s3.heap.objs.size + 1) scope.names (cloFrom X.env.cells scope.names [])) fp
  show codeAny _ _ (.compStart (.ListComp elt [⟨tg, iter, ifs, 0⟩] scope pos) 0 (.ref it) (.ref D) (compEnvC scope (cellsFrom (s3.heap.objs.size + 1) scope.names (cloFrom X.env.cells scope.names [])) s3.heap.objs.size X.env)) (compPost (model X.prog X.w) X.A X.xe use Qf (.ref D) s3.heap.objs.size) { s3 with heap := pushCells (s3.heap.push { cls := .type "dict", data := .dict #[] }) scope.names }
  have no : ∀ b ∈ fp, (upd G2 D (.lst [])) b = none := fun b hb => (f3 b hb).1.1
  generalize ec : compEnvC scope (cellsFrom (s3.heap.objs.size + 1) scope.names (cloFrom X.env.cells scope.names [])) s3.heap.objs.size X.env = ce at I4 pg pt pe ⊢
  have lc : ce.locals = s3.heap.objs.size := by subst ec; rfl
  generalize eH : upd G2 D (.lst []) = G3 at I3 I4 pg pt pe w0 no f3
  generalize e4 : ({ s3 with heap := pushCells (s3.heap.push { cls := .type "dict", data := .dict #[] }) scope.names } : Shared) = s4 at I4 ⊢
  have t4 : 1 ≤ s4.toks := by rw [← e4]; exact t3
  have st4 : tn 0 s4.heap := T.keep _ _ _ st3 fun b _ o e => by rw [← e4]; exact pushCells_keeps _ _ _ _ (Heap.get?_push_of_some _ e)
  have stat : ∀ {σ' : L2.St} {H' : Hp} {s' : Shared}, L2.Inv (X.blk s3 G3 scope ce fp) [] σ' H' s' → (∀ b ∈ fp, H' b = none) → ∀ b ∈ fp, FpOk (X.blk s3 G3 scope ce fp) [] H' b := fun {σ' H' s'} J' hn b hb =>
    ⟨hn b hb, (J'.ok.exf b hb).1, J'.ok.exfs b hb, .inl hb, fun x c e => (J'.ok.exf b hb).2 x c e, fun p hp => absurd (show p ∈ ([] : List (Addr × Obj)) ++ [] from hp) (by simp)⟩
  have loop : codeAny (model X.prog X.w) X.A (.compLoop (.ListComp elt [⟨tg, iter, ifs, 0⟩] scope pos) 0 (.ref it) (.ref D) ce) (compPost (model X.prog X.w) X.A X.xe use Qf (.ref D) s3.heap.objs.size) s4 := by
    refine compLoop_any (fun n s' => 1 ≤ s'.toks ∧ ∃ i H', L2.Inv (X.blk s3 G3 scope ce fp) [] (wipe τ (own.map (·.2))) H' s' ∧ tn i s'.heap ∧ (∀ b ∈ fp, H' b = none) ∧ W i n H') ?_ m0 ⟨t4, 0, G3, I4, st4, no, w0⟩
    rintro n s5 ⟨t5, i, G5, I5, st5, n5, w5⟩
    rcases turn i n G5 w5 with ⟨stop, fin⟩ | ⟨go, Nx, hNx, step⟩
    · refine thnF (T.done (X.blk s3 G3 scope ce fp) rfl rfl rfl hc i [] s5 _ G5 (fun _ _ => False) I5 (stat I5 n5) st5 stop) fun r s6 z => ?_
      obtain ⟨rfl, I6⟩ := z
      have I7 : L2.Inv X pins τ G5 s6 := I3.call' (ch := fp) I6.os I6.base I6.hok I6.bare fun b hb => let f := (f3 b hb).1; ⟨f.2.2.2.1, f.2.1, f.2.2.2.2.1, f.2.2.2.2.2⟩
      have nC : G5 s3.heap.objs.size = none := by rw [← lc]; exact I6.free
      obtain ⟨m, hn, _⟩ := I6.loc
      have hn : s6.heap.Ns s3.heap.objs.size m := by rw [← lc]; exact hn
      exact back D s3.heap.objs.size s6 m G5 I7 fin hn (I3.fpOk (Nat.le_refl _) nC)
    · refine tkF t5 (T.item (X.blk s3 G3 scope ce fp) rfl rfl rfl hc i [] s5 _ G5 (fun _ _ => False) I5 (stat I5 n5) st5 go) fun r s6 t6 z => ?_
      obtain ⟨u, rfl, h6⟩ := z
      refine tkF t6 h6 fun _ s7 t7 z => ?_
      obtain ⟨x, G7, I7, r7, y7, st7, n7⟩ := z
      refine tkF t7 (pg.run _ s7 _ G7 x u _ (I7.pinned (stat I7 n7) (T.obj _ _ st7)) r7 (step x G7 y7)) fun _ s8 t8 z => ?_
      obtain ⟨σ8, G8, I8, w8, q8⟩ := z
      refine tkF t8 (pt.run _ s8 σ8 G8 _ I8 q8) fun b s9 t9 z => ?_
      obtain ⟨G9, I9, q9⟩ := z
      have fin : ∀ {s' : Shared} {H' : Hp}, 1 ≤ s'.toks → L2.Inv (X.blk s3 G3 scope ce fp) ([] ++ pinsAt fp s7.heap) σ8 H' s' → Nx H' → ∃ m, m < n ∧ 1 ≤ s'.toks ∧ ∃ i H', L2.Inv (X.blk s3 G3 scope ce fp) [] (wipe τ (own.map (·.2))) H' s' ∧ tn i s'.heap ∧ (∀ b ∈ fp, H' b = none) ∧ W i m H' := fun {s' H'} t' J' nx => by
        obtain ⟨m', hm, w'⟩ := hNx H' nx
        have held : ∀ b ∈ fp, ∀ o, s7.heap.get? b = some o → s'.heap.get? b = some o ∧ H' b = none := fun b hb o e =>
          have z := J'.pin (b, o) (List.mem_append_right _ (List.mem_append_right _ (mem_pinsAt hb e)))
          ⟨z.1, z.2.1⟩
        refine ⟨m', hm, t', i + 1, H', (J'.unpinned (pins := [])).weak (by rw [← w8, wipe_length]) (fun j v e => ?_), T.keep _ _ _ st7 fun b hb o e => (held b hb o e).1, fun b hb => ?_, w'⟩
        · rw [← w8] at e
          exact (wipe_some e).1
        · obtain ⟨o, e, _⟩ := T.obj _ _ st7 b hb
          exact (held b hb o e).2
      cases b with
      | false =>
        simp only [Bool.false_eq_true, if_false] at q9 ⊢
        exact fin t9 I9 q9
      | true =>
        simp only [if_true] at q9 ⊢
        refine tkF t9 (pe _ s9 σ8 G9 _ t9 I9 q9) fun z s10 t10 k => ?_
        obtain ⟨yv, G10, I10, r10, acc, a1, a2, nx⟩ := k
        exact tkF t10 (L2.app_ok (X := X.blk s3 G3 scope ce fp) (E := fun _ _ => False) (Q := fun _ s11 => ∃ I : L2.Inv (X.blk s3 G3 scope ce fp) ([] ++ pinsAt fp s7.heap) σ8 (upd G10 D (.lst (acc ++ [yv]))) s11, True) I10 a1 a2 r10 fun s11 I11 => ⟨I11, trivial⟩) fun _ s11 t11 z => fin t11 z.1 nx
  exact codeAny_compStart_list loop (T.self X.A 0 _ _ _ st4 loop)
/-- as a value -/
theorem pet_lc {elt tg iter : Expr} {ifs : List Expr} {scope : Scope} {own : List (Str × Nat)} {pos : Pos} {wi : TI} {g : TG} {tt : TT} {te : TE} (hc : X.calm = true) (nd : X.N.Nodup) (hi : PI X tg iter wi) (ok : BlkOk X.N X.env.scope scope own)
    (hg : ∀ (s : Shared) (H : Hp) (C : Addr) (cl : List (Str × Addr)) (fp : List Addr), PG (X.blk s H scope (compEnvC scope cl C X.env) fp) tg g) (ht : ∀ (s : Shared) (H : Hp) (C : Addr) (cl : List (Str × Addr)) (fp : List Addr), PTs (X.blk s H scope (compEnvC scope cl C X.env) fp) ifs tt)
    (he : ∀ (s : Shared) (H : Hp) (C : Addr) (cl : List (Str × Addr)) (fp : List Addr), PET (X.blk s H scope (compEnvC scope cl C X.env) fp) elt te) (hs : ∀ x, foldedSetIterable iter X.env x = pure x := by intro _; rfl) :
    PET X (.ListComp elt [⟨tg, iter, ifs, 0⟩] scope pos) (tLc wi g tt te (own.map (·.2))) := by
  intro pn st τ G Q t0 I h
  rw [eval_ListComp]
  refine lcT t0 hc nd I hi ok hg ht he hs h fun D C s' m H' J q hn f => ⟨m, hn, fun h2 sb => ⟨.ref D, H', ?_, rfl, q⟩⟩
  exact J.turned (t' := s'.toks) (fun b o hb e => (sb.2 b hb).trans e) f.1 f.2.1 f.2.2.2.1 f.2.2.2.2.1 f.2.2.2.2.2
/-- name = [..] -/
theorem pst_setLc {i : Nat} {y : Str} {py : Pos} {elt tg iter : Expr} {ifs : List Expr} {scope : Scope} {own : List (Str × Nat)} {pos spos : Pos} {wi : TI} {g : TG} {tt : TT} {te : TE} (hc : X.calm = true) (nd : X.N.Nodup) (hy : X.N[i]? = some y) (yl : X.env.scope.names.lookup y = some .local)
    (sw : swapsWith (.ListComp elt [⟨tg, iter, ifs, 0⟩] scope pos) (some (.Name y py)) spos.line X.env = pure true) (hi : PI X tg iter wi) (ok : BlkOk X.N X.env.scope scope own)
    (hg : ∀ (s : Shared) (H : Hp) (C : Addr) (cl : List (Str × Addr)) (fp : List Addr), PG (X.blk s H scope (compEnvC scope cl C X.env) fp) tg g) (ht : ∀ (s : Shared) (H : Hp) (C : Addr) (cl : List (Str × Addr)) (fp : List Addr), PTs (X.blk s H scope (compEnvC scope cl C X.env) fp) ifs tt)
    (he : ∀ (s : Shared) (H : Hp) (C : Addr) (cl : List (Str × Addr)) (fp : List Addr), PET (X.blk s H scope (compEnvC scope cl C X.env) fp) elt te) (hs : ∀ x, foldedSetIterable iter X.env x = pure x := by intro _; rfl) :
    PST X (.Assign [.Name y py] (.ListComp elt [⟨tg, iter, ifs, 0⟩] scope pos) spos) (tAsg (tLc wi g tt te (own.map (·.2))) (gName i)) := by
  intro pn st τ G N t0 I h
  rw [exec_Assign_Name_used _ _ _ _ sw]
  refine wpAny_bind (wpAny_standAt (wpAny_bind ?_))
  show wpAny _ X.A (do let _ ← comprehension (.ListComp elt [⟨tg, iter, ifs, 0⟩] scope pos) scope X.env (firstIterPos [⟨tg, iter, ifs, 0⟩] pos) (newList []) false (eval iter X.env) (some (assign (.Name y py) X.env))) _ _ st
  have h : tLc wi g tt te (own.map (·.2)) τ G (fun x H1 => gName i x τ H1 N.nx) := h
  refine wpAny_bind (thn (lcT (Qf := fun _ s' => SP X pn N .next s') t0 hc nd I hi ok hg ht he hs h fun L C s' m H' J q hn f => ?_) fun _ s' hq => wpAny_pure (wpAny_pure hq))
  show wpAny _ _ (assign (.Name y py) X.env (.ref L)) _ _ _
  refine wpAny_assign_Name (store_ok2 (v := V.ref L) J nd hy (.inl yl) rfl (fun s2 J2 z => ?_) (.inr yl))
  obtain ⟨a, sb, ha⟩ := z
  have ne : C ≠ a := ha.elim (fun z => by rw [z]; exact f.2.1) fun z e => f.2.2.2.2.1 y a z e.symm
  refine ⟨m, hn.sameBut sb ne, fun h3 sb3 => ⟨_, H', ?_, q⟩⟩
  exact J2.turned (t' := s2.toks) (fun b o hb e => (sb3.2 b hb).trans e) f.1 f.2.1 f.2.2.2.1 f.2.2.2.2.1 f.2.2.2.2.2
end
end DL

end

section
set_option Elab.async false
set_option linter.all false
set_option maxRecDepth 100000
set_option maxHeartbeats 2000000
/-! DTl: behind a first token: the readings by data. -/
namespace DL
open PySem PySem.Spec L2
abbrev DTE (X : Cx) (W : WX) (e : Expr) (f : Ev → Rs D) : Prop := PET X e (tDE X.K W f)
abbrev DTA (X : Cx) (W : WX) (es : List Expr) (f : Ev → Rs (List D)) : Prop := PAT X es (tDA X.K W f)
abbrev DTF (X : Cx) (W : WX) (e : Expr) (f : Ev → Rs (List D)) : Prop := PET X e (WP X.K W (RF X.K) f)
abbrev DTX (X : Cx) (W : WX) (e : Expr) (f : Ev → Rs Dr) : Prop := PET X e (WP X.K W (RDr X.K) f)
abbrev DTS (X : Cx) (W : WX) (st : Stmt) (f : Ev → Rs Fl) : Prop := PST X st (tDS X.K W f)
abbrev DTSs (X : Cx) (W : WX) (st : List Stmt) (f : Ev → Rs Fl) : Prop := PSsT X st (tDS X.K W f)
section
variable {X : Cx} {W : WX} {k : Nat} {e a b c o : Expr} {es : List Expr} {st : Stmt} {sts : List Stmt} {fa fb : Ev → Rs D} {fs fl : Ev → Rs (List D)} {gs gr : Ev → Rs Fl} {pos p apos : Pos}
theorem pet_mono {t t' : TE} (h : PET X e t) (m : ∀ σ H Q, t' σ H Q → t σ H Q) : PET X e t' := fun pins s σ H Q t0 I q => h pins s σ H Q t0 I (m σ H Q q)
theorem pat_mono {t t' : TA} (h : PAT X es t) (m : ∀ σ H Q, t' σ H Q → t σ H Q) : PAT X es t' := fun p pins s σ H Q t0 I q => h p pins s σ H Q t0 I (m σ H Q q)
theorem pst_mono {t t' : TS} (h : PST X st t) (m : ∀ N σ H, t' N σ H → t N σ H) : PST X st t' := fun pins s σ H N t0 I q => h pins s σ H N t0 I (m N σ H q)
theorem psst_mono {t t' : TS} (h : PSsT X sts t) (m : ∀ N σ H, t' N σ H → t N σ H) : PSsT X sts t' := fun pins s σ H N t0 I q => h pins s σ H N t0 I (m N σ H q)
theorem dte_of (h : DE X W e fa) : DTE X W e fa := fun pins s σ H Q _ I q => h.run pins s σ H Q I q
theorem dta_of (h : DA X W es fs) : DTA X W es fs := fun p pins s σ H Q _ I q => h.run p pins s σ H Q I q
theorem dtf_of (h : DF X W e fs) : DTF X W e fs := fun pins s σ H Q _ I q => h.run pins s σ H Q I q
theorem dtx_of {fx : Ev → Rs Dr} (h : DX X W e fx) : DTX X W e fx := fun pins s σ H Q _ I q => h.run pins s σ H Q I q
theorem dts_of (h : DS X W st gs) : DTS X W st gs := PST.of h
theorem dtss_of (h : DSs X W sts gs) : DTSs X W sts gs := PSsT.of h
/-- s.replace('y', 'z') -/
def fRep (y z : Str) (fo : Ev → Rs D) (env : Ev) : Rs D := (fo env).bind fun e x => match x with
  | .str v => if szS v = true then .ok e (.str (Txt.replace v y z)) else .no
  | _ => .no
theorem dte_repl {y z : Str} {j1 j2 : Nat} {c0 c1 : Pos} (ho : DE X W o fa) (hz : z.length ≤ 10 := by decide) (hyz : (y == z) = false := by decide)
    (hst : starEach [.Constant (.str y) j1 c0, .Constant (.str z) j2 c1] X.env = [(false, eval (.Constant (.str y) j1 c0) X.env), (false, eval (.Constant (.str z) j2 c1) X.env)] := by rfl)
    (hbase : attributeBase o "replace" X.env (eval o X.env) = eval o X.env := by rfl) (hline : (apos.endLine == pos.line) = true := by rfl) :
    DTE X W (.Call (.Attribute o "replace" apos) [.Constant (.str y) j1 c0, .Constant (.str z) j2 c1] [] pos) (fRep y z fa) := by
  refine pet_mono (CwR.pet_replC ho hyz hst hbase hline) fun σ H Q q => ?_
  obtain ⟨E, H0, env, S, q⟩ := q
  refine WP.bind S q fun e1 x v H1 H' S1 s1 r1 q1 => ?_
  cases x with
  | str w =>
    dsimp only at q1
    split at q1
    · rename_i hs
      have h1 := szS_le hs
      have h2 : (w.length + 1) * z.length ≤ (w.length + 1) * 10 := Nat.mul_le_mul_left _ hz
      exact ⟨w, rp_str r1, by omega, q1 _ H1 H' (Same.refl _) S1 (.str _)⟩
    · exact (show False from q1).elim
  | _ => exact (show False from q1).elim
theorem dta_nil : DTA X W [] fNil := dta_of da_nil
theorem dta_cons (ha : DTE X W e fa) (hr : DTA X W es fs) (hs : starEach (e :: es) X.env = (false, eval e X.env) :: starEach es X.env := by rfl) : DTA X W (e :: es) (fCons fa fs) := by
  refine pat_mono (pat_cons ha hr hs) fun σ H Q q => ?_
  obtain ⟨E, H0, env, S, q⟩ := q
  exact WP.bind S q fun e1 x v H1 H' S1 s1 r1 q1 => WP.bind S1 q1 fun e2 xs vs H2 H'' S2 s2 r2 q2 => Post.here S2 q2 (.cons (r1.mono s2) r2)
theorem dta_star (he : DTE X W e fa) (hr : DTA X W es fs) (hs : starEach (.Starred e p :: es) X.env = (true, eval e X.env) :: starEach es X.env := by rfl) : DTA X W (.Starred e p :: es) (fStar fa fs) := by
  intro q pins s σ H Q t0 I h
  obtain ⟨E, H0, env, S, h⟩ := h
  have h1 : tDE X.K W fa σ H (fun v H' => ∃ x vs, v = V.ref x ∧ (SqT X.K H' x vs ∨ SqL X.K H' x vs) ∧ tDA X.K W fs σ H' fun us H2 => Q (vs ++ us) H2) := by
    refine WP.bind S h fun e1 x v H1 H' S1 s1 r1 q1 => ?_
    cases hx : itemsD x with
    | none => rw [hx] at q1; exact (show False from q1).elim
    | some xs =>
      rw [hx] at q1
      obtain ⟨a, vs, rfl, hsq, rr⟩ := items_rp r1 hx
      refine ⟨a, vs, rfl, hsq.elim (fun z => .inr (S1.s1.seq z)) (fun z => .inl (sqT_mono S1.s1 z)), ?_⟩
      exact WP.bind S1 q1 fun e2 ys us H2 H'' S2 s2 r2 q2 => Post.here S2 q2 ((rr.mono s2).append r2)
  refine PySem.W.items_star (tkE t0 (he pins s σ H _ t0 I h1) fun v s1 t1 z => ?_) hs
  obtain ⟨y, H1, I1, ry, x, vs, rfl, hx, k⟩ := z
  obtain rfl : v = Value.ref x := ry
  have kk := StX.star_any (E := X.xe) (Q := fun us s' => ∃ I2 : L2.Inv X pins σ H1 s', Vals vs us) I1 hx fun us s2 I2 rv => ⟨I2, rv⟩
  unfold PySem.W.StarOf at kk ⊢
  refine tkE t1 kk fun r s2 t2 z2 => ⟨z2.1, tkE t2 z2.2 fun us s3 t3 z3 => ?_⟩
  obtain ⟨I3, rv⟩ := z3
  exact thn (hr q pins s3 σ H1 _ t3 I3 k) fun ws s4 z4 => by
    obtain ⟨xs, H4, I4, r4, q4⟩ := z4
    exact ⟨vs ++ xs, H4, I4, rv.append r4, q4⟩
theorem pet_tup {ta : TA} {x1} (h : PAT X es ta) : PET X (.Tuple es x1 pos) (tTup ta) := by
  intro pins s σ H Q t0 I hq
  refine wpAny_Tuple_spliced (thn (h pos pins s σ H _ t0 I hq) fun us s1 z => ?_)
  obtain ⟨xs, H1, I1, r, hz, q⟩ := z
  refine ⟨by rw [← r.length]; exact hz, .ref s1.heap.objs.size, upd H1 s1.heap.objs.size (.tup xs), ?_, rfl, q _ (I1.hok.fresh (Nat.le_refl _))⟩
  exact I1.laid (t' := s1.toks) (fun _ _ e => Heap.get?_push_of_some _ e) (Nat.le_refl _) ⟨hz, us, r, ⟨_, Heap.get?_push_size _ rfl, rfl, _, rfl⟩⟩
theorem dte_N {r : List V → Hp → VK → Prop} {g : List D → Option D} (hv : VN X.K r g) (h : PET X e (tCB r (tDA X.K W fs))) : DTE X W e (fN g fs) := by
  refine pet_mono h fun σ H Q q => ?_
  obtain ⟨E, H0, env, S, q⟩ := q
  exact WP.bind S q fun e1 xs vs H1 H' S1 s1 r1 q1 => q1.fin S1 fun d ed k => hv H1 H' xs d vs Q S1.s1 r1 ed k
theorem dte_tup {x1} (ha : DTA X W es fs) : DTE X W (.Tuple es x1 pos) (fN gTup fs) := dte_N vn_tup (pet_tup ha)
theorem dte_lst (ha : DTA X W es fs) : DTE X W (.List es pos) (fN gLst fs) := dte_N vn_lst (pet_lst ha)
theorem dtf_lst (ha : DTA X W es fs) : DTF X W (.List es pos) (fLst fs) := by
  refine pet_mono (pet_lst ha) fun σ H Q q => ?_
  obtain ⟨E, H0, env, S, q⟩ := q
  refine WP.bind S q fun e1 ds vs H1 H' S1 s1 r1 q1 => ?_
  by_cases hz : small ds.length = true
  · rw [if_pos hz] at q1
    refine ⟨by rw [← RpA.length r1]; exact le_line (small_le hz), fun p n => ?_⟩
    obtain ⟨S2, r2⟩ := S1.laid r1 n
    exact q1 _ H1 _ (Same.refl _) S2 r2
  · rw [if_neg hz] at q1
    exact (show False from q1).elim
/-- a + b -/
theorem dte_add (ha : DTE X W a fa) (hb : DTE X W b fb) : DTE X W (.BinOp a .Add b pos) (f2 dAdd fa fb) := by
  refine pet_mono (CwR.pet_op op_addD ha hb) fun σ H Q q => ?_
  obtain ⟨E, H0, env, S, q⟩ := q
  exact WP.bind S q fun e1 x v H1 H' S1 s1 r1 q1 => WP.bind S1 q1 fun e2 y u H2 H'' S2 s2 r2 q2 => q2.fin S2 fun d ed k => v2_add H2 H'' x y d v u Q S2.s1 (r1.mono s2) r2 ed k
/-! ### statements -/
theorem dts_ret (h : DTE X W a fa) : DTS X W (.Return (some a) pos) (fRet fa) := by
  refine pst_mono (CwR.pst_ret h) fun N σ H q => ?_
  obtain ⟨E, H0, env, S, q⟩ := q
  exact WP.bindS S q fun e1 x v H1 H' S1 s1 r1 q1 => q1 v σ H1 H' (Same.refl _) S1 r1
theorem dtss_cons (h1 : DTS X W st gs) (h2 : DTSs X W sts gr) : DTSs X W (st :: sts) (fSeq gs gr) := by
  refine psst_mono (psst_cons h1 h2) fun N σ H q => ?_
  obtain ⟨E, H0, env, S, q⟩ := q
  refine ⟨E, H0, env, S, ?_⟩
  unfold fSeq at q
  cases h : gs env with
  | ok e1 f =>
    rw [h] at q
    cases f with
    | nx => exact fun σ' H1 H' s1 S1 => ⟨E, H1, e1, S1, PostS.up s1 q⟩
    | rt d => exact q
    | bk => exact q
    | ct => exact q
  | er e1 C f d =>
    rw [h] at q
    exact q
  | no =>
    rw [h] at q
    exact q
theorem dtss_one (h : DTS X W st gs) : DTSs X W [st] gs := psst_mono (CwR.psst_one h) fun N σ H q => by
  obtain ⟨E, H0, env, S, q⟩ := q
  refine ⟨E, H0, env, S, ?_⟩
  cases h : gs env with
  | ok e1 f =>
    rw [h] at q
    cases f with
    | nx => exact fun σ' H1 H' s1 S1 => q σ' H1 H' s1 S1
    | rt d => exact q
    | bk => exact q
    | ct => exact q
  | er e1 C f d => rw [h] at q; exact q
  | no => rw [h] at q; exact q
end
end DL

end

section
set_option Elab.async false
set_option linter.all false
set_option maxRecDepth 100000
set_option maxHeartbeats 2000000
/-! DTm: behind a first token: comprehensions, assignments, calls; what gives a first token out. -/
namespace DL
open PySem PySem.Spec L2
section
variable {X : Cx} {W : WX} {k j n : Nat} {tg iter elt : Expr} {ifs : List Expr} {scope : Scope} {own : List (Str × Nat)} {pos p : Pos} {fi : Ev → Rs (List D)} {is : List Nat} {g : D → Ev → Option Ev} {ft : Ev → Rs Bool} {fe : Ev → Rs D}
theorem dtf_lc (B : Bd X W k) (hi : DI X W tg iter fi) (ok : BlkOk X.N X.env.scope scope own) (his : ∀ i ∈ is, i ∈ own.map (·.2))
    (hg : ∀ (s : Shared) (H : Hp) (C : Addr) (cl : List (Str × Addr)) (fp : List Addr), DG (X.blk s H scope (compEnvC scope cl C X.env) fp) tg is g)
    (ht : ∀ (s : Shared) (H : Hp) (C : Addr) (cl : List (Str × Addr)) (fp : List Addr), DTs (X.blk s H scope (compEnvC scope cl C X.env) fp) W0 ifs ft)
    (he : ∀ (s : Shared) (H : Hp) (C : Addr) (cl : List (Str × Addr)) (fp : List Addr), DTE (X.blk s H scope (compEnvC scope cl C X.env) fp) W0 elt fe) (hs : ∀ x, foldedSetIterable iter X.env x = pure x := by intro _; rfl) :
    DTF X W (.ListComp elt [⟨tg, iter, ifs, 0⟩] scope pos) (fLc (own.map (·.2)) fi g ft fe) :=
  pet_mono (pet_lc (g := tDG X.K is g) (tt := tDT X.K W0 ft) (te := tDE X.K W0 fe) B.hc B.nd hi ok hg ht he hs) fun σ H Q q => lc_read his q
theorem dts_setLc {i : Nat} {y : Str} {py spos : Pos} (B : Bd X W k) (hi : DI X W tg iter fi) (ok : BlkOk X.N X.env.scope scope own) (his : ∀ i ∈ is, i ∈ own.map (·.2))
    (hg : ∀ (s : Shared) (H : Hp) (C : Addr) (cl : List (Str × Addr)) (fp : List Addr), DG (X.blk s H scope (compEnvC scope cl C X.env) fp) tg is g)
    (ht : ∀ (s : Shared) (H : Hp) (C : Addr) (cl : List (Str × Addr)) (fp : List Addr), DTs (X.blk s H scope (compEnvC scope cl C X.env) fp) W0 ifs ft)
    (he : ∀ (s : Shared) (H : Hp) (C : Addr) (cl : List (Str × Addr)) (fp : List Addr), DTE (X.blk s H scope (compEnvC scope cl C X.env) fp) W0 elt fe)
    (hsw : swapsWith (.ListComp elt [⟨tg, iter, ifs, 0⟩] scope pos) (some (.Name y py)) spos.line X.env = pure true) (hy : X.N[i]? = some y := by rfl) (hyl : X.env.scope.names.lookup y = some .local := by rfl) (hs : ∀ x, foldedSetIterable iter X.env x = pure x := by intro _; rfl) :
    DTS X W (.Assign [.Name y py] (.ListComp elt [⟨tg, iter, ifs, 0⟩] scope pos) spos) (fSet i (fSh (fLc (own.map (·.2)) fi g ft fe))) := by
  refine pst_mono (pst_setLc (i := i) (g := tDG X.K is g) (tt := tDT X.K W0 ft) (te := tDE X.K W0 fe) B.hc B.nd hy hyl hsw hi ok hg ht he hs) fun N σ H q => lc_read (W := W) his ?_
  obtain ⟨E, H0, env, S, q⟩ := q
  have q' : PostS X.K W E H0 N ((fLc (own.map (·.2)) fi g ft fe env).bind fun e ds => match put e i (.sh (.lst ds)) with | some e' => .ok e' .nx | none => .no) := by
    cases h : fLc (own.map (·.2)) fi g ft fe env with
    | ok e x =>
      simp only [Rs.bind, fSet, fSh, h] at q
      exact q
    | er e C fl d =>
      simp only [Rs.bind, fSet, fSh, h] at q
      exact q
    | no =>
      simp only [Rs.bind, fSet, fSh, h] at q
      exact q
  refine WP.bindS S q' fun e1 ds v H1 H' S1 s1 r1 q1 => ?_
  by_cases hfr : free e1[i]? = true
  · simp only [put, if_pos hfr] at q1
    obtain ⟨G, s, S2, r⟩ := S1.share r1
    exact q1 _ G H' s (S2.putSh hfr r)
  · simp only [put, if_neg hfr] at q1
    exact (show False from q1).elim
end
section
variable {X : Cx} {W : WX} {k : Nat} {a b c : Expr} {ss ts : List Stmt} {fa fb : Ev → Rs D} {fs : Ev → Rs (List D)} {gc : Ev → Rs Bool} {f g : Ev → Rs Fl} {pos p : Pos}
theorem dts_if (hc : DT X W c gc) (ha : DTSs X W ss f) (hb : DTSs X W ts g) : DTS X W (.If c ss ts pos) (fIfS gc f g) := by
  refine pst_mono (CwR.pst_if hc ha hb) fun N σ H q => ?_
  obtain ⟨E, H0, env, S, q⟩ := q
  refine WP.bindS S q fun e1 x v H1 H' S1 s1 r1 q1 => ?_
  have r1 : x = v := r1
  subst r1
  cases x with
  | true => exact iteT ⟨E, H1, e1, S1, q1⟩
  | false => exact iteF ⟨E, H1, e1, S1, q1⟩
theorem pst_set {i : Nat} {x : Str} {te : TE} {pos' : Pos} (nd : X.N.Nodup) (hi : X.N[i]? = some x) (hx : Loc X.env.scope x) (he : PET X a te) (hs : swapsWith a (some (.Name x pos')) pos.line X.env = pure false) (hf : X.fn x = true ∨ X.env.scope.names.lookup x = some .local) : PST X (.Assign [.Name x pos'] a pos) (tAsg te (gName i)) := by
  intro pins s σ H N t0 I h
  refine wpAny_Assign_Name (thn (he pins s σ H _ t0 I h) fun v s1 z => ?_) hs
  obtain ⟨y, H1, I1, r1, q1⟩ := z
  exact store_ok I1 nd hi hx r1 (fun s2 I2 => ⟨_, H1, I2, q1⟩) hf
theorem dts_set {i : Nat} {x : Str} {pos' : Pos} (B : Bd X W k) (he : DTE X W a fa) (hi : X.N[i]? = some x := by rfl) (hx : Loc X.env.scope x := by first | exact Or.inl rfl | exact Or.inr rfl) (hs : swapsWith a (some (.Name x pos')) pos.line X.env = pure false := by rfl) (hf : X.fn x = true ∨ X.env.scope.names.lookup x = some .local := by first | exact Or.inl rfl | exact Or.inr rfl) :
    DTS X W (.Assign [.Name x pos'] a pos) (fSet i fa) := by
  refine pst_mono (pst_set (i := i) B.nd hi hx he hs hf) fun N σ H q => ?_
  obtain ⟨E, H0, env, S, q⟩ := q
  refine WP.bindS S q fun e1 d v H1 H' S1 s1 r1 q1 => ?_
  by_cases hfr : free e1[i]? = true
  · simp only [put, if_pos hfr] at q1
    exact q1 _ H1 H' (Same.refl _) (S1.putSh hfr r1)
  · simp only [put, if_neg hfr] at q1
    exact (show False from q1).elim
/-- a call of a def -/
theorem dtx_call {x : Str} {j n : Nat} {dv : List D} {gd : List Sl → Rs Dr} {es : List Expr} (B : Bd X W k) (F : Dfn X.prog X.w X.K X.mg X.base j x n dv gd) (hj : j ≤ k) (ha : DTA X W (a :: es) fs) (hg : Gl X x := by rfl) (hdb : (x == ("__debug__" : Str)) = false := by decide)
    (he : starEach (a :: es) X.env = (false, eval a X.env) :: starEach es X.env := by rfl) (hpl : (backTo pos (starEach es X.env)).any (·.1) = false := by rfl) : DTX X W (.Call (.Name x p) (a :: es) [] pos) (fCall n gd dv fs) := by
  obtain ⟨fa, fd, ps, dsv, dvs, F, hm, hk, hb, hd, hdv⟩ := F
  intro pins s σ H Q t0 I q
  obtain ⟨E, H0, env, S, q⟩ := q
  refine wpAny_Call_Name_kw (ld_glob I hg hm ?_ hdb)
  have hq : tDA X.K W fs σ H (fun vs H1 => spD X.K n gd (vs ++ dvs) H1 Q (WE W σ)) := by
    refine WP.bind S q fun e1 ds vs H1 H' S1 s1 r1 q1 => ?_
    by_cases hn : Nat.beq (ds ++ dv).length n = true
    · rw [if_pos hn] at q1
      exact call_read S1 (r1.append (hdv _)) hn q1
    · rw [if_neg hn] at q1
      exact (show False from q1).elim
  refine PySem.W.callWith_K (h₀ := X.base) I.ok.mod.kin hk (thn (ha pos pins s σ H _ t0 I hq) fun us s1 z => ?_) he hpl
  obtain ⟨vs, H1, I1, r, q1⟩ := z
  exact ⟨I1.kIn, run_fnSD (E := WE W) F (B.hr.mono hj) hb hd (passAt B.tk σ) I1 r q1⟩
theorem DTX.de {fx : Ev → Rs Dr} (h : DTX X W a fx) : DTE X W a (fShR fx) := by
  refine pet_mono h fun σ H Q q => ?_
  obtain ⟨E, H0, env, S, q⟩ := q
  refine WP.bind S q fun e1 r v H1 H' S1 s1 r1 q1 => ?_
  cases r with
  | sh d => exact Post.here S1 q1 r1
  | fr ds =>
    obtain ⟨G, s, S2, r⟩ := S1.share r1
    exact q1 v G H' s S2 r
theorem DTF.de (h : DTF X W a fs) : DTE X W a (fSh fs) := by
  refine pet_mono h fun σ H Q q => ?_
  obtain ⟨E, H0, env, S, q⟩ := q
  refine WP.bind S q fun e1 ds v H1 H' S1 s1 r1 q1 => ?_
  obtain ⟨G, s, S2, r⟩ := S1.share r1
  exact q1 v G H' s S2 r
end
/-! ### a first token -/
/-- a run of t gives a token out -/
def Bump {α : Type} (t : Sem α) : Prop := ∀ (M : Model) (A : Around) (Q : α → Shared → Prop) (E : Value → Shared → Prop) (s : Shared), wpAny M A t Q E s → wpAny M A t (fun a s' => 1 ≤ s'.toks ∧ Q a s') E s
section
variable {X : Cx} {W : WX} {c : Expr} {st : Stmt} {sts ss ts : List Stmt} {gc : Ev → Rs Bool} {f g : Ev → Rs Fl} {pos : Pos}
/-- if c: .., c giving a token out -/
theorem ds_ifB (hc : DT X W c gc) (hb : Bump (isTrue c X.env (eval c X.env))) (h1 : DTSs X W ss f) (h2 : DTSs X W ts g) : DS X W (.If c ss ts pos) (fIfS gc f g) := by
  refine ⟨fun pins s σ H N I q => ?_⟩
  obtain ⟨E, H0, env, S, q⟩ := q
  have hq : WP X.K W RB gc σ H (fun v H' => if v = true then tDS X.K W f N σ H' else tDS X.K W g N σ H') := by
    refine WP.bindS S q fun e1 x v H1 H' S1 s1 r1 q1 => ?_
    have r1 : x = v := r1
    subst r1
    cases x with
    | true => exact ⟨E, H1, e1, S1, q1⟩
    | false => exact ⟨E, H1, e1, S1, q1⟩
  refine wpAny_If (wpAny_mono (hb _ _ _ _ _ (hc.run pins s σ H _ I hq)) (fun v s1 z => ?_) fun _ _ z => z)
  obtain ⟨t1, H1, I1, k⟩ := z
  cases v with
  | true => exact h1 pins s1 σ H1 N t1 I1 k
  | false => exact h2 pins s1 σ H1 N t1 I1 k
end
end DL

end

section
set_option Elab.async false
set_option linter.all false
set_option maxRecDepth 100000
set_option maxHeartbeats 2000000
/-! DTn: what gives a first token out. -/
namespace DL
open PySem L2
/-- the same of one context -/
def BumpW {α : Type} (t : Sem α) : Prop := ∀ (M : Model) (Γ : PySem.Ctx) (Q : α → Pos → Shared → Prop) (E : Value → Pos → Shared → Prop) (p : Pos) (s : Shared), Sem.wp M Γ t Q E p s → Sem.wp M Γ t (fun a p' s' => 1 ≤ s'.toks ∧ Q a p' s') E p s
theorem BumpW.b {α : Type} {t : Sem α} (h : BumpW t) : Bump t := fun M A Q E s k Γ p hΓ => h M Γ _ _ p s (k Γ p hΓ)
section
variable {α β : Type} {m : Sem α} {k : α → Sem β} {env : Env}
theorem bw_l (h : BumpW m) : BumpW (m >>= k) := by
  intro M Γ Q E p s z
  rw [Sem.wp_bind'] at z ⊢
  refine Sem.wp_mono M Γ m (fun a p' s' y => ?_) (fun _ _ _ y => y) p s (h M Γ _ _ p s z)
  exact Sem.wp_mono M Γ (k a) (fun _ _ _ y => y) (fun _ _ _ y => y.2) p' s' (Sem.wp_toks M Γ 1 (k a) _ _ p' s' y.1 y.2)
theorem bw_r (h : ∀ a, BumpW (k a)) : BumpW (m >>= k) := by
  intro M Γ Q E p s z
  rw [Sem.wp_bind'] at z ⊢
  exact Sem.wp_mono M Γ m (fun a p' s' y => h a M Γ _ _ p' s' y) (fun _ _ _ y => y) p s z
theorem bw_hold {l : List Value} (h : BumpW m) : BumpW (holding l m) := by
  intro M Γ Q E p s z
  rw [Sem.wp_holding] at z ⊢
  exact h M Γ _ _ p s z
theorem bw_str {x : Str} {j : Nat} {p : Pos} : BumpW (eval (.Constant (.str x) j p) env) := fun M Γ Q E q s z => ⟨Nat.succ_le_succ (Nat.zero_le _), z⟩
theorem bw_int {i : Int} {j : Nat} {p : Pos} : BumpW (eval (.Constant (.int i) j p) env) := fun M Γ Q E q s z => ⟨Nat.succ_le_succ (Nat.zero_le _), z⟩
/-- l op 'text' as a test -/
theorem bw_cmp {l r : Expr} {op : CmpOp} {pos : Pos} {whole : Sem Value} (h : BumpW (eval r env)) (hm : behindInMarks op r = false) : BumpW (isTrue (.Compare l [op] [r] pos) env whole) := by
  rw [isTrue_Compare1, markedBehindIn_of_false hm]
  exact bw_r fun _ => bw_l (bw_hold h)
end
/-! ### statements that give a first token out -/
def DSB (X : Cx) (W : WX) (st : Stmt) (f : Ev → Rs Fl) : Prop := ∀ (pins : List (Addr × Obj)) (s : Shared) (σ : St) (H : Hp) (N : Ends), Inv X pins σ H s → tDS X.K W f N σ H → wpAny (model X.prog X.w) X.A (exec st X.env) (fun fl s' => 1 ≤ s'.toks ∧ SP X pins N fl s') X.xe s
section
variable {X : Cx} {W : WX} {k : Nat} {a c : Expr} {st : Stmt} {sts ss ts : List Stmt} {gc : Ev → Rs Bool} {fa : Ev → Rs D} {f g gs gr : Ev → Rs Fl} {pos : Pos}
theorem DSB.ds (h : DSB X W st f) : DS X W st f := ⟨fun pins s σ H N I q => wpAny_mono (h pins s σ H N I q) (fun _ _ z => z.2) fun _ _ z => z⟩
theorem dsb_if (hc : DT X W c gc) (hb : Bump (isTrue c X.env (eval c X.env))) (h1 : DTSs X W ss f) (h2 : DTSs X W ts g) : DSB X W (.If c ss ts pos) (fIfS gc f g) := by
  intro pins s σ H N I q
  obtain ⟨E, H0, env, S, q⟩ := q
  have hq : WP X.K W RB gc σ H (fun v H' => if v = true then tDS X.K W f N σ H' else tDS X.K W g N σ H') := by
    refine WP.bindS S q fun e1 x v H1 H' S1 s1 r1 q1 => ?_
    have r1 : x = v := r1
    subst r1
    cases x with
    | true => exact ⟨E, H1, e1, S1, q1⟩
    | false => exact ⟨E, H1, e1, S1, q1⟩
  refine wpAny_If (wpAny_mono (hb _ _ _ _ _ (hc.run pins s σ H _ I hq)) (fun v s1 z => ?_) fun _ _ z => z)
  obtain ⟨t1, H1, I1, k⟩ := z
  cases v with
  | true => exact tkE t1 (h1 pins s1 σ H1 N t1 I1 k) fun _ _ t z => ⟨t, z⟩
  | false => exact tkE t1 (h2 pins s1 σ H1 N t1 I1 k) fun _ _ t z => ⟨t, z⟩
/-- name = e, e giving a token out -/
theorem dsb_set {i : Nat} {x : Str} {pos' : Pos} (B : Bd X W k) (he : DE X W a fa) (hb : Bump (eval a X.env)) (hi : X.N[i]? = some x := by rfl) (hx : Loc X.env.scope x := by first | exact Or.inl rfl | exact Or.inr rfl) (hs : swapsWith a (some (.Name x pos')) pos.line X.env = pure false := by rfl) (hf : X.fn x = true ∨ X.env.scope.names.lookup x = some .local := by first | exact Or.inl rfl | exact Or.inr rfl) :
    DSB X W (.Assign [.Name x pos'] a pos) (fSet i fa) := by
  intro pins s σ H N I q
  obtain ⟨E, H0, env, S, q⟩ := q
  have hq : tDE X.K W fa σ H (fun v H' => N.nx (σ.set i (some v)) H') := by
    refine WP.bindS S q fun e1 d v H1 H' S1 s1 r1 q1 => ?_
    by_cases hfr : free e1[i]? = true
    · simp only [put, if_pos hfr] at q1
      exact q1 _ H1 H' (Same.refl _) (S1.putSh hfr r1)
    · simp only [put, if_neg hfr] at q1
      exact (show False from q1).elim
  refine wpAny_Assign_Name (wpAny_mono (hb _ _ _ _ _ (he.run pins s σ H _ I hq)) (fun v s1 z => ?_) fun _ _ z => z) hs
  obtain ⟨t1, y, H1, I1, r1, q1⟩ := z
  have kk := store_ok (M := model X.prog X.w) (A := X.A) (Q := fun _ s2 => Inv X pins (σ.set i (some y)) H1 s2) (E := X.xe) I1 B.nd hi hx r1 (fun s2 I2 => I2) hf
  exact tkE t1 kk fun _ s2 t2 I2 => ⟨t2, _, H1, I2, q1⟩
theorem dss_consB (h1 : DSB X W st gs) (h2 : DTSs X W sts gr) : DSs X W (st :: sts) (fSeq gs gr) := by
  refine ⟨fun pins s σ H N I q => ?_⟩
  have hq : tDS X.K W gs { N with nx := tDS X.K W gr N } σ H := by
    obtain ⟨E, H0, env, S, q⟩ := q
    refine ⟨E, H0, env, S, ?_⟩
    unfold fSeq at q
    cases h : gs env with
    | ok e1 f =>
      rw [h] at q
      cases f with
      | nx => exact fun σ' H1 H' s1 S1 => ⟨E, H1, e1, S1, PostS.up s1 q⟩
      | rt d => exact q
      | bk => exact q
      | ct => exact q
    | er e1 C f d => rw [h] at q; exact q
    | no => rw [h] at q; exact q
  refine wpAny_execs_cons (wpAny_mono (h1 pins s σ H _ I hq) (fun f s1 z => ?_) fun _ _ z => z)
  obtain ⟨t1, z⟩ := z
  cases f with
  | next =>
    obtain ⟨σ', H', I', k⟩ := z
    exact h2 pins s1 σ' H' N t1 I' k
  | ret v => exact z
  | brk => exact z
  | cont => exact z
end
end DL

end

section
set_option Elab.async false
set_option linter.all false
set_option maxRecDepth 100000
set_option maxHeartbeats 2000000
/-! DTo: a def whose text argument keeps its token: without(token, flag). -/
namespace DL
open PySem L2 PyProof.Rows
section
variable {X : Cx} {pins : List (Addr × Obj)} {σ : L2.St} {H : Hp} {s : Shared}
/-- a local is stored: the context's facts, and the frame itself -/
theorem storeR {M : Model} {A : Around} {E : Value → Shared → Prop} {i : Nat} {x : Str} {v : V} {u : Value} {m : Str → Option Value} {Q : Unit → Shared → Prop} (I : Inv X pins σ H s) (nd : X.N.Nodup) (hi : X.N[i]? = some x) (hk : X.env.kindOf x = some .local) (r : RelV v u) (hn : s.heap.Ns X.env.locals m)
    (hm : ∀ (j : Nat) (y : Str) (v' : V), X.N[j]? = some y → σ[j]? = some (some v') → Vis X.env.scope y → ∃ u', RelV v' u' ∧ Look X.env s.heap m y u')
    (h : ∀ s', Inv X pins (σ.set i (some v)) H s' → s'.heap.Ns X.env.locals (fun y => if y = x then some u else m y) →
      (∀ (j : Nat) (y : Str) (v' : V), X.N[j]? = some y → (σ.set i (some v))[j]? = some (some v') → Vis X.env.scope y → ∃ u', RelV v' u' ∧ Look X.env s'.heap (fun y => if y = x then some u else m y) y u') → Heap.SameBut X.env.locals s.heap s'.heap → Q () s') : wpAny M A (storeName X.env x u) Q E s := by
  have hcls : (X.env.scope.kind == .class || (X.env.scope.kind == .module && X.env.locals != X.env.globals)) = false := by rw [I.ok.kind]; rfl
  have hiσ : i < σ.length := by rw [I.len]; exact (List.getElem?_eq_some_iff.mp hi).1
  refine wpAny_storeName_local hk hn (fun h' hn' hs => ?_) hcls
  have up : ∀ {b : Addr} {o : Obj}, X.s_0.heap.get? b = some o → h'.get? b = s.heap.get? b := fun {b o} e => hs.2 b (Nat.ne_of_lt (Nat.lt_of_lt_of_le (Heap.lt_size e) I.ok.above))
  have hok : HOk X.prog X.w H h' := fun b ob e => by
    refine (I.hok b ob e).stay (fun c w' hc q => (hs.2 c ?_).trans q) (fun _ q => q) fun _ _ q => q
    rintro rfl
    rcases hc with rfl | hc
    · rw [I.free] at e; cases e
    · rw [I.free] at hc; cases hc
  have lk : ∀ (j : Nat) (y : Str) (v' : V), X.N[j]? = some y → (σ.set i (some v))[j]? = some (some v') → Vis X.env.scope y → ∃ u', RelV v' u' ∧ Look X.env h' (fun y => if y = x then some u else m y) y u' := fun j y v' e1 e2 e3 => by
    by_cases hj : j = i
    · subst hj
      rw [hi] at e1; cases e1
      rw [List.getElem?_set_self hiσ] at e2
      cases e2
      exact ⟨u, r, .inl ⟨hk, by simp⟩⟩
    · rw [List.getElem?_set_ne (Ne.symm hj)] at e2
      obtain ⟨u', r', q⟩ := hm j y v' e1 e2 e3
      refine ⟨u', r', ?_⟩
      rcases q with ⟨k, e⟩ | ⟨k, c, e, z⟩
      · have ne : y ≠ x := fun e => hj (nodup_ix nd e1 (e ▸ hi))
        exact .inl ⟨k, by simp [ne, e]⟩
      · exact .inr ⟨k, c, e, z.sameBut hs (I.cne y c e)⟩
  refine h _ ⟨I.ok, I.os, I.bare, ?_, ⟨_, hn', lk⟩, fun y c e => ?_, I.free, I.freeC, fun p hp => ?_, hok, by rw [List.length_set]; exact I.len⟩ hn' lk hs
  · refine ⟨fun b o e n hb hx => (up e).trans (I.base.keep b o e n hb hx), fun b o e n hb hx => ?_, I.base.free, fun b o e hx => ?_, I.base.tups, I.base.frzs, I.base.tbls⟩
    · obtain ⟨sl, e1⟩ := I.base.slot b o e n hb hx
      exact ⟨sl, (up e).trans e1⟩
    · obtain ⟨o', e1⟩ := I.base.there b o e hx
      exact ⟨o', (up e).trans e1⟩
  · obtain ⟨w', z⟩ := I.cell y c e
    exact ⟨w', z.sameBut hs (I.cne y c e)⟩
  · obtain ⟨e, n, ne, nf, d⟩ := I.pin p hp
    exact ⟨(hs.2 p.1 ne).trans e, n, ne, nf, d⟩
end
def WoRun (P : Program) (w : World) (K : Frag) (mg : Str → Option Value) (base : Heap) (CX : CXT) (k : Nat) (f : Addr) : Prop :=
  ∀ (A : Around) (outer : List Env) (s : Shared) (H : Hp) (a : Addr) (vp : V) (x y : Str) (t : PySem.Tok) (Q : VK) (E : XK), Room k A → Env0 P w K mg base A outer s H → SqT K H a [vp, .str x] → t ≠ 0 → t < s.toks → (y == ("" : Str)) = false → x.length ≤ 100000 →
    (∀ p, H p = none → Q (.ref p) (upd H p (.tup [vp, .str (Txt.replace x y "")]))) → codeAny (model P w) A (.call (.ref f) ⟨[.ref a, .str y t], []⟩) (CR CX outer P w H s Q E) s
theorem wo_run {P : Program} {w : World} {K : Frag} {mg : Str → Option Value} {base : Heap} {CX : CXT} {k : Nat} {f : Addr} {xn qual : Str} {params : Arguments} {scope : Scope} {fd : FuncData} {a0 a1 n0 n1 : Str} {p1 p2 p3 p4 p5 q1 q2 q3 q4 q5 apos cpos rpos : Pos} {k1 k2 j : Nat} {body : List Stmt}
    (hbd : body = [.Assign [.Tuple [.Name n0 p1, .Name n1 p2] k1 p3] (.Name a0 p4) p5, .Return (some (.Tuple [.Name n0 q1, .Call (.Attribute (.Name n1 q2) "replace" apos) [.Name a1 q3, .Constant (.str "") j q4] [] cpos] k2 q5)) rpos])
    (F : FunD K xn qual params body scope [] [] f fd) (S : FnScope [a0, a1, n0, n1] [a0, a1] scope)
    (hb : ∀ (kV doc pm : Value) (an : Option Addr) (cdv ct : Value) (us : List Value), us.length = 2 → bindArgs (PySem.W.fnOf xn qual params body scope .none kV doc pm an cdv ct) ⟨us, []⟩ = pure ([a0, a1].zip us))
    (l0 : scope.names.lookup a0 = some .local) (l1 : scope.names.lookup a1 = some .local) (l2 : scope.names.lookup n0 = some .local) (l3 : scope.names.lookup n1 = some .local)
    (d0 : (a0 == ("__debug__" : Str)) = false) (d1 : (a1 == ("__debug__" : Str)) = false) (d2 : (n0 == ("__debug__" : Str)) = false) (d3 : (n1 == ("__debug__" : Str)) = false)
    (hline : (apos.endLine == cpos.line) = true)
    (hs : ∀ (L : Nat) (fa : Addr) (cdv : Value), swapsWithSole [.Tuple [.Name n0 p1, .Name n1 p2] k1 p3] (.Name a0 p4) p5.line (envOfC qual scope L fa cdv) = pure false)
    (hw : ∀ (L : Nat) (fa : Addr) (cdv : Value), swappedStores [.Tuple [.Name n0 p1, .Name n1 p2] k1 p3] (.Name a0 p4) (envOfC qual scope L fa cdv) = pure none) : WoRun P w K mg base CX (k + 1) f := by
  intro A outer s H a vp x y t Q E hr e0 ht t0 tl hy hx q
  obtain ⟨oc, od, dV, kV, doc, pm, an, cdv, ct, osl, rfl, lk, hcd, hD, hK⟩ := F.ex
  rcases hD with ⟨_, rfl⟩ | ⟨e, _⟩
  rotate_left
  · exact absurd rfl e
  have KX : K.In s.heap := e0.mod.kin.keeps fun b o e => (e0.bs b o e).1
  have lim : s.heap.NoLimit := e0.mod.nolimit.keeps fun b o e => (e0.bs b o e).1
  have hkind : ∀ v ∈ [a0, a1].zip [Value.ref a, .str y t], scope.names.lookup v.1 = some .local ∨ (scope.names.lookup v.1 = some .cell ∧ ((cellsFrom (s.heap.objs.size + 1) scope.names []).lookup v.1).isSome = true) := fun v hv => by
    simp only [List.zip_cons_cons, List.zip_nil_right, List.mem_cons, List.not_mem_nil, or_false] at hv
    rcases hv with rfl | rfl
    · exact .inl l0
    · exact .inl l1
  refine codeAny_call_function hr.depth (KX _ _ lk) rfl S.co S.gen rfl (PySem.W.codeRec_of KX hcd) (BindsTo.of_eq (hb kV doc pm an cdv ct [.ref a, .str y t] rfl) _ _ _ _ ?_)
  refine wpAny_with_toks (n := s.toks) (Nat.le_refl _) (wpAny_newFunctionEnv_cells S.kind hkind fun env he s1 xx tk1 => ?_)
  subst he
  refine ⟨lim.keeps xx.toInCall.keep, codeAny_func ?_⟩
  have rv : Vals [V.ref a, .str y] [Value.ref a, .str y t] := .cons rfl (.cons ⟨t, rfl⟩ .nil)
  have I : Inv (cxOf CX P w K mg base [a0, a1, n0, n1] qual scope f cdv A outer s H E) [] (start [a0, a1, n0, n1] [.ref a, .str y]) H s1 := inv_start S hr.hd e0 rfl rv xx
  have hn := xx.toInCall.ns
  have nd : [a0, a1].Nodup := by
    have e : [a0, a1] = [a0, a1, n0, n1].take 2 := rfl
    rw [e]
    exact S.nd.sublist (List.take_sublist _ _)
  have m0 := bindL_get (kindOf := (envOfC qual scope s.heap.objs.size f cdv).kindOf) (x := a0) (v := Value.ref a) (P := [a0, a1]) (vs := [.ref a, .str y t]) (i := 0) (m := fun _ => none) nd rfl rfl l0
  have m1 := bindL_get (kindOf := (envOfC qual scope s.heap.objs.size f cdv).kindOf) (x := a1) (v := Value.str y t) (P := [a0, a1]) (vs := [.ref a, .str y t]) (i := 1) (m := fun _ => none) nd rfl rfl l1
  have ndN := S.nd
  have ne1 : a1 ≠ n0 := fun e => by subst e; simp at ndN
  have ne2 : a1 ≠ n1 := fun e => by subst e; simp at ndN
  have ne3 : n0 ≠ n1 := fun e => by subst e; simp at ndN
  subst hbd
  obtain ⟨its, rvt, htup, hz⟩ := I.tuple ht
  cases rvt with
  | cons r0 rr =>
  cases rr with
  | cons r1 rr =>
  cases rr
  rename_i u0 u1
  obtain ⟨tx, rfl⟩ := r1
  refine wpAny_execs_cons (Assign_Tuple (wpAny_Name (wpAny_loadName_local S.kind l0 hn m0 ?_) d0) (hs _ _ _) (hw _ _ _))
  refine assign_Tuple_tuple (I.ok.hd rfl) htup rfl rfl fun h2 hx2 => ?_
  have kp : ∀ b o, s1.heap.get? b = some o → h2.get? b = some o := fun b o e => hx2 b o (Nat.ne_of_lt (Heap.lt_size e)) e
  have I1 := I.kept (t' := s1.toks) kp
  have hn1 := Heap.Ns.keeps hn kp
  have hm : ∀ (j : Nat) (y' : Str) (v' : V), ([a0, a1, n0, n1] : List Str)[j]? = some y' → (start [a0, a1, n0, n1] [.ref a, .str y])[j]? = some (some v') → Vis scope y' → ∃ u', RelV v' u' ∧ Look (envOfC qual scope s.heap.objs.size f cdv) h2 (bindL (envOfC qual scope s.heap.objs.size f cdv).kindOf ([a0, a1].zip [Value.ref a, .str y t]) fun _ => none) y' u' := fun j y' v' e1 e2 e3 => by
    match j, e1, e2 with
    | 0, e1, e2 => cases e1; cases e2; exact ⟨.ref a, rfl, .inl ⟨l0, m0⟩⟩
    | 1, e1, e2 => cases e1; cases e2; exact ⟨.str y t, ⟨t, rfl⟩, .inl ⟨l1, m1⟩⟩
    | 2, e1, e2 => cases e2
    | 3, e1, e2 => cases e2
    | j + 4, e1, e2 => cases e1
  refine wpAny_with_toks (n := s.toks) tk1 ?_
  refine assignInOrder_cons (assign_Name (storeR (i := 2) (v := vp) I1 S.nd rfl l2 r0 hn1 hm fun s3 I3 hn3 hm3 sb3 => ?_))
  refine assignInOrder_cons (assign_Name (storeR (i := 3) (v := .str x) I3 S.nd rfl l3 ⟨tx, rfl⟩ hn3 hm3 fun s4 I4 hn4 hm4 sb4 => ?_))
  refine wpAny_pure fun tk4 => ?_
  have tk4 : s.toks ≤ s4.toks := tk4
  have v0 : (fun y' => if y' = n1 then some (Value.str x tx) else (fun y' => if y' = n0 then some u0 else bindL (envOfC qual scope s.heap.objs.size f cdv).kindOf ([a0, a1].zip [Value.ref a, .str y t]) (fun _ => none) y') y') n0 = some u0 := by
    dsimp only
    rw [if_neg ne3, if_pos rfl]
  have v1 : (fun y' => if y' = n1 then some (Value.str x tx) else (fun y' => if y' = n0 then some u0 else bindL (envOfC qual scope s.heap.objs.size f cdv).kindOf ([a0, a1].zip [Value.ref a, .str y t]) (fun _ => none) y') y') n1 = some (.str x tx) := by
    dsimp only
    rw [if_pos rfl]
  have v2 : (fun y' => if y' = n1 then some (Value.str x tx) else (fun y' => if y' = n0 then some u0 else bindL (envOfC qual scope s.heap.objs.size f cdv).kindOf ([a0, a1].zip [Value.ref a, .str y t]) (fun _ => none) y') y') a1 = some (.str y t) := by
    dsimp only
    rw [if_neg ne2, if_neg ne1]
    exact m1
  show wpAny _ _ (execs _ _) _ _ _
  refine wpAny_execs_cons (wpAny_Return_some (wpAny_Tuple_spliced ?_))
  refine Calls.spliced_cons (wpAny_Name (wpAny_loadName_local S.kind l2 hn4 v0 ?_) d2)
  refine Calls.spliced_cons (PySem.Call_method2 rfl rfl hline (wpAny_Name (wpAny_loadName_local S.kind l3 hn4 v1 ?_) d3))
  refine ⟨"str", _, PySem.F.plainAttrs_str, PySem.F.slot_str_replace, PySem.F.type_str_replace, typeIs_str _ _ _, (fun _ e => nomatch e), Calls.callWith_builtin rfl (Calls.evalArgs_plain (Calls.spliced_cons ?_))⟩
  refine wpAny_Name (wpAny_loadName_local S.kind l1 hn4 v2 ?_) d1
  refine Calls.spliced_cons (Calls.Constant_str (Calls.spliced_nil ?_))
  refine PySem.SC.replace t0 (Nat.ne_of_gt (Nat.lt_of_lt_of_le (Nat.lt_of_le_of_lt (Nat.zero_le _) tl) tk4)) (Nat.ne_of_lt (Nat.lt_of_lt_of_le tl tk4)) hy (by
    have : ("" : Str).length = 0 := rfl
    rw [this]; omega) fun t' tk => ?_
  refine Calls.spliced_nil ⟨by rw [sizeLine_eq]; show 2 ≤ _; omega, ?_⟩
  have I5 := I4.tok tk
  have hf : H ({ s4 with toks := tk } : Shared).heap.objs.size = none := I5.hok.fresh (Nat.le_refl _)
  have J := I5.laid (t' := tk) (h' := s4.heap.push { cls := .type "tuple", data := .seq [u0, .str (Txt.replace x y "") t'].toArray }) (a := s4.heap.objs.size) (o := .tup [vp, .str (Txt.replace x y "")]) (fun b u e => Heap.get?_push_of_some _ e) (Nat.le_refl _) ⟨by rw [sizeLine_eq]; show 2 ≤ _; omega, [u0, .str (Txt.replace x y "") t'], .cons r0 (.cons ⟨t', rfl⟩ .nil), ⟨_, Heap.get?_push_size _ rfl, rfl, _, rfl⟩⟩
  exact ⟨.ref s4.heap.objs.size, _, J.os, J.bare, J.base, J.hok, rfl, q _ hf⟩
/-- such a def of the text -/
def WoD (P : Program) (w : World) (K : Frag) (mg : Str → Option Value) (base : Heap) (k : Nat) (x : Str) : Prop := ∃ f, WoRun P w K mg base (L2.CX P w) k f ∧ mg x = some (.ref f) ∧ PySem.W.keepIn K (.ref f) = true
def fWo (c : Str) (fe : Ev → Rs D) (env : Ev) : Rs D := (fe env).bind fun e d => match d with
  | .tup [dp, .str xs] => if szS xs = true then .ok e (.tup [dp, .str (Txt.replace xs c "")]) else .no
  | _ => .no
section
variable {X : Cx} {W : WX} {k j i : Nat} {a : Expr} {x c : Str} {fe : Ev → Rs D} {p cp pos : Pos}
/-- x(a, 'c') -/
theorem dte_wo (B : Bd X W k) (F : WoD X.prog X.w X.K X.mg X.base j x) (hj : j ≤ k) (ha : DTE X W a fe) (hc : (c == ("" : Str)) = false := by decide) (hg : Gl X x := by rfl) (hdb : (x == ("__debug__" : Str)) = false := by decide)
    (he : starEach [a, .Constant (.str c) i cp] X.env = (false, eval a X.env) :: starEach [.Constant (.str c) i cp] X.env := by rfl) (he2 : starEach [.Constant (.str c) i cp] X.env = [(false, eval (.Constant (.str c) i cp) X.env)] := by rfl) :
    DTE X W (.Call (.Name x p) [a, .Constant (.str c) i cp] [] pos) (fWo c fe) := by
  obtain ⟨f, R, hm, hk⟩ := F
  intro pins s σ H Q t0 I q
  obtain ⟨E, H0, env, S, q⟩ := q
  have hq : tDE X.K W fe σ H (fun v H' => ∃ (b : Addr) (vp : V) (xs : Str), v = .ref b ∧ SqT X.K H' b [vp, .str xs] ∧ xs.length ≤ 100000 ∧ ∀ r, H' r = none → Q (.ref r) (upd H' r (.tup [vp, .str (Txt.replace xs c "")]))) := by
    refine WP.bind S q fun e1 d v H1 H' S1 s1 r1 q1 => ?_
    split at q1
    · rename_i dp xs
      split at q1
      · rename_i hz
        cases r1 with
        | tup ht rr =>
          cases rr with
          | cons ra rb =>
            obtain ⟨w, rfl, rw'⟩ := rpa1 rb
            cases rp_str rw'
            refine ⟨_, _, xs, rfl, sqT_mono S1.s1 ht, szS_le hz, fun r nr => ?_⟩
            exact q1 _ _ _ (S1.same_new _ nr) (S1.new (.tup _) nr) (.tup (SqT.of upd_same) (.cons (ra.mono (S1.same_new _ nr)) (.cons (.str _) .nil)))
      · exact (show False from q1).elim
    · exact (show False from q1).elim
  refine wpAny_Call_Name_kw (ld_glob I hg hm ?_ hdb)
  refine PySem.W.callWith_K (h₀ := X.base) I.ok.mod.kin hk ?_ he (by rw [he2]; rfl)
  rw [he, he2]
  show wpAny _ _ (spliced ((false, eval a X.env) :: backTo pos [(false, eval (.Constant (.str c) i cp) X.env)])) _ _ s
  refine Calls.spliced_cons (tkE t0 (ha pins s σ H _ t0 I hq) fun v s1 t1 z => ?_)
  obtain ⟨v', H1, I1, r1, b, vp, xs, rfl, ht, hz, fin⟩ := z
  obtain rfl : v = Value.ref b := r1
  show wpAny _ _ (spliced ((false, eval (.Constant (.str c) i cp) X.env) :: [])) _ _ s1
  refine Calls.spliced_cons (Calls.Constant_str (Calls.spliced_nil ?_))
  have I2 : L2.Inv X pins σ H1 { s1 with toks := s1.toks + 1 } := I1.tok _
  refine ⟨I2.kIn, wpAny_call (codeAny_mono (R X.A X.stack { s1 with toks := s1.toks + 1 } H1 b vp xs c s1.toks Q (WE W σ) (B.hr.mono hj) I2.env0 ht (Nat.ne_of_gt t1) (Nat.lt_succ_self _) hc hz fin) fun r s' hq => ?_)⟩
  cases r with
  | error e => exact (passAt B.tk σ) pins H1 _ e s' I2 hq
  | ok fl =>
    cases fl with
    | ret u => exact I2.after hq
    | next => exact False.elim hq
    | brk => exact False.elim hq
    | cont => exact False.elim hq
end
section
variable {X : Cx} {W : WX} {a b c : Expr} {fa fb : Ev → Rs D} {gc : Ev → Rs Bool} {pos : Pos}
/-- a[b] -/
theorem dte_item (ha : DTE X W a fa) (hb : DE X W b fb) (hs : PlainIx b := by exact fun _ _ => rfl) : DTE X W (.Subscript a b pos) (f2 dIx fa fb) := by
  intro pins s σ H Q t0 I q
  obtain ⟨E, H0, env, S, q⟩ := q
  have hq : tOp (fun x y H Q => (rIxL X.K x y H Q ∨ rIxT X.K x y H Q) ∨ rIxS x y H Q) (tDE X.K W fa) (tDE X.K W fb) σ H Q := WP.bind S q fun e1 x v H1 H' S1 s1 r1 q1 => WP.bind S1 q1 fun e2 y u H2 H'' S2 s2 r2 q2 => q2.fin S2 fun d ed k => v2_ix H2 H'' x y d v u Q S2.s1 (r1.mono s2) r2 ed k
  refine Subscript_ (thn (ha pins s σ H _ t0 I hq) fun v s1 z => ?_)
  obtain ⟨x, H1, I1, r1, q1⟩ := z
  refine thn (hb.run pins s1 σ H1 _ I1 q1) fun u s2 z => ?_
  obtain ⟨y, H2, I2, r2, q2⟩ := z
  exact or_ix a b pins s2 σ H2 x y v u Q I2 r1 r2 q2 (hs _ _)
/-- a if c else b -/
theorem dte_if (hc : DT X W c gc) (ha : DTE X W a fa) (hb : DTE X W b fb) : DTE X W (.IfExp c a b pos) (fIf gc fa fb) := by
  intro pins s σ H Q t0 I q
  obtain ⟨E, H0, env, S, q⟩ := q
  have hq : WP X.K W RB gc σ H (fun v H' => if v = true then tDE X.K W fa σ H' Q else tDE X.K W fb σ H' Q) := by
    refine WP.bind S q fun e1 x v H1 H' S1 s1 r1 q1 => ?_
    have r1 : x = v := r1
    subst r1
    cases x with
    | true => exact ⟨E, H1, e1, S1, q1⟩
    | false => exact ⟨E, H1, e1, S1, q1⟩
  refine wpAny_IfExp (tkE t0 (hc.run pins s σ H _ I hq) fun v s1 t1 z => ?_)
  obtain ⟨H1, I1, k⟩ := z
  cases v with
  | true => exact ha pins s1 σ H1 Q t1 I1 k
  | false => exact hb pins s1 σ H1 Q t1 I1 k
end
/-! ### more that gives a token out -/
section
variable {env : Env} {a b l r : Expr} {op : CmpOp} {pos : Pos} {whole : Sem Value}
theorem bw_subL (h : BumpW (eval a env)) : BumpW (eval (.Subscript a b pos) env) := by
  rw [arm_eval_Subscript]
  exact bw_l h
theorem bw_subR (h : BumpW (eval b env)) : BumpW (eval (.Subscript a b pos) env) := by
  rw [arm_eval_Subscript]
  exact bw_r fun _ => bw_l (bw_hold h)
theorem bw_cmpL (h : BumpW (eval l env)) : BumpW (isTrue (.Compare l [op] [r] pos) env whole) := by
  rw [isTrue_Compare1]
  exact bw_l h
end
section
variable {X : Cx} {W : WX} {a : Expr} {fs : Ev → Rs (List D)} {pos : Pos}
theorem dts_retF (h : DTF X W a fs) : DTS X W (.Return (some a) pos) (fun env => (fs env).bind fun e ds => .ok e (.rt (.fr ds))) := by
  refine pst_mono (CwR.pst_ret h) fun N σ H q => ?_
  obtain ⟨E, H0, env, S, q⟩ := q
  exact WP.bindS S q fun e1 x v H1 H' S1 s1 r1 q1 => q1 v σ H1 H' (Same.refl _) S1 r1
end
end DL

end

section
set_option Elab.async false
set_option linter.all false
set_option maxRecDepth 100000
set_option maxHeartbeats 2000000
/-! DVx: comparisons and if-expressions in an except suite. -/
namespace DL
open PySem L2
section
variable {X : Cx} {gd : Gd} {a b c : Expr} {fa fb : Ev → Rs D} {gc : Ev → Rs Bool} {pos : Pos}
theorem deg_if (hc : DTg X gd c gc) (ha : DEg X gd a fa) (hb : DEg X gd b fb) : DEg X gd (.IfExp c a b pos) (fIf gc fa fb) := by
  refine pe_mono (pe_ifExp hc ha hb) fun σ H Q q => ?_
  obtain ⟨E, H0, env, i, S, q⟩ := q
  refine WPg.bind i S q fun e1 x v H1 H' i1 S1 s1 r1 q1 => ?_
  have r1 : x = v := r1
  subst r1
  cases x with
  | true => exact iteT ⟨E, H1, e1, i1, S1, q1⟩
  | false => exact iteF ⟨E, H1, e1, i1, S1, q1⟩
theorem dtg_cmp {op : CmpOp} {r : R2} {g2 : D → D → Option D} (ho : OpR X (compareOp op) r) (hv : V2 X.K r g2) (ha : DEg X gd a fa) (hb : DEg X gd b fb) (hm : behindInMarks op b = false := by first | exact nomark _ | rfl | with_unfolding_all rfl) : DTg X gd (.Compare a [op] [b] pos) (fTest (f2 g2 fa fb)) := by
  refine pt_mono (pt_cmpR ho ha hb hm) fun σ H Q q => ?_
  obtain ⟨E, H0, env, i, S, q⟩ := q
  have q' : Post X.K W0 RB E H0 σ Q ((fa env).bind fun e x => (fb e).bind fun e' y => match g2 x y with | some (.bl k) => .ok e' k | _ => .no) := by
    simp only [fTest, DL.f2] at q
    cases h1 : fa env with
    | ok e x =>
      simp only [h1, Rs.bind] at q ⊢
      cases h2 : fb e with
      | ok e' y =>
        simp only [h2] at q ⊢
        cases h3 : g2 x y with
        | some d => simp only [h3, lift] at q ⊢; cases d <;> exact q
        | none => simp only [h3, lift] at q ⊢; exact q
      | er _ _ _ _ => simp only [h2] at q ⊢; exact q
      | no => simp only [h2] at q ⊢; exact q
    | er _ _ _ _ => simp only [h1, Rs.bind] at q ⊢; exact q
    | no => simp only [h1, Rs.bind] at q ⊢; exact q
  refine WPg.bind i S q' fun e1 x v H1 H' i1 S1 s1 r1 q1 => WPg.bind i1 S1 q1 fun e2 y u H2 H'' i2 S2 s2 r2 q2 => ?_
  cases h3 : g2 x y with
  | none => rw [h3] at q2; exact (show False from q2).elim
  | some d =>
    rw [h3] at q2
    refine hv H2 H'' x y d v u _ S2.s1 (r1.mono s2) r2 h3 fun v' G1 G2 gr rp => ?_
    obtain ⟨s3, S3⟩ := S2.gr gr
    cases d with
    | bl k => exact ⟨k, rp_bl rp, q2 k G1 G2 s3 S3 rfl⟩
    | _ => exact (show False from q2).elim
end
/-- the comparison of a suite -/
theorem su_eq {X : Cx} {W : WX} {k : Nat} (B : Bd X W k) {a : Addr} {pn : List (Addr × Obj)} : OpR (X.suite a pn) (compareOp .Eq) (fun x y H Q => rEq x y H Q ∨ rEqD X.K x y H Q) := op_eq.or (op_eqD (show X.A.units + _ < _ from B.hr.units))
end DL

end

section
set_option Elab.async false
set_option linter.all false
set_option maxRecDepth 100000
set_option maxHeartbeats 4000000
namespace LW
open PySem L2 DL LP
abbrev t_DONE : List (Str × D) := [("step", .glo "stepped"), ("kill", .glo "killed"), ("fail", .glo "failed"), ("repeat", .glo "repeated"), ("lose", .glo "missed"), ("lapse", .glo "lapsed"), ("watch", .glo "begun"), ("start", .glo "begun"), ("off", .glo "turned_off"), ("on", .glo "turned_on")]
def f__law_token : Ev → Rs Fl :=
    (fSeq (fPar2 4 5 (f2 dAdd (fN gLen (fCons (f2 dIx (fVar 1) (fC (.int 0))) fNil)) (fN gLen (fCons (f2 dIx (fVar 1) (fC (.int 1))) fNil))) (fN gLen (fCons (f2 dIx (fVar 1) (fC (.int 0))) fNil)))
    (fSeq (fSet 2 (fShR (fCallR 0 2 g__law_of [] (fCons (fN gLst (fCons (fC (.int 0)) (fCons (fC (.int 0)) (fCons (fC (.int 1)) (fCons (fVar 4) (fCons (f2 dAdd (fVar 4) (fC (.int 1))) (fCons (fShR (fCallR 0 2 g__law_take [] (fCons (f2 dAdd (fVar 4) (fC (.int 2))) fNil))) (fCons (fShR (fCallR 0 2 g__law_take [] (fCons (f2 dAdd (fVar 4) (fC (.int 2))) fNil))) fNil)))))))) fNil))))
    (fSeq (fSet 3 (fIf (fAnd (fTest (f2 dGt (fVar 2) (fC (.int 0)))) (fTest (f2 dEq (fShR (fCallR 0 2 g__law_take [] (fCons (fC (.int 3)) fNil))) (fC (.int 0))))) (fC (.str "b")) (fC (.str ""))))
    (fSeq (fIfS (fTest (f2 dEq (fShR (fCallR 0 2 g__law_take [] (fCons (fC (.int 3)) fNil))) (fC (.int 0)))) (fSet 3 (f2 dAdd (fVar 3) (fC (.str "e")))) fsNil)
    (fSeq (fIfS (fAnd (fTest (f2 dGt (fVar 2) (fVar 5))) (fAnd (fTest (f2 dNe (f2 dIx (fVar 1) (fC (.int 1))) (fN gLst fNil))) (fTest (f2 dEq (fShR (fCallR 0 2 g__law_take [] (fCons (fC (.int 2)) fNil))) (fC (.int 0)))))) (fSet 3 (f2 dAdd (fVar 3) (fC (.str "f")))) fsNil)
    (fRet (fN gTup (fCons (fVar 2) (fCons (fVar 3) fNil)))))))))
def g__law_token : List Sl → Rs Dr := gOf 6 f__law_token
def f__law_standing_e1 : Ev → Rs D :=
    (fShR (fCallR 0 2 g__law_token [] (fCons (fVar 1) fNil)))
def f__law_standing : Ev → Rs Fl :=
    (fSeq (fSetO 3 (fLc (([("_law_k", 6)] : List (Str × Nat)).map (·.2)) (fiR1 (fCons (fShR (fCallR 0 2 g__law_take [] (fCons (f2 dAdd (fVar 2) (fC (.int 1))) fNil))) fNil)) (gNm 6) fYes f__law_standing_e1))
    (fSeq (fIfS (fAnd (fBorT (fTest (f2 dGt (fN gLen (fCons (fVar 3) fNil)) (fC (.int 1))))) (fTest (f2 dEq (fShR (fCallR 0 2 g__law_take [] (fCons (fC (.int 4)) fNil))) (fC (.int 0))))) (fSetIx 3 (fIxO 3 (fC (.int 0))) (fC (.int 1))) fsNil)
    (fSeq (fSet 4 (fShR (fCallR 0 2 g__law_of [] (fCons (fN gLst (fCons (fC (.str "free")) (fCons (fC (.str "held")) (fCons (fC (.str "held")) (fCons (fC (.str "lost")) fNil))))) fNil))))
    (fSeq (fIfS (fBorT (fAnd (fTest (f2 dEq (fVar 4) (fC (.str "held")))) (fTest (f2 dEq (fVar 3) (fN gLst fNil))))) (fSet 4 (fC (.str "lost"))) fsNil)
    (fSeq (fIfS (fTest (f2 dEq (fVar 4) (fC (.str "held")))) (fSeq (fSet 5 (fShR (fCallR 0 2 g__law_take [] (fCons (fBor (fN gLen (fCons (fVar 3) fNil))) fNil))))
    (fSetIx 3 (fN gTup (fCons (f2 dIx (fIxO 3 (fVar 5)) (fC (.int 0))) (fCons (f2 dAdd (f2 dIx (fIxO 3 (fVar 5)) (fC (.int 1))) (fC (.str "k"))) fNil))) (fVar 5))) fsNil)
    (fRet (fN gTup (fCons (fShR (fCallR 0 2 g__law_of [] (fCons (fN gLst (fCons (fC (.str "on")) (fCons (fC (.str "on")) (fCons (fC (.str "off")) fNil)))) fNil))) (fCons (fVar 4) (fCons (fBor (fN gTuple (fCons (fSh (fNewL gSort (fCons (fVar 3) fNil))) fNil))) fNil))))))))))
def g__law_standing : List Sl → Rs Dr := gOf 7 f__law_standing
def f_taken_out : Ev → Rs Fl :=
    (fSeq (fSet 2 (f2 dIx (fVar 0) (fC (.int 2))))
    (fRet (fN gLst (fStar (fCutT (fVar 2) fNoP (fP (fVar 1))) (fStar (fCutT (fVar 2) (fP (f2 dAdd (fVar 1) (fC (.int 1)))) fNoP) fNil)))))
def g_taken_out : List Sl → Rs Dr := gOf 3 f_taken_out
def f_is_stopped : Ev → Rs Fl :=
    (fSeq (fIfS (fTest (f2 dEq (fVar 0) (fC (.str "look")))) (fRet (f2 dEq (fVar 1) (fC (.str "off")))) fsNil)
    (fSeq (fIfS (fTest (f2 dEq (fVar 0) (fC (.str "check")))) (fRet (f2 dIn (fC (.str "e")) (fVar 3))) fsNil)
    (fRet (fAndV (f2 dEq (fVar 0) (fC (.str "hold"))) (fAndV (f2 dNe (fVar 2) (fC (.str "free"))) (f2 dNotIn (fC (.str "k")) (fVar 3)))))))
def g_is_stopped : List Sl → Rs Dr := gOf 4 f_is_stopped
def f_put_by : Ev → Rs Fl :=
    (fSeq (fSet 2 (fIf (fTest (f2 dIn (fC (.str "e")) (f2 dIx (fVar 1) (fC (.int 1))))) (fC (.str "e")) (fC (.str ""))))
    (fRet (fIf (fTest (f2 dEq (fVar 0) (fC (.str "once")))) (fN gTup (fCons (fC (.int 0)) (fCons (f2 dAdd (fVar 2) (fC (.str "k"))) fNil))) (fN gTup (fCons (fC (.int 0)) (fCons (fVar 2) fNil))))))
def g_put_by : List Sl → Rs Dr := gOf 3 f_put_by
def f_is_put : Ev → Rs Fl :=
    (fSeq (fAsg (fVar 2) (gTp (gsCons (gNm 4) (gsCons (gNm 5) gsNil))))
    (fSeq (fIfS (fNot (fTest (fChain dLe dLe (fC (.int 1)) (fVar 4) (fN gLen (fCons (fFld ["Job"] "words" (fVar 0)) fNil))))) (fRet (fC (.bl false))) fsNil)
    (fSeq (fSet 3 (f2 dIx (fFld ["Job"] "words" (fVar 0)) (f2 dSub (fVar 4) (fC (.int 1)))))
    (fSeq (fIfS (fTest (f2 dEq (fVar 3) (fC (.str "once")))) (fRet (fOrV (f2 dEq (fVar 1) (fC (.str "free"))) (f2 dIn (fC (.str "k")) (fVar 5)))) fsNil)
    (fRet (fOrV (f2 dEq (fVar 3) (fC (.str "put"))) (fAndV (f2 dEq (fVar 3) (fC (.str "next"))) (f2 dNotIn (fC (.str "e")) (fVar 5)))))))))
def g_is_put : List Sl → Rs Dr := gOf 6 f_is_put
def f_with_flag_t1 : Ev → Rs Bool :=
    (fOr (fTest (f2 dIn (fVar 4) (fVar 3))) (fTest (f2 dEq (fVar 4) (fVar 1))))
def f_with_flag_e2 : Ev → Rs D :=
    (fVar 4)
def f_with_flag : Ev → Rs Fl :=
    (fSeq (fAsg (fVar 0) (gTp (gsCons (gNm 2) (gsCons (gNm 3) gsNil))))
    (fRet (fN gTup (fCons (fVar 2) (fCons (fM1 dJoin (fC (.str "")) (fSh (fLc (([("one", 4)] : List (Str × Nat)).map (·.2)) (fiS (fC (.str "befk"))) (gNm 4) f_with_flag_t1 f_with_flag_e2))) fNil)))))
def g_with_flag : List Sl → Rs Dr := gOf 5 f_with_flag
def f_worded : Ev → Rs Fl :=
    (fSeq (fSet 3 (f2 dIx (fVar 2) (fC (.int 1))))
    (fSeq (fIfS (fTest (f2 dEq (fVar 0) (fC (.str "confirm")))) (fRet (fN gTup (fCons (fShR (fCall 2 g_with_flag [] (fCons (fVar 2) (fCons (fC (.str "b")) fNil)))) (fCons (fVar 1) fNil)))) fsNil)
    (fSeq (fIfS (fTest (f2 dEq (fVar 0) (fC (.str "hold")))) (fRet (fN gTup (fCons (fShR (fCall 2 g_with_flag [] (fCons (fVar 2) (fCons (fC (.str "k")) fNil)))) (fCons (fC (.str "held")) fNil)))) fsNil)
    (fSeq (fIfS (fOr (fTest (f2 dEq (fVar 0) (fC (.str "clear")))) (fAnd (fTest (f2 dEq (fVar 0) (fC (.str "free")))) (fTest (f2 dIn (fC (.str "k")) (fVar 3))))) (fRet (fN gTup (fCons (fWo "k" (fVar 2)) (fCons (fC (.str "free")) fNil)))) fsNil)
    (fRet (fN gTup (fCons (fVar 2) (fCons (fVar 1) fNil))))))))
def g_worded : List Sl → Rs Dr := gOf 4 f_worded
def f_broken : Ev → Rs Fl :=
    (fSeq (fAsg (fVar 1) (gTp (gsCons (gNm 2) (gsCons (gNm 3) gsNil))))
    (fSeq (fIfS (fTest (f2 dIn (fC (.str "b")) (fVar 3))) (fRet (fN gTup (fCons (fC .non) (fCons (fIf (fTest (f2 dIn (fC (.str "k")) (fVar 3))) (fC (.str "lost")) (fVar 0)) fNil)))) fsNil)
    (fRet (fN gTup (fCons (fWo "f" (fN gTup (fCons (fC (.int 0)) (fCons (fVar 3) fNil)))) (fCons (fVar 0) fNil))))))
def g_broken : List Sl → Rs Dr := gOf 4 f_broken
def f_gone : Ev → Rs Fl :=
    (fRet (fIf (fTest (f2 dIn (fC (.str "k")) (f2 dIx (fVar 1) (fC (.int 1))))) (fC (.str "free")) (fVar 0)))
def g_gone : List Sl → Rs Dr := gOf 2 f_gone
def f_acted : Ev → Rs Fl :=
    (fSeq (fAsg (fVar 3) (gTp (gsCons (gNm 7) (gsCons (gNm 8) gsNil))))
    (fSeq (fIfS (fTest (f2 dEq (fVar 7) (fC (.int 0)))) (fRet (fN gTup (fCons (fN gTup (fCons (fC (.int 1)) (fCons (fVar 8) fNil))) (fCons (fC .non) (fCons (fVar 2) (fCons (fC (.bl false)) fNil)))))) fsNil)
    (fSeq (fIfS (fTest (f2 dGt (fVar 7) (fN gLen (fCons (fFld ["Job"] "words" (fVar 0)) fNil)))) (fSeq (fIfS (fTest (f2 dIn (fC (.str "f")) (fVar 8))) (fSeq (fAsg (fShR (fCall 2 g_broken [] (fCons (fVar 2) (fCons (fVar 3) fNil)))) (gTp (gsCons (gNm 9) (gsCons (gNm 2) gsNil))))
    (fRet (fN gTup (fCons (fVar 9) (fCons (fC .non) (fCons (fVar 2) (fCons (fC (.bl false)) fNil))))))) fsNil)
    (fRet (fN gTup (fCons (fC .non) (fCons (fC .non) (fCons (fShR (fCall 2 g_gone [] (fCons (fVar 2) (fCons (fVar 3) fNil)))) (fCons (fC (.bl false)) fNil))))))) fsNil)
    (fSeq (fSet 4 (f2 dIx (fFld ["Job"] "words" (fVar 0)) (f2 dSub (fVar 7) (fC (.int 1)))))
    (fSeq (fIfS (fTest (fShR (fCall 4 g_is_stopped [] (fCons (fVar 4) (fCons (fVar 1) (fCons (fVar 2) (fCons (fVar 8) fNil))))))) (fRet (fN gTup (fCons (fC .non) (fCons (fC .non) (fCons (fShR (fCall 2 g_gone [] (fCons (fVar 2) (fCons (fVar 3) fNil)))) (fCons (fC (.bl false)) fNil)))))) fsNil)
    (fSeq (fSet 5 (fN gTup (fCons (f2 dAdd (fVar 7) (fC (.int 1))) (fCons (fVar 8) fNil))))
    (fSeq (fIfS (fNot (fTest (fShR (fCall 3 g_is_put [] (fCons (fVar 0) (fCons (fVar 2) (fCons (fVar 3) fNil))))))) (fSeq (fAsg (fShR (fCall 3 g_worded [] (fCons (fVar 4) (fCons (fVar 2) (fCons (fVar 5) fNil))))) (gTp (gsCons (gNm 9) (gsCons (gNm 2) gsNil))))
    (fRet (fN gTup (fCons (fVar 9) (fCons (fC .non) (fCons (fVar 2) (fCons (fC (.bl false)) fNil))))))) fsNil)
    (fSeq (fSet 6 (fShR (fCall 2 g_put_by [] (fCons (fVar 4) (fCons (fVar 3) fNil)))))
    (fSeq (fIfS (fTest (f2 dEq (fVar 4) (fC (.str "once")))) (fRet (fN gTup (fCons (fWo "k" (fVar 5)) (fCons (fVar 6) (fCons (fC (.str "held")) (fCons (fC (.bl false)) fNil)))))) fsNil)
    (fSeq (fIfS (fTest (f2 dEq (fVar 4) (fC (.str "next")))) (fRet (fN gTup (fCons (fShR (fCall 2 g_with_flag [] (fCons (fVar 5) (fCons (fC (.str "e")) fNil)))) (fCons (fVar 6) (fCons (fVar 2) (fCons (fC (.bl true)) fNil)))))) fsNil)
    (fRet (fN gTup (fCons (fVar 5) (fCons (fVar 6) (fCons (fVar 2) (fCons (fC (.bl false)) fNil))))))))))))))))
def g_acted : List Sl → Rs Dr := gOf 10 f_acted
def f_made_e1 : Ev → Rs D :=
    (fN gTup (fCons (fVar 3) (fCons (fRep "k" "" (fVar 4)) fNil)))
def f_made : Ev → Rs Fl :=
    (fSeq (fIfS (fTest (f2 dEq (fVar 1) (fC (.str "free")))) (fSet 2 (fSh (fLc (([("place", 3), ("flags", 4)] : List (Str × Nat)).map (·.2)) (fiQ (fVar 2)) (gTp (gsCons (gNm 3) (gsCons (gNm 4) gsNil))) fYes f_made_e1))) fsNil)
    (fRet (fN gTup (fCons (fVar 0) (fCons (fVar 1) (fCons (fN gTuple (fCons (fSh (fNewL gSort (fCons (fVar 2) fNil))) fNil)) fNil))))))
def g_made : List Sl → Rs Dr := gOf 5 f_made
def f_stepped_e1 : Ev → Rs D :=
    (fShR (fCall 2 g_with_flag [] (fCons (fVar 10) (fCons (fC (.str "e")) fNil))))
def f_stepped_t2 : Ev → Rs Bool :=
    (fTest (f2 dNotN (fVar 10) (fC .non)))
def f_stepped_e3 : Ev → Rs D :=
    (fVar 10)
def f_stepped : Ev → Rs Fl :=
    (fSeq (fAsg (fVar 1) (gTp (gsCons (gNm 4) (gsCons (gNm 5) (gsCons (gNm 6) gsNil)))))
    (fSeq (fSet 3 (fShR (fCall 2 g_taken_out [] (fCons (fVar 1) (fCons (fVar 2) fNil)))))
    (fSeq (fAsg (fShR (fCall 4 g_acted [] (fCons (fVar 0) (fCons (fVar 4) (fCons (fVar 5) (fCons (f2 dIx (fVar 6) (fVar 2)) fNil)))))) (gTp (gsCons (gNm 7) (gsCons (gNm 8) (gsCons (gNm 5) (gsCons (gNm 9) gsNil))))))
    (fSeq (fIfS (fTest (fVar 9)) (fSet 3 (fSh (fLc (([("token", 10)] : List (Str × Nat)).map (·.2)) (fiQ (fVar 3)) (gNm 10) fYes f_stepped_e1))) fsNil)
    (fRet (fShR (fCall 3 g_made [] (fCons (fVar 4) (fCons (fVar 5) (fCons (f2 dAdd (fVar 3) (fSh (fLc (([("token", 10)] : List (Str × Nat)).map (·.2)) (fiQ (fN gTup (fCons (fVar 7) (fCons (fVar 8) fNil)))) (gNm 10) f_stepped_t2 f_stepped_e3))) fNil))))))))))
def g_stepped : List Sl → Rs Dr := gOf 11 f_stepped
def f_killed : Ev → Rs Fl :=
    (fSeq (fAsg (fShR (fCall 2 g_broken [] (fCons (f2 dIx (fVar 1) (fC (.int 1))) (fCons (f2 dIx (f2 dIx (fVar 1) (fC (.int 2))) (fVar 2)) fNil)))) (gTp (gsCons (gNm 3) (gsCons (gNm 4) gsNil))))
    (fRet (fShR (fCall 3 g_made [] (fCons (f2 dIx (fVar 1) (fC (.int 0))) (fCons (fVar 4) (fCons (f2 dAdd (fShR (fCall 2 g_taken_out [] (fCons (fVar 1) (fCons (fVar 2) fNil)))) (fIf (fTest (f2 dNotN (fVar 3) (fC .non))) (fN gLst (fCons (fVar 3) fNil)) (fN gLst fNil))) fNil)))))))
def g_killed : List Sl → Rs Dr := gOf 5 f_killed
def f_failed : Ev → Rs Fl :=
    (fSeq (fIfS (fTest (f2 dEq (fN gLen (fCons (fFld ["Job"] "last" (fVar 0)) fNil)) (fC (.int 0)))) (fRet (fShR (fCall 3 g_killed [] (fCons (fVar 0) (fCons (fVar 1) (fCons (fVar 2) fNil)))))) fsNil)
    (fSeq (fSet 3 (fShR (fCall 2 g_with_flag [] (fCons (fN gTup (fCons (f2 dAdd (fN gLen (fCons (fFld ["Job"] "rows" (fVar 0)) fNil)) (fC (.int 1))) (fCons (f2 dIx (f2 dIx (f2 dIx (fVar 1) (fC (.int 2))) (fVar 2)) (fC (.int 1))) fNil))) (fCons (fC (.str "f")) fNil)))))
    (fRet (fShR (fCall 3 g_made [] (fCons (f2 dIx (fVar 1) (fC (.int 0))) (fCons (f2 dIx (fVar 1) (fC (.int 1))) (fCons (fN gLst (fStar (fShR (fCall 2 g_taken_out [] (fCons (fVar 1) (fCons (fVar 2) fNil)))) (fCons (fVar 3) fNil))) fNil))))))))
def g_failed : List Sl → Rs Dr := gOf 4 f_failed
def f_repeated : Ev → Rs Fl :=
    (fSeq (fSet 3 (f2 dIx (f2 dIx (fVar 1) (fC (.int 2))) (fVar 2)))
    (fSeq (fSet 4 (fN gTup (fCons (fC (.int 0)) (fCons (f2 dIx (fWo "f" (fVar 3)) (fC (.int 1))) fNil))))
    (fRet (fShR (fCall 3 g_made [] (fCons (f2 dIx (fVar 1) (fC (.int 0))) (fCons (f2 dIx (fVar 1) (fC (.int 1))) (fCons (fN gLst (fStar (fShR (fCall 2 g_taken_out [] (fCons (fVar 1) (fCons (fVar 2) fNil)))) (fCons (fShR (fCall 2 g_with_flag [] (fCons (fWo "k" (fVar 3)) (fCons (fC (.str "b")) fNil)))) (fCons (fVar 4) fNil)))) fNil))))))))
def g_repeated : List Sl → Rs Dr := gOf 5 f_repeated
def f_missed : Ev → Rs Fl :=
    (fSeq (fSet 3 (fIf (fTest (f2 dIn (fC (.str "k")) (f2 dIx (f2 dIx (f2 dIx (fVar 1) (fC (.int 2))) (fVar 2)) (fC (.int 1))))) (fC (.str "lost")) (f2 dIx (fVar 1) (fC (.int 1)))))
    (fRet (fShR (fCall 3 g_made [] (fCons (f2 dIx (fVar 1) (fC (.int 0))) (fCons (fVar 3) (fCons (fShR (fCall 2 g_taken_out [] (fCons (fVar 1) (fCons (fVar 2) fNil)))) fNil)))))))
def g_missed : List Sl → Rs Dr := gOf 4 f_missed
def f_lapsed : Ev → Rs Fl :=
    (fRet (fShR (fCall 3 g_made [] (fCons (f2 dIx (fVar 1) (fC (.int 0))) (fCons (fC (.str "free")) (fCons (f2 dIx (fVar 1) (fC (.int 2))) fNil))))))
def g_lapsed : List Sl → Rs Dr := gOf 3 f_lapsed
def f_started_e1 : Ev → Rs D :=
    (fShR (fCall 2 g_with_flag [] (fCons (fVar 6) (fCons (fC (.str "e")) fNil))))
def f_started : Ev → Rs Fl :=
    (fSeq (fAsg (fVar 1) (gTp (gsCons (gNm 3) (gsCons (gNm 4) (gsCons (gNm 5) gsNil)))))
    (fSeq (fSet 2 (f2 dIn (fC (.str "once")) (fFld ["Job"] "start" (fVar 0))))
    (fSeq (fIfS (fAnd (fTest (fVar 2)) (fTest (f2 dNe (fVar 4) (fC (.str "free"))))) (fRet (fC .non)) fsNil)
    (fSeq (fIfS (fTest (f2 dIn (fC (.str "raise")) (fFld ["Job"] "start" (fVar 0)))) (fSet 5 (fSh (fLc (([("token", 6)] : List (Str × Nat)).map (·.2)) (fiQ (fVar 5)) (gNm 6) fYes f_started_e1))) fsNil)
    (fSeq (fIfS (fTest (fVar 2)) (fRet (fShR (fCall 3 g_made [] (fCons (fVar 3) (fCons (fC (.str "held")) (fCons (fN gLst (fStar (fVar 5) (fCons (fN gTup (fCons (fC (.int 0)) (fCons (fC (.str "k")) fNil))) fNil))) fNil)))))) fsNil)
    (fRet (fShR (fCall 3 g_made [] (fCons (fVar 3) (fCons (fVar 4) (fCons (fN gLst (fStar (fVar 5) (fCons (fN gTup (fCons (fC (.int 0)) (fCons (fC (.str "")) fNil))) fNil))) fNil)))))))))))
def g_started : List Sl → Rs Dr := gOf 7 f_started
def f_begun : Ev → Rs Fl :=
    (fSeq (fSet 3 (fShR (fCall 2 g_started [] (fCons (fVar 0) (fCons (fVar 1) fNil)))))
    (fRet (fIf (fTest (f2 dIsN (fVar 3) (fC .non))) (fVar 1) (fVar 3))))
def g_begun : List Sl → Rs Dr := gOf 4 f_begun
def f_turned_off : Ev → Rs Fl :=
    (fRet (fN gTup (fCons (fC (.str "off")) (fCons (f2 dIx (fVar 1) (fC (.int 1))) (fCons (f2 dIx (fVar 1) (fC (.int 2))) fNil)))))
def g_turned_off : List Sl → Rs Dr := gOf 3 f_turned_off
def f_turned_on : Ev → Rs Fl :=
    (fRet (fShR (fCall 3 g_begun [] (fCons (fVar 0) (fCons (fN gTup (fCons (fC (.str "on")) (fCons (f2 dIx (fVar 1) (fC (.int 1))) (fCons (f2 dIx (fVar 1) (fC (.int 2))) fNil)))) (fCons (fVar 2) fNil))))))
def g_turned_on : List Sl → Rs Dr := gOf 3 f_turned_on
def f_moved : Ev → Rs Fl :=
    (fSeq (fSet 3 (f2 (gIxG "DONE" t_DONE) (fC (.glo "DONE")) (f2 dIx (fVar 2) (fC (.int 0)))))
    (fRet (fShR (fCallL 3 [("stepped", gPl 3 [] g_stepped), ("killed", gPl 3 [] g_killed), ("failed", gPl 3 [] g_failed), ("repeated", gPl 3 [] g_repeated), ("missed", gPl 3 [] g_missed), ("lapsed", gPl 3 [] g_lapsed), ("begun", gPl 3 [] g_begun), ("turned_off", gPl 3 [] g_turned_off), ("turned_on", gPl 3 [] g_turned_on)] (faPl (fCons (fVar 0) (fCons (fVar 1) (fCons (fIf (fTest (f2 dGt (fN gLen (fCons (fVar 2) fNil)) (fC (.int 1)))) (f2 dIx (fVar 2) (fC (.int 1))) (f1 dNeg (fC (.int 1)))) fNil))))))))
def g_moved : List Sl → Rs Dr := gOf 4 f_moved
def f_can_act : Ev → Rs Fl :=
    (fSeq (fAsg (fVar 2) (gTp (gsCons (gNm 5) (gsCons (gNm 6) gsNil))))
    (fSeq (fIfS (fTest (f2 dGe (fVar 6) (fN gLen (fCons (f2 dIx (fVar 1) (fC (.int 2))) fNil)))) (fRet (fC (.bl false))) fsNil)
    (fSeq (fAsg (f2 dIx (f2 dIx (fVar 1) (fC (.int 2))) (fVar 6)) (gTp (gsCons (gNm 7) (gsCons (gNm 8) gsNil))))
    (fSeq (fSet 4 (f2 dLt (fN gLen (fCons (f2 dIx (fVar 1) (fC (.int 2))) fNil)) (fVar 3)))
    (fSeq (fIfS (fTest (f2 dEq (fVar 5) (fC (.str "step")))) (fRet (fOrV (fVar 4) (fNotV (fShR (fCall 3 g_is_put [] (fCons (fVar 0) (fCons (f2 dIx (fVar 1) (fC (.int 1))) (fCons (fN gTup (fCons (fVar 7) (fCons (fVar 8) fNil))) fNil)))))))) fsNil)
    (fSeq (fIfS (fTest (f2 dEq (fVar 5) (fC (.str "lose")))) (fRet (f2 dEq (fVar 7) (fC (.int 0)))) fsNil)
    (fSeq (fIfS (fTest (f2 dEq (fVar 5) (fC (.str "fail")))) (fRet (fAndV (fChain dLe dLe (fC (.int 1)) (fVar 7) (fN gLen (fCons (fFld ["Job"] "rows" (fVar 0)) fNil))) (f2 dEq (f2 dIx (fFld ["Job"] "rows" (fVar 0)) (f2 dSub (fVar 7) (fC (.int 1)))) (fC (.str "work"))))) fsNil)
    (fSeq (fIfS (fTest (f2 dEq (fVar 5) (fC (.str "repeat")))) (fRet (fAndV (f2 dGt (fVar 7) (fC (.int 0))) (fAndV (f2 dNotIn (fC (.str "b")) (fVar 8)) (fVar 4)))) fsNil)
    (fRet (f2 dGt (fVar 7) (fC (.int 0))))))))))))
def g_can_act : List Sl → Rs Dr := gOf 9 f_can_act
def f_can_begin : Ev → Rs Fl :=
    (fRet (fAndV (f2 dLt (fN gLen (fCons (f2 dIx (fVar 1) (fC (.int 2))) fNil)) (fVar 2)) (f2 dNotN (fShR (fCall 2 g_started [] (fCons (fVar 0) (fCons (fVar 1) fNil)))) (fC .non))))
def g_can_begin : List Sl → Rs Dr := gOf 3 f_can_begin
def f_is_seen_e1 : Ev → Rs D :=
    (f2 dGt (fVar 3) (fC (.int 0)))
def f_is_seen_e2 : Ev → Rs D :=
    (f2 dIn (fC (.str "e")) (fVar 4))
def f_is_seen : Ev → Rs Fl :=
    (fSeq (fSet 2 (f2 dIx (fVar 1) (fC (.int 2))))
    (fSeq (fIfS (fTest (f2 dEq (fFld ["Job"] "watch" (fVar 0)) (fC (.str "waiting")))) (fRet (fN gAll (fCons (fSh (fLc (([("place", 3), ("flags", 4)] : List (Str × Nat)).map (·.2)) (fiQ (fVar 2)) (gTp (gsCons (gNm 3) (gsCons (gNm 4) gsNil))) fYes f_is_seen_e1)) fNil))) fsNil)
    (fSeq (fIfS (fTest (f2 dEq (fFld ["Job"] "watch" (fVar 0)) (fC (.str "present")))) (fRet (fN gAll (fCons (fSh (fLc (([("place", 3), ("flags", 4)] : List (Str × Nat)).map (·.2)) (fiQ (fVar 2)) (gTp (gsCons (gNm 3) (gsCons (gNm 4) gsNil))) fYes f_is_seen_e2)) fNil))) fsNil)
    (fRet (fOrV (f2 dEq (fFld ["Job"] "watch" (fVar 0)) (fC (.str "always"))) (fAndV (f2 dEq (fFld ["Job"] "watch" (fVar 0)) (fC (.str "nothing"))) (f2 dEq (fN gLen (fCons (fVar 2) fNil)) (fC (.int 0)))))))))
def g_is_seen : List Sl → Rs Dr := gOf 5 f_is_seen
def f_can_move : Ev → Rs Fl :=
    (fSeq (fSet 4 (f2 dIx (fVar 2) (fC (.int 0))))
    (fSeq (fIfS (fTest (f2 dIn (fVar 4) (fC (.tup c_PLACED)))) (fRet (fShR (fCall 4 g_can_act [] (fCons (fVar 0) (fCons (fVar 1) (fCons (fVar 2) (fCons (fVar 3) fNil))))))) fsNil)
    (fSeq (fAsg (fVar 1) (gTp (gsCons (gNm 5) (gsCons (gNm 6) (gsCons (gNm 7) gsNil)))))
    (fSeq (fIfS (fTest (f2 dEq (fVar 4) (fC (.str "lapse")))) (fRet (fIf (fTest (f2 dEq (fFld ["Job"] "lapse" (fVar 0)) (fC (.str "any")))) (f2 dNe (fVar 6) (fC (.str "free"))) (fAndV (f2 dEq (fFld ["Job"] "lapse" (fVar 0)) (fC (.str "lost"))) (f2 dEq (fVar 6) (fC (.str "lost")))))) fsNil)
    (fSeq (fIfS (fTest (f2 dEq (fVar 4) (fC (.str "off")))) (fRet (f2 dEq (fVar 5) (fC (.str "on")))) fsNil)
    (fSeq (fIfS (fTest (f2 dEq (fVar 4) (fC (.str "on")))) (fRet (fAndV (f2 dEq (fVar 5) (fC (.str "off"))) (fOrV (f2 dLt (fN gLen (fCons (fVar 7) fNil)) (fVar 3)) (f2 dIsN (fShR (fCall 2 g_started [] (fCons (fVar 0) (fCons (fVar 1) fNil)))) (fC .non))))) fsNil)
    (fSeq (fIfS (fAnd (fTest (f2 dEq (fVar 4) (fC (.str "watch")))) (fNot (fTest (fShR (fCall 2 g_is_seen [] (fCons (fVar 0) (fCons (fVar 1) fNil))))))) (fRet (fC (.bl false))) fsNil)
    (fRet (fAndV (f2 dEq (fVar 5) (fC (.str "on"))) (fShR (fCall 3 g_can_begin [] (fCons (fVar 0) (fCons (fVar 1) (fCons (fVar 3) fNil))))))))))))))
def g_can_move : List Sl → Rs Dr := gOf 8 f_can_move
def f_after : Ev → Rs Fl :=
    (fSeq (fExp (fShR (fCall 2 g_look_standing [] (fCons (fVar 0) (fCons (fVar 1) fNil)))))
    (fSeq (fExp (fShR (fCall 1 g_look_move [] (fCons (fVar 2) fNil))))
    (fSeq (fExp (fShR (fCall 2 g_look_room [] (fCons (fVar 3) (fCons (fC (.int 5)) fNil)))))
    (fSeq (fIfS (fNot (fTest (fShR (fCall 4 g_can_move [] (fCons (fVar 0) (fCons (fVar 1) (fCons (fVar 2) (fCons (fVar 3) fNil)))))))) (fRaise "Refused" "move" (fVar 2)) fsNil)
    (fRet (fShR (fCall 3 g_moved [] (fCons (fVar 0) (fCons (fVar 1) (fCons (fVar 2) fNil))))))))))
def g_after : List Sl → Rs Dr := gOf 4 f_after
def c_after_room : GA := gKw 3 4 (fun xs => pk [.inl 0] xs []) g_after
def f__law_done : Ev → Rs Fl :=
    (fSeq (fTry [("Refused", true)] 4 "move" (fSet 5 (fShR (fCallA c_after_room (faKw 1 (fCons (fVar 0) (fCons (fVar 1) (fCons (fVar 2) fNil))) (fCons (fVar 3) fNil))))) (fun d => (fRet (fIf (fTest (f2 dEq (fC d) (fVar 2))) (fN gTup fNil) (fN gTup (fCons (fC d) fNil))))))
    (fRet (fVar 5)))
def g__law_done : List Sl → Rs Dr := gOf 6 f__law_done
def f__law_made_e1 : Ev → Rs D :=
    (fN gTup (fCons (f2 dIx (fVar 3) (fC (.int 0))) (fCons (fRep "k" "" (f2 dIx (fVar 3) (fC (.int 1)))) fNil)))
def f__law_made : Ev → Rs Fl :=
    (fSeq (fIfS (fTest (f2 dEq (fVar 1) (fC (.str "free")))) (fSet 2 (fSh (fLc (([("_law_one", 3)] : List (Str × Nat)).map (·.2)) (fiQ (fVar 2)) (gNm 3) fYes f__law_made_e1))) fsNil)
    (fRet (fN gTup (fCons (fVar 0) (fCons (fVar 1) (fCons (fN gTuple (fCons (fSh (fNewL gSort (fCons (fVar 2) fNil))) fNil)) fNil))))))
def g__law_made : List Sl → Rs Dr := gOf 4 f__law_made
end LW

end

section
set_option Elab.async false
set_option linter.all false
set_option maxRecDepth 100000
set_option maxHeartbeats 2000000
/-! DFz: an own list that is shared from here on. -/
namespace DL
open PySem L2
def frz (env : Ev) (i : Nat) : Ev := match env[i]? with
  | some (.ow (.lst ds)) => env.set i (.sh (.lst ds))
  | _ => env
def fFrz (i : Nat) (f : Ev → Rs Fl) (env : Ev) : Rs Fl := f (frz env i)
section
variable {K : Frag} {E : En} {H0 H : Hp} {σ : L2.St} {env : Ev}
theorem StR.freeze (S : StR K E H0 H σ env) (i : Nat) : ∃ H1, Same H0 H1 ∧ StR K E H1 H σ (frz env i) := by
  unfold frz
  split
  · rename_i ds h
    obtain ⟨a, ea, na, n0, vs, hv, r⟩ := S.slot i _ h
    have hi : i < env.length := (List.getElem?_eq_some_iff.mp h).1
    have hs : Same H0 (upd H0 a (.lst vs)) := same_upd n0
    have hasA : Has σ env i a := ⟨ea, .inl ⟨_, h⟩⟩
    have get_i : (env.set i (.sh (.lst ds)))[i]? = some (.sh (.lst ds)) := List.getElem?_set_self hi
    have get_n : ∀ j, j ≠ i → (env.set i (.sh (.lst ds)))[j]? = env[j]? := fun j hj => List.getElem?_set_ne (Ne.symm hj)
    have has_n : ∀ j b, Has σ (env.set i (.sh (.lst ds))) j b → j ≠ i ∧ Has σ env j b := fun j b hb => by
      obtain ⟨e1, e2⟩ := hb
      have hj : j ≠ i := by
        rintro rfl
        rw [get_i] at e2
        rcases e2 with ⟨o, e2⟩ | ⟨o, e2⟩ <;> cases e2
      rw [get_n j hj] at e2
      exact ⟨hj, e1, e2⟩
    refine ⟨upd H0 a (.lst vs), hs, ?_⟩
    exact {
      s0 := S.s0.trans hs
      s1 := fun b u e => by
        by_cases q : b = a
        · subst q
          rw [upd_same] at e
          cases e
          exact hv
        · rw [upd_ne q] at e
          exact S.s1 _ _ e
      old := fun b hb => by
        rw [upd_ne (by rintro rfl; exact hb na)]
        exact S.old b hb
      kept := S.kept
      len := by rw [List.length_set]; exact S.len
      slot := fun j s e => by
        by_cases hj : j = i
        · subst hj
          rw [get_i] at e
          cases e
          exact ⟨.ref a, ea, .lst (upd_same ..) (r.mono hs)⟩
        · rw [get_n j hj] at e
          have x := S.slot j s e
          cases s with
          | un => exact True.intro
          | sh d => obtain ⟨v, e1, rr⟩ := x; exact ⟨v, e1, rr.mono hs⟩
          | ow o =>
            obtain ⟨b, e1, nb, nb0, rr⟩ := x
            have hb : b ≠ a := by
              rintro rfl
              exact hj (S.apart j i b ⟨e1, .inl ⟨_, e⟩⟩ hasA)
            exact ⟨b, e1, nb, by rw [upd_ne hb]; exact nb0, rr.mono hs rfl⟩
          | rf o =>
            obtain ⟨b, e1, nb, nb0, rr⟩ := x
            have hb : b ≠ a := by
              rintro rfl
              exact hj (S.apart j i b ⟨e1, .inr ⟨_, e⟩⟩ hasA)
            exact ⟨b, e1, nb, by rw [upd_ne hb]; exact nb0, rr.mono hs rfl⟩
      refs := fun j b hb => by
        obtain ⟨o, e1, e2⟩ := S.refs j b hb
        have hj : j ≠ i := by
          rintro rfl
          rw [h] at e1
          cases e1
        exact ⟨o, by rw [get_n j hj]; exact e1, e2⟩
      apart := fun j l b h1 h2 => S.apart j l b (has_n j b h1).2 (has_n l b h2).2
      frk := fun b o e => by
        obtain ⟨h1, h2, h3⟩ := S.frk b o e
        have hb : b ≠ a := by
          rintro rfl
          exact h3 i hasA
        exact ⟨h1, by rw [upd_ne hb]; exact h2, fun j hj => h3 j (has_n j b hj).2⟩ }
  · exact ⟨H0, Same.refl _, S⟩
end
section
variable {X : Cx} {W : WX}
theorem dss_frz {i : Nat} {sts : List Stmt} {f : Ev → Rs Fl} (h : DSs X W sts f) : DSs X W sts (fFrz i f) := by
  refine pss_mono h fun N σ H q => ?_
  obtain ⟨E, H0, env, S, q⟩ := q
  obtain ⟨H1, s, S1⟩ := S.freeze i
  exact ⟨E, H1, frz env i, S1, PostS.up s q⟩
end
end DL

end

section
set_option Elab.async false
set_option linter.all false
set_option maxRecDepth 100000
set_option maxHeartbeats 2000000
/-! DSt: a, *b = a list. -/
namespace DL
open PySem L2 PySem.W PySem.Calls
/-- a, *b = .. -/
def gStL (K : Frag) (t : TGs) : TG := fun v σ H Q => ∃ a x xs, v = .ref a ∧ SqL K H a (x :: xs) ∧ xs.length ≤ 1000 ∧ ∀ p, H p = none → t [x, .ref p] σ (upd H p (.lst xs)) Q
section
variable {X : Cx} {pos sp : Pos}
theorem pg_starL {e1 e2 : Expr} {k : Nat} {t : TGs} (hc : X.calm = true) (h : PGs X [e1, e2] t)
    (ha : assignEach [e1, .Starred e2 sp] X.env = [(false, assign e1 X.env), (true, assign e2 X.env)] := by rfl) (hb : assignEach [e1, e2] X.env = [(false, assign e1 X.env), (false, assign e2 X.env)] := by rfl) : PG X (.Tuple [e1, .Starred e2 sp] k pos) (gStL X.K t) := by
  refine ⟨fun pins s σ H v u Q I r hw => ?_⟩
  obtain ⟨a, x, xs, e0, hq, hlen, hw⟩ := hw
  subst e0
  cases r
  obtain ⟨its, rv, pl, hz⟩ := I.list hq
  have hl : s.heap.IsList a its.toArray := pl.isList
  have hsz : its.length = xs.length + 1 := by rw [← rv.length]; rfl
  obtain ⟨u1, us, rfl⟩ : ∃ u1 us, its = u1 :: us := by
    cases its with
    | nil => simp at hsz
    | cons u1 us => exact ⟨u1, us, rfl⟩
  obtain ⟨r1, rs⟩ : RelV x u1 ∧ Vals xs us := by
    cases rv with
    | cons a b => exact ⟨a, b⟩
  have hul : us.length = xs.length := by simpa using hsz
  have hh : X.A.handled = none := I.ok.hd hc
  rw [PyProof.Rows.assign_Tuple]
  refine wpAny_bind (wpAny_standAt ?_)
  unfold unpack
  rw [ha]
  have hlt : a ≠ s.heap.objs.size := by obtain ⟨o, ho, _⟩ := hl; exact Nat.ne_of_lt (Heap.lt_size ho)
  refine wpAny_bind (wpAny_holding ?_)
  show wpAny _ _ (unpackItems (.ref a) 2 (some 1)) _ _ _
  unfold unpackItems
  refine wpAny_bind ?_
  unfold notIterableAtAll
  refine wpAny_bind (wpAny_specialOf hl.typeIs slot_list_iter.lookup ?_)
  refine wpAny_pure ?_
  simp only [Bool.false_eq_true, if_false]
  refine wpAny_bind (wpAny_holding (wpAny_pyIter_list hl ?_))
  refine wpAny_bind (wpAny_holding (kun_draw hlt 1 0 _ _ ⟨_, Heap.get?_push_size _ rfl, rfl, rfl⟩ (hl.push _) (by simp) fun h₁ hit₁ hs₁ => ?_))
  have hl₁ : h₁.IsList a (u1 :: us).toArray := (hl.push _).extBut hs₁.extBut hlt
  rw [Nat.zero_add] at hit₁
  have hit₁' := hit₁
  obtain ⟨oi, hoi, _⟩ := hit₁'
  have hl₁' := hl₁
  obtain ⟨ol, hol, _⟩ := hl₁'
  rw [List.drop_zero]
  have e1' : (u1 :: us).toArray.toList.take 1 = [u1] := by simp
  rw [e1', if_neg (by simp)]
  refine wpAny_bind (wpAny_holding (kun_collect (s := { s with heap := h₁ }) (T := "list_iterator") (.inr (.inr (.inl rfl))) (Walks.list (A := X.A.in1) hh s.heap.objs.size a hlt (u1 :: us).toArray) (fun j u st => st.1.typeIs) (k := 1) (by simp) ⟨hit₁, hl₁⟩ (Heap.lt_size hoi) (Heap.lt_size hol) (fun h₂ tk hk => ?_) (by rw [sizeLine_eq]; simp only [List.size_toArray, List.length_cons]; omega)))
  have e2' : (u1 :: us).toArray.toList.drop 1 = us := by simp
  rw [e2']
  show wpAny _ _ (if us.length < 0 then _ else _) _ _ _
  rw [if_neg (by omega)]
  show wpAny _ _ (newList (us.take us.length) >>= fun d => pure ([u1] ++ [d] ++ us.drop us.length)) _ _ _
  rw [List.take_length, List.drop_length]
  have he : Heap.ExtBut s.heap.objs.size s.heap h₂ := fun b o hb e => hk b o hb (hs₁.extBut b o hb (Heap.get?_push_of_some _ e))
  have kp : ∀ b o, s.heap.get? b = some o → h₂.get? b = some o := fun b o e => he b o (Nat.ne_of_lt (Heap.lt_size e)) e
  refine wpAny_bind (wpAny_newList (s := { s with heap := h₂, toks := tk }) ?_ (by rw [sizeLine_eq]; omega))
  refine wpAny_pure ?_
  have hne : s.heap.get? h₂.objs.size = none := by
    cases e : s.heap.get? h₂.objs.size with
    | none => rfl
    | some o => exact absurd (Heap.lt_size (kp _ _ e)) (Nat.lt_irrefl _)
  have hHn : H h₂.objs.size = none := I.hok.gone hne
  have kp2 : ∀ b o, s.heap.get? b = some o → (h₂.push ({ cls := .type "list", data := .seq us.toArray })).get? b = some o := fun b o e => Heap.get?_push_of_some _ (kp b o e)
  have hat : (h₂.push ({ cls := .type "list", data := .seq us.toArray })).get? h₂.objs.size = some ({ cls := .type "list", data := .seq us.toArray }) := Heap.get?_push_size _ rfl
  have I2 := I.laidN (t' := tk) (h' := h₂.push ({ cls := .type "list", data := .seq us.toArray })) (a := h₂.objs.size) (o := .lst xs) kp2 hne hHn ⟨by rw [sizeLine_eq]; omega, us, 0, rs, hat⟩
  have q := h.run pins _ σ _ [x, .ref h₂.objs.size] [u1, .ref h₂.objs.size] Q I2 (.cons r1 (.cons rfl .nil)) (hw _ hHn)
  rw [hb] at q
  exact q
def fAsgS (fa : Ev → Rs D) (gs : List D → Ev → Option Ev) (env : Ev) : Rs Fl := (fa env).bind fun e d => match d with
  | .lst (x :: xs) => if Nat.ble xs.length 1000 = true then (match gs [x, .lst xs] e with
    | some e' => .ok e' .nx
    | none => .no) else .no
  | _ => .no
variable {W : WX} {is : List Nat} {gs : List D → Ev → Option Ev}
/-- a, *b = .. -/
theorem ds_asgS {a e1 e2 : Expr} {fa : Ev → Rs D} {kk : Nat} (hc : X.calm = true) (ha : DE X W a fa) (hg : DGs X [e1, e2] is gs)
    (hA : assignEach [e1, .Starred e2 sp] X.env = [(false, assign e1 X.env), (true, assign e2 X.env)] := by rfl) (hB : assignEach [e1, e2] X.env = [(false, assign e1 X.env), (false, assign e2 X.env)] := by rfl)
    (hs : swapsWithSole [.Tuple [e1, .Starred e2 sp] kk pos] a pos.line X.env = pure false := by rfl) (hw : swappedStores [.Tuple [e1, .Starred e2 sp] kk pos] a X.env = pure none := by rfl)
    (h1 : (assignEach [.Tuple [e1, .Starred e2 sp] kk pos] X.env).map (·.2) = [assign (.Tuple [e1, .Starred e2 sp] kk pos) X.env] := by rfl) {pos2 : Pos} (hp : pos2.line = pos.line := by rfl) : DS X W (.Assign [.Tuple [e1, .Starred e2 sp] kk pos] a pos2) (fAsgS fa gs) := by
  refine ps_mono (ps_asg ha (pg_starL hc hg hA hB) (by rw [hp]; exact hs) hw h1) fun N σ H q => ?_
  obtain ⟨E, H0, env, S, q⟩ := q
  refine WP.bindS S q fun en d v H1 H' S1 s1 r1 q1 => ?_
  split at q1
  · rename_i x xs
    split at q1
    · rename_i hle
      cases eg : gs [x, .lst xs] en with
      | none => rw [eg] at q1; exact (show False from q1).elim
      | some e' =>
        rw [eg] at q1
        cases r1 with
        | lst ht ra =>
          cases ra with
          | @cons _ vs _ _ rx rr =>
            refine ⟨_, _, _, rfl, .inl (.inl (S1.s1 _ _ ht)), by rw [← rr.length]; exact Nat.le_of_ble_eq_true hle, fun p n => ?_⟩
            have sn := S1.same_new (.lst vs) n
            exact ⟨E, _, en, [x, .lst xs], e', S1.new (.lst vs) n, .cons (rx.mono sn) (.cons (.lst upd_same (rr.mono sn)) .nil), eg, fun σ' S' _ => q1 σ' _ _ sn S'⟩
    · exact (show False from q1).elim
  · exact (show False from q1).elim
end
end DL

end

section
set_option Elab.async false
set_option linter.all false
set_option maxRecDepth 100000
set_option maxHeartbeats 4000000
namespace K08
open PySem L2 DL LP LW
/-- what the top leaves -/
structure Txt (K : Frag) (mg : Str → Option Value) (w : World) : Prop where
  n_abs : mg "abs" = none
  n_all : mg "all" = none
  n_bool : mg "bool" = none
  n_enumerate : mg "enumerate" = none
  n_int : mg "int" = none
  n_isinstance : mg "isinstance" = none
  n_len : mg "len" = none
  n_list : mg "list" = none
  n_max : mg "max" = none
  n_min : mg "min" = none
  n_range : mg "range" = none
  n_sorted : mg "sorted" = none
  n_str : mg "str" = none
  n_tuple : mg "tuple" = none
  c_DIGITS : ∃ t, mg "DIGITS" = some (.str "0123456789" t)
  c_KEYS : GlT K mg "KEYS" c_KEYS
  c_LAPSES : GlT K mg "LAPSES" c_LAPSES
  c_LETTERS : ∃ t, mg "LETTERS" = some (.str "befk" t)
  c_MOST_TOKENS : ∃ t, mg "MOST_TOKENS" = some (.int 5 t)
  c_PARTS : GlT K mg "PARTS" c_PARTS
  c_STARTS : GlT K mg "STARTS" c_STARTS
  c_SWITCHES : GlT K mg "SWITCHES" c_SWITCHES
  c_WATCHES : GlT K mg "WATCHES" c_WATCHES
  c_WORDS : GlT K mg "WORDS" c_WORDS
  g_Job : mg "Job" = some (.ref (He.ga K "Job"))
  v_Job_MOST_LAST : CvD K "Job" "MOST_LAST" (.int 3)
  v_Job_MOST_ROWS : CvD K "Job" "MOST_ROWS" (.int 8)
  a_lapse : ∀ C ∈ (["Job"] : List Str), Cls K (He.ga K C) ∧ NoAttr K (He.ga K C) "lapse"
  a_last : ∀ C ∈ (["Job"] : List Str), Cls K (He.ga K C) ∧ NoAttr K (He.ga K C) "last"
  a_rows : ∀ C ∈ (["Job"] : List Str), Cls K (He.ga K C) ∧ NoAttr K (He.ga K C) "rows"
  a_start : ∀ C ∈ (["Job"] : List Str), Cls K (He.ga K C) ∧ NoAttr K (He.ga K C) "start"
  a_watch : ∀ C ∈ (["Job"] : List Str), Cls K (He.ga K C) ∧ NoAttr K (He.ga K C) "watch"
  a_words : ∀ C ∈ (["Job"] : List Str), Cls K (He.ga K C) ∧ NoAttr K (He.ga K C) "words"
section
variable {P : Program} {w : World} {K : Frag} {mg : Str → Option Value} {base : Heap}
abbrev N__law_bag : List Str := ["_law_script", "_law_at", "_law_number", "_law_mixed", "_law_spot", "_law_each"]
theorem sc__law_bag : FnScope N__law_bag ["_law_script", "_law_at"] (defScope s__law_bag) := ⟨rfl, rfl, rfl, by decide +kernel, rfl, by decide +kernel, by decide +kernel⟩
theorem wk__law_bag (T : Txt K mg w) {f : Addr}  : Walk P w K mg base N__law_bag "_law_bag" (defScope s__law_bag) f 0 (defBody s__law_bag) f__law_bag := fun cdv A outer s H E B =>
    (dss_cons (ds_set (i := 2) B (de_if (dt_cmp op_lt v2_lt (de_var (i := 1)) (de_callB call_len vn_len T.n_len (by decide +kernel) (da_cons (de_var (i := 0)) da_nil))) (de_item (de_var (i := 0)) (de_var (i := 1))) de_int))
    (dss_cons (ds_set (i := 3) B (de_add (de_mul de_int (de_var (i := 1))) de_int))
    (dss_cons (ds_for B (di_enum T.n_enumerate (da_cons (DF.de (df_cut (de_var (i := 0)) dp_none (dp_some de_int))) da_nil)) (dg_tup B.hc (dgs_cons (dg_name B.nd (i := 4)) (dgs_cons (dg_name B.nd (i := 5)) dgs_nil)) (hl := (gs_lenS (gs_lenS (fun _ _ _ h => gs_len0 h)))))
    (dss_one (ds_set (i := 3) B (de_mod (de_callTy call_int1 vn_int T.n_int (by decide +kernel) (da_cons (de_add (de_add (de_add (de_mul (de_var (i := 3)) de_int) (de_mod (de_callTy call_int1 vn_int T.n_int (by decide +kernel) (da_cons (de_var (i := 5)) da_nil)) de_int)) (de_mul de_int (de_var (i := 4)))) de_int) da_nil)) de_int))))
    (dss_one (ds_retF (df_lst (da_cons (de_if (dt_cmp op_ge v2_ge (de_callB call_abs vn_abs T.n_abs (by decide +kernel) (da_cons (de_var (i := 2)) da_nil)) (de_pow de_int de_int)) (de_callB call_abs vn_abs T.n_abs (by decide +kernel) (da_cons (de_var (i := 2)) da_nil)) de_int) (da_cons (de_var (i := 3)) da_nil))))))))
abbrev N__law_take : List Str := ["_law_bag_here", "_law_many", "_law_digit"]
theorem sc__law_take : FnScope N__law_take ["_law_bag_here", "_law_many"] (defScope s__law_take) := ⟨rfl, rfl, rfl, by decide +kernel, rfl, by decide +kernel, by decide +kernel⟩
theorem wk__law_take (T : Txt K mg w) {f : Addr}  : Walk P w K mg base N__law_take "_law_take" (defScope s__law_take) f 0 (defBody s__law_take) f__law_take := fun cdv A outer s H E B =>
    (dss_cons (ds_if (dt_cmp op_gt v2_gt (de_ixO (i := 0) rfl de_int) de_int) (dss_cons (ds_set (i := 2) B (de_mod (de_callTy call_int1 vn_int T.n_int (by decide +kernel) (da_cons (de_ixO (i := 0) rfl de_int) da_nil)) (de_var (i := 1))))
    (dss_cons (ds_setIx (i := 0) rfl (de_div (de_ixO (i := 0) rfl de_int) (de_var (i := 1))) de_int)
    (dss_one (ds_ret (de_var (i := 2)))))) dss_nil)
    (dss_cons (ds_setIx (i := 0) rfl (de_mod (de_callTy call_int1 vn_int T.n_int (by decide +kernel) (da_cons (de_add (de_mul (de_ixO (i := 0) rfl de_int) de_int) de_int) da_nil)) de_int) de_int)
    (dss_one (ds_ret (de_mod (de_div (de_mod (de_callTy call_int1 vn_int T.n_int (by decide +kernel) (da_cons (de_mul (de_div (de_ixO (i := 0) rfl de_int) de_int) de_int) da_nil)) de_int) de_int) (de_var (i := 1)))))))
abbrev N__law_of : List Str := ["_law_bag_here", "_law_some"]
theorem sc__law_of : FnScope N__law_of ["_law_bag_here", "_law_some"] (defScope s__law_of) := ⟨rfl, rfl, rfl, by decide +kernel, rfl, by decide +kernel, by decide +kernel⟩
theorem wk__law_of (T : Txt K mg w) {f : Addr} (G__law_take : Dfn P w K mg base 1 "_law_take" 2 [] g__law_take) : Walk P w K mg base N__law_of "_law_of" (defScope s__law_of) f 1 (defBody s__law_of) f__law_of := fun cdv A outer s H E B =>
    (dss_one (ds_ret (de_item (de_var (i := 1)) (DX.de (dx_callR (i := 0) B G__law_take (by decide) rfl (da_cons (de_callB call_len vn_len T.n_len (by decide +kernel) (da_cons (de_var (i := 1)) da_nil)) da_nil))))))
abbrev N__law_parts : List Str := ["_law_bag_here", "_law_most", "_law_words", "_law_line", "_law_tail", "_law_opens", "_law_eye", "_law_k"]
theorem sc__law_parts : FnScope N__law_parts ["_law_bag_here", "_law_most"] (defScope s__law_parts) := ⟨rfl, rfl, rfl, by decide +kernel, rfl, by decide +kernel, by decide +kernel⟩
theorem wk__law_parts (T : Txt K mg w) {f : Addr} (G__law_take : Dfn P w K mg base 1 "_law_take" 2 [] g__law_take) (G__law_of : Dfn P w K mg base 2 "_law_of" 2 [] g__law_of) : Walk P w K mg base N__law_parts "_law_parts" (defScope s__law_parts) f 2 (defBody s__law_parts) f__law_parts := fun cdv A outer s H E B =>
    (dss_cons (ds_set (i := 2) B (de_lst (da_cons de_str (da_cons de_str (da_cons de_str (da_cons de_str (da_cons de_str (da_cons de_str (da_cons de_str (da_cons de_str (da_cons de_str (da_cons de_str da_nil))))))))))))
    (dss_cons (ds_setLc (i := 3) B (di_range1 T.n_range (da_cons (de_add de_int (DX.de (dx_callR (i := 0) B G__law_take (by decide) rfl (da_cons (de_var (i := 1)) da_nil)))) da_nil)) (blkOk_by (own := [("_law_k", 7)]) (N := N__law_parts) (sc := defScope s__law_parts) (by decide +kernel)) (by decide) (fun _ _ _ _ _ => (dg_name B.blk.nd (i := 7))) (fun _ _ _ _ _ => dts_nil) (fun _ _ _ _ _ => (DX.de (dx_callR (i := 0) B.blk G__law_of (by decide) rfl (da_cons (de_var (i := 2)) da_nil)))) (sw_true rfl rfl rfl (by decide +kernel)))
    (dss_cons (ds_setLc (i := 4) B (di_range1 T.n_range (da_cons (DX.de (dx_callR (i := 0) B G__law_of (by decide) rfl (da_cons (de_lst (da_cons de_int (da_cons de_int (da_cons de_int (da_cons de_int (da_cons de_int da_nil)))))) da_nil))) da_nil)) (blkOk_by (own := [("_law_k", 7)]) (N := N__law_parts) (sc := defScope s__law_parts) (by decide +kernel)) (by decide) (fun _ _ _ _ _ => (dg_name B.blk.nd (i := 7))) (fun _ _ _ _ _ => dts_nil) (fun _ _ _ _ _ => (DX.de (dx_callR (i := 0) B.blk G__law_of (by decide) rfl (da_cons (DF.de (df_cut (de_var (i := 2)) dp_none (dp_some de_int))) da_nil)))) (sw_true rfl rfl rfl (by decide +kernel)))
    (dss_cons (ds_set (i := 5) B (DX.de (dx_callR (i := 0) B G__law_of (by decide) rfl (da_cons (de_lst (da_cons (de_lst da_nil) (da_cons (de_lst da_nil) (da_cons (de_lst (da_cons de_str da_nil)) (da_cons (de_lst (da_cons de_str da_nil)) (da_cons (de_lst (da_cons de_str (da_cons de_str da_nil))) da_nil)))))) da_nil))))
    (dss_cons (ds_set (i := 6) B (DX.de (dx_callR (i := 0) B G__law_of (by decide) rfl (da_cons (de_lst (da_cons de_non (da_cons de_non (da_cons de_str (da_cons de_str (da_cons de_str (da_cons de_str da_nil))))))) da_nil))))
    (dss_one (ds_ret (de_lst (da_cons (de_var (i := 3)) (da_cons (de_var (i := 4)) (da_cons (de_var (i := 5)) (da_cons (de_var (i := 6)) (da_cons (DX.de (dx_callR (i := 0) B G__law_of (by decide) rfl (da_cons (de_lst (da_cons de_non (da_cons de_non (da_cons de_str (da_cons de_str da_nil))))) da_nil))) da_nil)))))))))))))
abbrev N_is_word : List Str := ["thing", "words"]
theorem sc_is_word : FnScope N_is_word ["thing", "words"] (defScope s_is_word) := ⟨rfl, rfl, rfl, by decide +kernel, rfl, by decide +kernel, by decide +kernel⟩
theorem wk_is_word (T : Txt K mg w) {f : Addr}  : Walk P w K mg base N_is_word "is_word" (defScope s_is_word) f 0 (defBody s_is_word) f_is_word := fun cdv A outer s H E B =>
    (dss_one (ds_ret (de_and (de_callB call_isi vn_isi T.n_isinstance (by decide +kernel) (da_cons (de_var (i := 0)) (da_cons (de_ty T.n_str (by decide +kernel)) da_nil))) (de_one (de_cmp (or_in B) v2_in (de_var (i := 0)) (de_var (i := 1)))))))
abbrev N_look_rows : List Str := ["rows", "last", "thing"]
theorem sc_look_rows : FnScope N_look_rows ["rows", "last"] (defScope s_look_rows) := ⟨rfl, rfl, rfl, by decide +kernel, rfl, by decide +kernel, by decide +kernel⟩
theorem wk_look_rows (T : Txt K mg w) {f : Addr} (G_is_word : Dfn P w K mg base 1 "is_word" 2 [] g_is_word) (R_BadRow : ErrD P w K mg base "BadRow" "row") : Walk P w K mg base N_look_rows "look_rows" (defScope s_look_rows) f 2 (defBody s_look_rows) f_look_rows := fun cdv A outer s H E B =>
    (dss_cons (ds_for B (di_seq (de_var (i := 0))) (dg_name B.nd (i := 2))
    (dss_one (ds_if (dt_not (dt_val (DX.de (dx_call B G_is_word (by decide) (da_cons (de_var (i := 2)) (da_cons (de_globT T.c_WORDS) da_nil)))))) (dss_one (ds_raise B R_BadRow (by decide) (de_var (i := 2)))) dss_nil)))
    (dss_cons (ds_for B (di_seq (de_var (i := 1))) (dg_name B.nd (i := 2))
    (dss_one (ds_if (PW.pt (dw_or (dt_not (dt_val (DX.de (dx_call B G_is_word (by decide) (da_cons (de_var (i := 2)) (da_cons (de_globT T.c_WORDS) da_nil)))))) (dw_or1 (dt_cmp (or_eqD B) v2_eq (de_var (i := 2)) de_str)))) (dss_one (ds_raise B R_BadRow (by decide) (de_var (i := 2)))) dss_nil)))
    (dss_one (ds_if (dt_cmp (or_eqD B) v2_eq (de_callB call_len vn_len T.n_len (by decide +kernel) (da_cons (de_var (i := 0)) da_nil)) de_int) (dss_one (ds_raise B R_BadRow (by decide) de_non)) dss_nil))))
abbrev N_look_start : List Str := ["start", "thing", "word"]
theorem sc_look_start : FnScope N_look_start ["start"] (defScope s_look_start) := ⟨rfl, rfl, rfl, by decide +kernel, rfl, by decide +kernel, by decide +kernel⟩
theorem wk_look_start (T : Txt K mg w) {f : Addr} (G_is_word : Dfn P w K mg base 1 "is_word" 2 [] g_is_word) (R_BadStart : ErrD P w K mg base "BadStart" "word") (R_Twice : ErrD P w K mg base "Twice" "name") : Walk P w K mg base N_look_start "look_start" (defScope s_look_start) f 2 (defBody s_look_start) f_look_start := fun cdv A outer s H E B =>
    (dss_cons (ds_for B (di_seq (de_var (i := 0))) (dg_name B.nd (i := 1))
    (dss_one (ds_if (dt_not (dt_val (DX.de (dx_call B G_is_word (by decide) (da_cons (de_var (i := 1)) (da_cons (de_globT T.c_STARTS) da_nil)))))) (dss_one (ds_raise B R_BadStart (by decide) (de_var (i := 1)))) dss_nil)))
    (dss_one (ds_for B (di_seq (de_globT T.c_STARTS)) (dg_name B.nd (i := 2))
    (dss_one (ds_if (dt_cmp op_gt v2_gt (de_count (DF.de (df_list T.n_list (by decide +kernel) (da_cons (de_var (i := 0)) da_nil))) (de_var (i := 2))) de_int) (dss_one (ds_raise B R_Twice (by decide) (de_var (i := 2)))) dss_nil)))))
abbrev N_Job_init : List Str := ["self", "last", "start", "watch", "lapse", "rows"]
theorem sc_Job_init : FnScope N_Job_init ["self", "last", "start", "watch", "lapse", "rows"] (defScope s_Job_init) := ⟨rfl, rfl, rfl, by decide +kernel, rfl, by decide +kernel, by decide +kernel⟩
theorem wk_Job_init (T : Txt K mg w) {f : Addr} (G_look_rows : Dfn P w K mg base 3 "look_rows" 2 [] g_look_rows) (R_TooMany : ErrD P w K mg base "TooMany" "limit") (G_look_start : Dfn P w K mg base 3 "look_start" 1 [] g_look_start) (G_is_word : Dfn P w K mg base 1 "is_word" 2 [] g_is_word) (R_BadWatch : ErrD P w K mg base "BadWatch" "watch") (R_BadLapse : ErrD P w K mg base "BadLapse" "lapse") : Walk P w K mg base N_Job_init "Job.__init__" (defScope s_Job_init) f 3 (defBody s_Job_init) f_Job_init := fun cdv A outer s H E B =>
    (dss_cons (ds_expr (DX.de (dx_call B G_look_rows (by decide) (da_cons (de_var (i := 5)) (da_cons (de_var (i := 1)) da_nil)))))
    (dss_cons (ds_if (dt_cmp op_gt v2_gt (de_callB call_len vn_len T.n_len (by decide +kernel) (da_cons (de_var (i := 5)) da_nil)) (de_cval T.g_Job T.v_Job_MOST_ROWS)) (dss_one (ds_raise B R_TooMany (by decide) (de_cval T.g_Job T.v_Job_MOST_ROWS))) dss_nil)
    (dss_cons (ds_if (dt_cmp op_gt v2_gt (de_callB call_len vn_len T.n_len (by decide +kernel) (da_cons (de_var (i := 1)) da_nil)) (de_cval T.g_Job T.v_Job_MOST_LAST)) (dss_one (ds_raise B R_TooMany (by decide) (de_cval T.g_Job T.v_Job_MOST_LAST))) dss_nil)
    (dss_cons (ds_expr (DX.de (dx_call B G_look_start (by decide) (da_cons (de_var (i := 2)) da_nil))))
    (dss_cons (ds_if (PW.pt (dw_and (dt_cmp op_notN v2_notN (de_var (i := 3)) de_non) (dw_and1 (dt_not (dt_val (DX.de (dx_call B G_is_word (by decide) (da_cons (de_var (i := 3)) (da_cons (de_cutT (de_globT T.c_WATCHES) (dp_some de_int) dp_none) da_nil))))))))) (dss_one (ds_raise B R_BadWatch (by decide) (de_var (i := 3)))) dss_nil)
    (dss_cons (ds_if (PW.pt (dw_and (dt_cmp op_notN v2_notN (de_var (i := 4)) de_non) (dw_and1 (dt_not (dt_val (DX.de (dx_call B G_is_word (by decide) (da_cons (de_var (i := 4)) (da_cons (de_cutT (de_globT T.c_LAPSES) (dp_some de_int) dp_none) da_nil))))))))) (dss_one (ds_raise B R_BadLapse (by decide) (de_var (i := 4)))) dss_nil)
    (dss_cons (ds_setF (i := 0) T.a_rows (de_callTy call_tuple_of vn_tuple T.n_tuple (by decide +kernel) (da_cons (de_var (i := 5)) da_nil)))
    (dss_cons (ds_setF (i := 0) T.a_last (de_callTy call_tuple_of vn_tuple T.n_tuple (by decide +kernel) (da_cons (de_var (i := 1)) da_nil)))
    (dss_cons (ds_setF (i := 0) T.a_start (de_callTy call_tuple_of vn_tuple T.n_tuple (by decide +kernel) (da_cons (DF.de (df_sorted B T.n_sorted (by decide +kernel) (da_cons (de_var (i := 2)) da_nil))) da_nil)))
    (dss_cons (ds_setF (i := 0) T.a_watch (de_var (i := 3)))
    (dss_cons (ds_setF (i := 0) T.a_lapse (de_var (i := 4)))
    (dss_one (ds_setF (i := 0) T.a_words (de_add (de_fldO (i := 0) T.a_rows) (de_fldO (i := 0) T.a_last)))))))))))))))
abbrev N_Job_changed : List Str := ["self", "parts", "other", "rows", "last", "start", "watch", "lapse", "name"]
theorem sc_Job_changed : FnScope N_Job_changed ["self", "parts"] (defScope s_Job_changed) := ⟨rfl, rfl, rfl, by decide +kernel, rfl, by decide +kernel, by decide +kernel⟩
theorem wk_Job_changed (T : Txt K mg w) {f : Addr} (R_BadPart : ErrD P w K mg base "BadPart" "name") (M_c_Job_init_last_start_watch_lapse : MkD P w K mg base 4 "Job" ["last", "start", "watch", "lapse"] c_Job_init_last_start_watch_lapse) : Walk P w K mg base N_Job_changed "Job.changed" (defScope s_Job_changed) f 5 (defBody s_Job_changed) f_Job_changed := fun cdv A outer s H E B =>
    (dss_cons (ds_setLc (i := 2) B (di_seq (DF.de (df_sorted B T.n_sorted (by decide +kernel) (da_cons (DF.de (df_listD B T.n_list (by decide +kernel) (da_cons (de_var (i := 1)) da_nil))) da_nil)))) (blkOk_by (own := [("name", 8)]) (N := N_Job_changed) (sc := defScope s_Job_changed) (by decide +kernel)) (by decide) (fun _ _ _ _ _ => (dg_name B.blk.nd (i := 8))) (fun _ _ _ _ _ => (dts_one (dt_cmp (or_notIn B.blk) v2_notIn (de_var (i := 8)) (de_globT T.c_PARTS)))) (fun _ _ _ _ _ => (de_var (i := 8))) (sw_true rfl rfl rfl (by decide +kernel)))
    (dss_cons (ds_if (dt_cmp op_gt v2_gt (de_callB call_len vn_len T.n_len (by decide +kernel) (da_cons (de_var (i := 2)) da_nil)) de_int) (dss_one (ds_raise B R_BadPart (by decide) (de_item (de_var (i := 2)) de_int))) dss_nil)
    (dss_cons (ds_set (i := 3) B (de_dget B (de_var (i := 1)) de_str (de_fld T.a_rows (de_var (i := 0)))))
    (dss_cons (ds_set (i := 4) B (de_dget B (de_var (i := 1)) de_str (de_fld T.a_last (de_var (i := 0)))))
    (dss_cons (ds_set (i := 5) B (de_dget B (de_var (i := 1)) de_str (de_fld T.a_start (de_var (i := 0)))))
    (dss_cons (ds_set (i := 6) B (de_dget B (de_var (i := 1)) de_str (de_fld T.a_watch (de_var (i := 0)))))
    (dss_cons (ds_set (i := 7) B (de_dget B (de_var (i := 1)) de_str (de_fld T.a_lapse (de_var (i := 0)))))
    (dss_one (ds_ret (de_mkA B M_c_Job_init_last_start_watch_lapse (by decide) (dg_star (m := 4) rfl (de_var (i := 3)) (dk_cons (de_var (i := 4)) (dk_cons (de_var (i := 5)) (dk_cons (de_var (i := 6)) (dk_cons (de_var (i := 7)) dk_nil)))))))))))))))
abbrev N__law_job : List Str := ["_law_parts_here", "_law_line", "_law_tail", "_law_opens", "_law_eye", "_law_age"]
theorem sc__law_job : FnScope N__law_job ["_law_parts_here"] (defScope s__law_job) := ⟨rfl, rfl, rfl, by decide +kernel, rfl, by decide +kernel, by decide +kernel⟩
theorem wk__law_job (T : Txt K mg w) {f : Addr} (M_c_Job_init_p : MkD P w K mg base 4 "Job" [] c_Job_init_p) (T_c_Job_changed_rows_last_start_watch_lapse : MetD P w K mg base 6 "Job" "changed" ["rows", "last", "start", "watch", "lapse"] c_Job_changed_rows_last_start_watch_lapse) : Walk P w K mg base N__law_job "_law_job" (defScope s__law_job) f 6 (defBody s__law_job) f__law_job := fun cdv A outer s H E B =>
    (dss_cons (ds_asg (de_var (i := 0)) (dg_lst B.hc (dgs_cons (dg_name B.nd (i := 1)) (dgs_cons (dg_name B.nd (i := 2)) (dgs_cons (dg_name B.nd (i := 3)) (dgs_cons (dg_name B.nd (i := 4)) (dgs_cons (dg_name B.nd (i := 5)) dgs_nil))))) (hl := (gs_lenS (gs_lenS (gs_lenS (gs_lenS (gs_lenS (fun _ _ _ h => gs_len0 h)))))))))
    (dss_one (ds_ret (DX.de (dx_met B T_c_Job_changed_rows_last_start_watch_lapse (by decide) (de_mkA B M_c_Job_init_p (by decide) (dg_plain (da_cons de_str da_nil))) (dg_kw0 (m := 5) rfl (dk_cons (de_var (i := 1)) (dk_cons (de_var (i := 2)) (dk_cons (de_var (i := 3)) (dk_cons (de_var (i := 4)) (dk_cons (de_var (i := 5)) dk_nil)))))))))))
abbrev N__law_token : List Str := ["_law_bag_here", "_law_parts_here", "_law_place", "_law_flags", "_law_many", "_law_size"]
theorem sc__law_token : FnScope N__law_token ["_law_bag_here", "_law_parts_here"] (defScope s__law_token) := ⟨rfl, rfl, rfl, by decide +kernel, rfl, by decide +kernel, by decide +kernel⟩
theorem wk__law_token (T : Txt K mg w) {f : Addr} (G__law_of : Dfn P w K mg base 2 "_law_of" 2 [] g__law_of) (G__law_take : Dfn P w K mg base 1 "_law_take" 2 [] g__law_take) : Walk P w K mg base N__law_token "_law_token" (defScope s__law_token) f 2 (defBody s__law_token) f__law_token := fun cdv A outer s H E B =>
    (dss_cons (ds_par2 (i := 4) (j := 5) B (de_add (de_callB call_len vn_len T.n_len (by decide +kernel) (da_cons (de_item (de_var (i := 1)) de_int) da_nil)) (de_callB call_len vn_len T.n_len (by decide +kernel) (da_cons (de_item (de_var (i := 1)) de_int) da_nil))) (de_callB call_len vn_len T.n_len (by decide +kernel) (da_cons (de_item (de_var (i := 1)) de_int) da_nil)))
    (dss_cons (ds_set (i := 2) B (DX.de (dx_callR (i := 0) B G__law_of (by decide) rfl (da_cons (de_lst (da_cons de_int (da_cons de_int (da_cons de_int (da_cons (de_var (i := 4)) (da_cons (de_add (de_var (i := 4)) de_int) (da_cons (DX.de (dx_callR (i := 0) B G__law_take (by decide) rfl (da_cons (de_add (de_var (i := 4)) de_int) da_nil))) (da_cons (DX.de (dx_callR (i := 0) B G__law_take (by decide) rfl (da_cons (de_add (de_var (i := 4)) de_int) da_nil))) da_nil)))))))) da_nil))))
    (dss_cons (ds_set (i := 3) B (de_if (PW.pt (dw_and (dt_cmp op_gt v2_gt (de_var (i := 2)) de_int) (dw_and1 (dt_cmp (or_eqD B) v2_eq (DX.de (dx_callR (i := 0) B G__law_take (by decide) rfl (da_cons de_int da_nil))) de_int)))) de_str de_str))
    (dss_cons (ds_if (dt_cmp (or_eqD B) v2_eq (DX.de (dx_callR (i := 0) B G__law_take (by decide) rfl (da_cons de_int da_nil))) de_int) (dss_one (ds_set (i := 3) B (de_add (de_var (i := 3)) de_str))) dss_nil)
    (dss_cons (ds_if (PW.pt (dw_and (dt_cmp op_gt v2_gt (de_var (i := 2)) (de_var (i := 5))) (dw_and (dt_cmp (or_neD B) v2_ne (de_item (de_var (i := 1)) de_int) (de_lst da_nil)) (dw_and1 (dt_cmp (or_eqD B) v2_eq (DX.de (dx_callR (i := 0) B G__law_take (by decide) rfl (da_cons de_int da_nil))) de_int))))) (dss_one (ds_set (i := 3) B (de_add (de_var (i := 3)) de_str))) dss_nil)
    (dss_one (ds_ret (de_tup (da_cons (de_var (i := 2)) (da_cons (de_var (i := 3)) da_nil))))))))))
abbrev N__law_standing : List Str := ["_law_bag_here", "_law_parts_here", "_law_most", "_law_tokens", "_law_key", "_law_spot", "_law_k"]
theorem sc__law_standing : FnScope N__law_standing ["_law_bag_here", "_law_parts_here", "_law_most"] (defScope s__law_standing) := ⟨rfl, rfl, rfl, by decide +kernel, rfl, by decide +kernel, by decide +kernel⟩
theorem wk__law_standing (T : Txt K mg w) {f : Addr} (G__law_take : Dfn P w K mg base 1 "_law_take" 2 [] g__law_take) (G__law_token : Dfn P w K mg base 3 "_law_token" 2 [] g__law_token) (G__law_of : Dfn P w K mg base 2 "_law_of" 2 [] g__law_of) : Walk P w K mg base N__law_standing "_law_standing" (defScope s__law_standing) f 3 (defBody s__law_standing) f__law_standing := fun cdv A outer s H E B =>
    (dss_cons (ds_setLcO (i := 3) B (di_range1 T.n_range (da_cons (DX.de (dx_callR (i := 0) B G__law_take (by decide) rfl (da_cons (de_add (de_var (i := 2)) de_int) da_nil))) da_nil)) (blkOk_by (own := [("_law_k", 6)]) (N := N__law_standing) (sc := defScope s__law_standing) (by decide +kernel)) (by decide) (fun _ _ _ _ _ => (dg_name B.blk.nd (i := 6))) (fun _ _ _ _ _ => dts_nil) (fun _ _ _ _ _ => (DX.de (dx_callR (i := 0) B.blk G__law_token (by decide) rfl (da_cons (de_var (i := 1)) da_nil)))) (sw_true rfl rfl rfl (by decide +kernel)))
    (dss_cons (ds_if (PW.pt (dw_and (dt_bor (dt_cmp op_gt v2_gt (de_callB call_len vn_len T.n_len (by decide +kernel) (da_cons (de_var (i := 3)) da_nil)) de_int)) (dw_and1 (dt_cmp (or_eqD B) v2_eq (DX.de (dx_callR (i := 0) B G__law_take (by decide) rfl (da_cons de_int da_nil))) de_int)))) (dss_one (ds_setIx (i := 3) rfl (de_ixO (i := 3) rfl de_int) de_int)) dss_nil)
    (dss_cons (ds_set (i := 4) B (DX.de (dx_callR (i := 0) B G__law_of (by decide) rfl (da_cons (de_lst (da_cons de_str (da_cons de_str (da_cons de_str (da_cons de_str da_nil))))) da_nil))))
    (dss_cons (ds_if (dt_bor (PW.pt (dw_and (dt_cmp (or_eqD B) v2_eq (de_var (i := 4)) de_str) (dw_and1 (dt_cmp (or_eqD B) v2_eq (de_var (i := 3)) (de_lst da_nil)))))) (dss_one (ds_set (i := 4) B de_str)) dss_nil)
    (dss_cons (ds_if (dt_cmp (or_eqD B) v2_eq (de_var (i := 4)) de_str) (dss_cons (ds_set (i := 5) B (DX.de (dx_callR (i := 0) B G__law_take (by decide) rfl (da_cons (de_bor (de_callB call_len vn_len T.n_len (by decide +kernel) (da_cons (de_var (i := 3)) da_nil))) da_nil))))
    (dss_one (ds_setIx (i := 3) rfl (de_tup (da_cons (de_item (de_ixO (i := 3) rfl (de_var (i := 5))) de_int) (da_cons (de_add (de_item (de_ixO (i := 3) rfl (de_var (i := 5))) de_int) de_str) da_nil))) (de_var (i := 5))))) dss_nil)
    (dss_one (ds_ret (de_tup (da_cons (DX.de (dx_callR (i := 0) B G__law_of (by decide) rfl (da_cons (de_lst (da_cons de_str (da_cons de_str (da_cons de_str da_nil)))) da_nil))) (da_cons (de_var (i := 4)) (da_cons (de_bor (de_callTy call_tuple_of vn_tuple T.n_tuple (by decide +kernel) (da_cons (DF.de (df_sorted B T.n_sorted (by decide +kernel) (da_cons (de_var (i := 3)) da_nil))) da_nil))) da_nil)))))))))))
abbrev N_show_standing : List Str := ["standing", "words", "switch", "key", "tokens", "place", "flags"]
theorem sc_show_standing : FnScope N_show_standing ["standing"] (defScope s_show_standing) := ⟨rfl, rfl, rfl, by decide +kernel, rfl, by decide +kernel, by decide +kernel⟩
def f_show_standing_e1 : Ev → Rs D :=
    (joinF [(f1 gFmt (fVar 5)), (f1 gFmt (fVar 6))] Str.empty)
def f_show_standing : Ev → Rs Fl :=
    (fSeq (fAsg (fVar 0) (gTp (gsCons (gNm 2) (gsCons (gNm 3) (gsCons (gNm 4) gsNil)))))
    (fSeq (fSet 1 (fSh (fLc (([("place", 5), ("flags", 6)] : List (Str × Nat)).map (·.2)) (fiQ (fVar 4)) (gTp (gsCons (gNm 5) (gsCons (gNm 6) gsNil))) fYes f_show_standing_e1)))
    (fRet (fIf (fTest (f2 dGt (fN gLen (fCons (fVar 1) fNil)) (fC (.int 0)))) (fM1 dJoin (fC (.str " ")) (fN gLst (fCons (fVar 2) (fCons (fVar 3) (fStar (fVar 1) fNil))))) (joinF [(f1 gFmt (fVar 2)), (fC (.str " ")), (f1 gFmt (fVar 3)), (fC (.str " -"))] Str.empty)))))
def g_show_standing : List Sl → Rs Dr := gOf 7 f_show_standing
theorem wk_show_standing (T : Txt K mg w) {f : Addr}  : Walk P w K mg base N_show_standing "show_standing" (defScope s_show_standing) f 0 (defBody s_show_standing) f_show_standing := fun cdv A outer s H E B =>
    (dss_cons (ds_asg (de_var (i := 0)) (dg_tup B.hc (dgs_cons (dg_name B.nd (i := 2)) (dgs_cons (dg_name B.nd (i := 3)) (dgs_cons (dg_name B.nd (i := 4)) dgs_nil))) (hl := (gs_lenS (gs_lenS (gs_lenS (fun _ _ _ h => gs_len0 h)))))))
    (dss_cons (ds_setLc (i := 1) B (di_seq (de_var (i := 4))) (blkOk_by (own := [("place", 5), ("flags", 6)]) (N := N_show_standing) (sc := defScope s_show_standing) (by decide +kernel)) (by decide) (fun _ _ _ _ _ => (dg_tup B.blk.hc (dgs_cons (dg_name B.blk.nd (i := 5)) (dgs_cons (dg_name B.blk.nd (i := 6)) dgs_nil)) (hl := (gs_lenS (gs_lenS (fun _ _ _ h => gs_len0 h)))))) (fun _ _ _ _ _ => dts_nil) (fun _ _ _ _ _ => (de_joined (dj_cons (de_fmt (de_var (i := 5))) (dj_cons (de_fmt (de_var (i := 6))) dj_nil)))) (sw_true rfl rfl rfl (by decide +kernel)))
    (dss_one (ds_ret (de_if (dt_cmp op_gt v2_gt (de_callB call_len vn_len T.n_len (by decide +kernel) (da_cons (de_var (i := 1)) da_nil)) de_int) (de_join de_str (de_lst (da_cons (de_var (i := 2)) (da_cons (de_var (i := 3)) (da_star (de_var (i := 1)) da_nil))))) (de_joined (dj_cons (de_fmt (de_var (i := 2))) (dj_cons de_str (dj_cons (de_fmt (de_var (i := 3))) (dj_cons de_str dj_nil))))))))))
abbrev N_read_token : List Str := ["word", "figures", "sign"]
theorem sc_read_token : FnScope N_read_token ["word"] (defScope s_read_token) := ⟨rfl, rfl, rfl, by decide +kernel, rfl, by decide +kernel, by decide +kernel⟩
def f_read_token_t1 : Ev → Rs Bool :=
    (fTest (f2 dIn (fVar 2) (fC (.str "0123456789"))))
def f_read_token_e2 : Ev → Rs D :=
    (fVar 2)
def f_read_token : Ev → Rs Fl :=
    (fSeq (fSet 1 (fM1 dJoin (fC (.str "")) (fSh (fLc (([("sign", 2)] : List (Str × Nat)).map (·.2)) (fiS (fVar 0)) (gNm 2) f_read_token_t1 f_read_token_e2))))
    (fSeq (fIfS (fOr (fTest (f2 dEq (fVar 1) (fC (.str "")))) (fOr (fTest (f2 dGt (fN gLen (fCons (fVar 1) fNil)) (fC (.int 2)))) (fNot (fTest (fM1 dStarts (fVar 0) (fVar 1)))))) (fRet (fC .non)) fsNil)
    (fSeq (fIfS (fAnd (fTest (f2 dEq (fN gLen (fCons (fVar 1) fNil)) (fC (.int 2)))) (fTest (f2 dEq (f2 dIx (fVar 1) (fC (.int 0))) (fC (.str "0"))))) (fRet (fC .non)) fsNil)
    (fRet (fN gTup (fCons (fN gIntS (fCons (fVar 1) fNil)) (fCons (fCutS (fVar 0) (fP (fN gLen (fCons (fVar 1) fNil))) fNoP) fNil)))))))
def g_read_token : List Sl → Rs Dr := gOf 3 f_read_token
theorem wk_read_token (T : Txt K mg w) {f : Addr}  : Walk P w K mg base N_read_token "read_token" (defScope s_read_token) f 0 (defBody s_read_token) f_read_token := fun cdv A outer s H E B =>
    (dss_cons (ds_set (i := 1) B (de_join de_str (DF.de (df_lc B (di_str (de_var (i := 0))) (blkOk_by (own := [("sign", 2)]) (N := N_read_token) (sc := defScope s_read_token) (by decide +kernel)) (by decide) (fun _ _ _ _ _ => (dg_name B.blk.nd (i := 2))) (fun _ _ _ _ _ => (dts_one (dt_cmp (or_in B.blk) v2_in (de_var (i := 2)) (let ⟨_, h⟩ := T.c_DIGITS; de_globS h)))) (fun _ _ _ _ _ => (de_var (i := 2)))))))
    (dss_cons (ds_if (PW.pt (dw_or (dt_cmp (or_eqD B) v2_eq (de_var (i := 1)) de_str) (dw_or (dt_cmp op_gt v2_gt (de_callB call_len vn_len T.n_len (by decide +kernel) (da_cons (de_var (i := 1)) da_nil)) de_int) (dw_or1 (dt_not (dt_val (de_startswith (de_var (i := 0)) (de_var (i := 1))))))))) (dss_one (ds_ret de_non)) dss_nil)
    (dss_cons (ds_if (PW.pt (dw_and (dt_cmp (or_eqD B) v2_eq (de_callB call_len vn_len T.n_len (by decide +kernel) (da_cons (de_var (i := 1)) da_nil)) de_int) (dw_and1 (dt_cmp (or_eqD B) v2_eq (de_item (de_var (i := 1)) de_int) de_str)))) (dss_one (ds_ret de_non)) dss_nil)
    (dss_one (ds_ret (de_tup (da_cons (de_callTy call_int_str vn_intS T.n_int (by decide +kernel) (da_cons (de_var (i := 1)) da_nil)) (da_cons (de_cutS (de_var (i := 0)) (dp_some (de_callB call_len vn_len T.n_len (by decide +kernel) (da_cons (de_var (i := 1)) da_nil))) dp_none) da_nil))))))))
abbrev N_is_token : List Str := ["job", "thing", "place", "flags", "one"]
theorem sc_is_token : FnScope N_is_token ["job", "thing"] (defScope s_is_token) := ⟨rfl, rfl, rfl, by decide +kernel, rfl, by decide +kernel, by decide +kernel⟩
theorem wk_is_token (T : Txt K mg w) {f : Addr}  : Walk P w K mg base N_is_token "is_token" (defScope s_is_token) f 0 (defBody s_is_token) f_is_token := fun cdv A outer s H E B =>
    (dss_cons (ds_if (PW.pt (dw_or (dt_not (dt_val (de_callB call_isi vn_isi T.n_isinstance (by decide +kernel) (da_cons (de_var (i := 1)) (da_cons (de_ty T.n_tuple (by decide +kernel)) da_nil))))) (dw_or1 (dt_cmp (or_neD B) v2_ne (de_callB call_len vn_len T.n_len (by decide +kernel) (da_cons (de_var (i := 1)) da_nil)) de_int)))) (dss_one (ds_ret de_bl)) dss_nil)
    (dss_cons (ds_asg (de_var (i := 1)) (dg_tup B.hc (dgs_cons (dg_name B.nd (i := 2)) (dgs_cons (dg_name B.nd (i := 3)) dgs_nil)) (hl := (gs_lenS (gs_lenS (fun _ _ _ h => gs_len0 h))))))
    (dss_cons (ds_if (PW.pt (dw_or (dt_not (dt_val (de_callB call_isi vn_isi T.n_isinstance (by decide +kernel) (da_cons (de_var (i := 2)) (da_cons (de_ty T.n_int (by decide +kernel)) da_nil))))) (dw_or (dt_val (de_callB call_isi vn_isi T.n_isinstance (by decide +kernel) (da_cons (de_var (i := 2)) (da_cons (de_ty T.n_bool (by decide +kernel)) da_nil)))) (dw_or1 (dt_not (dt_chain op_le v2_le op_le v2_le de_int (de_var (i := 2)) (de_add (de_callB call_len vn_len T.n_len (by decide +kernel) (da_cons (de_fld T.a_words (de_var (i := 0))) da_nil)) de_int))))))) (dss_one (ds_ret de_bl)) dss_nil)
    (dss_cons (ds_if (PW.pt (dw_or (dt_not (dt_val (de_callB call_isi vn_isi T.n_isinstance (by decide +kernel) (da_cons (de_var (i := 3)) (da_cons (de_ty T.n_str (by decide +kernel)) da_nil))))) (dw_or1 (dt_cmp (or_neD B) v2_ne (de_var (i := 3)) (de_join de_str (DF.de (df_lc B (di_str (let ⟨_, h⟩ := T.c_LETTERS; de_globS h)) (blkOk_by (own := [("one", 4)]) (N := N_is_token) (sc := defScope s_is_token) (by decide +kernel)) (by decide) (fun _ _ _ _ _ => (dg_name B.blk.nd (i := 4))) (fun _ _ _ _ _ => (dts_one (dt_cmp (or_in B.blk) v2_in (de_var (i := 4)) (de_var (i := 3))))) (fun _ _ _ _ _ => (de_var (i := 4)))))))))) (dss_one (ds_ret de_bl)) dss_nil)
    (dss_cons (ds_if (PW.pt (dw_and (dt_cmp (or_in B) v2_in de_str (de_var (i := 3))) (dw_and1 (dt_cmp (or_eqD B) v2_eq (de_var (i := 2)) de_int)))) (dss_one (ds_ret de_bl)) dss_nil)
    (dss_one (ds_ret (de_or (de_cmp (or_notIn B) v2_notIn de_str (de_var (i := 3))) (de_one (de_and (de_cmp op_gt v2_gt (de_var (i := 2)) (de_callB call_len vn_len T.n_len (by decide +kernel) (da_cons (de_fld T.a_rows (de_var (i := 0))) da_nil))) (de_one (de_cmp op_gt v2_gt (de_callB call_len vn_len T.n_len (by decide +kernel) (da_cons (de_fld T.a_last (de_var (i := 0))) da_nil)) de_int))))))))))))
abbrev N_is_standing : List Str := ["job", "thing", "keyed", "switch", "key", "tokens", "token", "place", "flags"]
theorem sc_is_standing : FnScope N_is_standing ["job", "thing"] (defScope s_is_standing) := ⟨rfl, rfl, rfl, by decide +kernel, rfl, by decide +kernel, by decide +kernel⟩
theorem wk_is_standing (T : Txt K mg w) {f : Addr} (G_is_token : Dfn P w K mg base 1 "is_token" 2 [] g_is_token) : Walk P w K mg base N_is_standing "is_standing" (defScope s_is_standing) f 1 (defBody s_is_standing) f_is_standing := fun cdv A outer s H E B =>
    (dss_cons (ds_if (PW.pt (dw_or (dt_not (dt_val (de_callB call_isi vn_isi T.n_isinstance (by decide +kernel) (da_cons (de_var (i := 1)) (da_cons (de_ty T.n_tuple (by decide +kernel)) da_nil))))) (dw_or1 (dt_cmp (or_neD B) v2_ne (de_callB call_len vn_len T.n_len (by decide +kernel) (da_cons (de_var (i := 1)) da_nil)) de_int)))) (dss_one (ds_ret de_bl)) dss_nil)
    (dss_cons (ds_asg (de_var (i := 1)) (dg_tup B.hc (dgs_cons (dg_name B.nd (i := 3)) (dgs_cons (dg_name B.nd (i := 4)) (dgs_cons (dg_name B.nd (i := 5)) dgs_nil))) (hl := (gs_lenS (gs_lenS (gs_lenS (fun _ _ _ h => gs_len0 h)))))))
    (dss_cons (ds_if (PW.pt (dw_or (dt_not (dt_val (de_callB call_isi vn_isi T.n_isinstance (by decide +kernel) (da_cons (de_var (i := 3)) (da_cons (de_ty T.n_str (by decide +kernel)) da_nil))))) (dw_or (dt_not (dt_val (de_callB call_isi vn_isi T.n_isinstance (by decide +kernel) (da_cons (de_var (i := 4)) (da_cons (de_ty T.n_str (by decide +kernel)) da_nil))))) (dw_or (dt_cmp (or_notIn B) v2_notIn (de_var (i := 3)) (de_globT T.c_SWITCHES)) (dw_or1 (dt_cmp (or_notIn B) v2_notIn (de_var (i := 4)) (de_globT T.c_KEYS))))))) (dss_one (ds_ret de_bl)) dss_nil)
    (dss_cons (ds_if (PW.pt (dw_or (dt_not (dt_val (de_callB call_isi vn_isi T.n_isinstance (by decide +kernel) (da_cons (de_var (i := 5)) (da_cons (de_ty T.n_tuple (by decide +kernel)) da_nil))))) (dw_or1 (dt_cmp op_gt v2_gt (de_callB call_len vn_len T.n_len (by decide +kernel) (da_cons (de_var (i := 5)) da_nil)) (let ⟨_, h⟩ := T.c_MOST_TOKENS; de_globI h))))) (dss_one (ds_ret de_bl)) dss_nil)
    (dss_cons (ds_if (dt_not (dt_val (de_callB (cr_all B.hc) vn_all T.n_all (by decide +kernel) (da_cons (DF.de (df_lc B (di_seq (de_var (i := 5))) (blkOk_by (own := [("token", 6)]) (N := N_is_standing) (sc := defScope s_is_standing) (by decide +kernel)) (by decide) (fun _ _ _ _ _ => (dg_name B.blk.nd (i := 6))) (fun _ _ _ _ _ => dts_nil) (fun _ _ _ _ _ => (DX.de (dx_call B.blk G_is_token (by decide) (da_cons (de_var (i := 0)) (da_cons (de_var (i := 6)) da_nil))))))) da_nil)))) (dss_one (ds_ret de_bl)) dss_nil)
    (dss_cons (ds_set (i := 2) B (de_callB call_len vn_len T.n_len (by decide +kernel) (da_cons (DF.de (df_lc B (di_seq (de_var (i := 5))) (blkOk_by (own := [("place", 7), ("flags", 8)]) (N := N_is_standing) (sc := defScope s_is_standing) (by decide +kernel)) (by decide) (fun _ _ _ _ _ => (dg_tup B.blk.hc (dgs_cons (dg_name B.blk.nd (i := 7)) (dgs_cons (dg_name B.blk.nd (i := 8)) dgs_nil)) (hl := (gs_lenS (gs_lenS (fun _ _ _ h => gs_len0 h)))))) (fun _ _ _ _ _ => (dts_one (dt_cmp (or_in B.blk) v2_in de_str (de_var (i := 8))))) (fun _ _ _ _ _ => (de_var (i := 8))))) da_nil)))
    (dss_one (ds_ret (de_and (de_cmp (or_eqD B) v2_eq (DF.de (df_list T.n_list (by decide +kernel) (da_cons (de_var (i := 5)) da_nil))) (DF.de (df_sorted B T.n_sorted (by decide +kernel) (da_cons (de_var (i := 5)) da_nil)))) (de_one (de_cmp (or_eqD B) v2_eq (de_var (i := 2)) (de_if (dt_cmp (or_eqD B) v2_eq (de_var (i := 4)) de_str) de_int de_int))))))))))))
abbrev N_read_standing : List Str := ["job", "text", "words", "tokens", "found", "switch", "more", "word", "token"]
theorem sc_read_standing : FnScope N_read_standing ["job", "text"] (defScope s_read_standing) := ⟨rfl, rfl, rfl, by decide +kernel, rfl, by decide +kernel, by decide +kernel⟩
def f_read_standing_e1 : Ev → Rs D :=
    (fShR (fCall 1 g_read_token [] (fCons (fVar 7) fNil)))
def f_read_standing_t2 : Ev → Rs Bool :=
    (fTest (f2 dNotN (fVar 8) (fC .non)))
def f_read_standing_e3 : Ev → Rs D :=
    (fVar 8)
def f_read_standing : Ev → Rs Fl :=
    (fSeq (fIfS (fNot (fTest (fN gIsi (fCons (fVar 1) (fCons (fC (.ty "str")) fNil))))) (fRaise "BadText" "text" (fVar 1)) fsNil)
    (fSeq (fAsgS (fSh (fSplit (fVar 1) (fC (.str " ")))) (gsCons (gNm 5) (gsCons (gNm 6) gsNil)))
    (fSeq (fIfS (fTest (f2 dLt (fN gLen (fCons (fVar 6) fNil)) (fC (.int 2)))) (fRaise "BadText" "text" (fVar 1)) fsNil)
    (fSeq (fSet 2 (fIf (fTest (f2 dNe (fSh (fCutL (fVar 6) (fP (fC (.int 1))) fNoP)) (fN gLst (fCons (fC (.str "-")) fNil)))) (fSh (fCutL (fVar 6) (fP (fC (.int 1))) fNoP)) (fN gLst fNil)))
    (fSeq (fSet 3 (fSh (fLc (([("word", 7)] : List (Str × Nat)).map (·.2)) (fiQ (fVar 2)) (gNm 7) fYes f_read_standing_e1)))
    (fSeq (fSet 4 (fN gTup (fCons (fVar 5) (fCons (f2 dIx (fVar 6) (fC (.int 0))) (fCons (fN gTuple (fCons (fSh (fLc (([("token", 8)] : List (Str × Nat)).map (·.2)) (fiQ (fVar 3)) (gNm 8) f_read_standing_t2 f_read_standing_e3)) fNil)) fNil)))))
    (fSeq (fIfS (fOr (fTest (f2 dIn (fC .non) (fVar 3))) (fNot (fTest (fShR (fCall 2 g_is_standing [] (fCons (fVar 0) (fCons (fVar 4) fNil))))))) (fRaise "BadText" "text" (fVar 1)) fsNil)
    (fRet (fVar 4)))))))))
def g_read_standing : List Sl → Rs Dr := gOf 9 f_read_standing
theorem wk_read_standing (T : Txt K mg w) {f : Addr} (R_BadText : ErrD P w K mg base "BadText" "text") (G_read_token : Dfn P w K mg base 1 "read_token" 1 [] g_read_token) (G_is_standing : Dfn P w K mg base 2 "is_standing" 2 [] g_is_standing) : Walk P w K mg base N_read_standing "read_standing" (defScope s_read_standing) f 2 (defBody s_read_standing) f_read_standing := fun cdv A outer s H E B =>
    (dss_cons (ds_if (dt_not (dt_val (de_callB call_isi vn_isi T.n_isinstance (by decide +kernel) (da_cons (de_var (i := 1)) (da_cons (de_ty T.n_str (by decide +kernel)) da_nil))))) (dss_one (ds_raise B R_BadText (by decide) (de_var (i := 1)))) dss_nil)
    (dss_cons (ds_asgS B.hc (DF.de (df_split (de_var (i := 1)) de_str)) (dgs_cons (dg_name B.nd (i := 5)) (dgs_cons (dg_name B.nd (i := 6)) dgs_nil)))
    (dss_cons (ds_if (dt_cmp op_lt v2_lt (de_callB call_len vn_len T.n_len (by decide +kernel) (da_cons (de_var (i := 6)) da_nil)) de_int) (dss_one (ds_raise B R_BadText (by decide) (de_var (i := 1)))) dss_nil)
    (dss_cons (ds_set (i := 2) B (de_if (dt_cmp (or_neD B) v2_ne (DF.de (df_cut (de_var (i := 6)) (dp_some de_int) dp_none)) (de_lst (da_cons de_str da_nil))) (DF.de (df_cut (de_var (i := 6)) (dp_some de_int) dp_none)) (de_lst da_nil)))
    (dss_cons (ds_setLc (i := 3) B (di_seq (de_var (i := 2))) (blkOk_by (own := [("word", 7)]) (N := N_read_standing) (sc := defScope s_read_standing) (by decide +kernel)) (by decide) (fun _ _ _ _ _ => (dg_name B.blk.nd (i := 7))) (fun _ _ _ _ _ => dts_nil) (fun _ _ _ _ _ => (DX.de (dx_call B.blk G_read_token (by decide) (da_cons (de_var (i := 7)) da_nil)))) (sw_true rfl rfl rfl (by decide +kernel)))
    (dss_cons (ds_set (i := 4) B (de_tup (da_cons (de_var (i := 5)) (da_cons (de_item (de_var (i := 6)) de_int) (da_cons (de_callTy call_tuple_of vn_tuple T.n_tuple (by decide +kernel) (da_cons (DF.de (df_lc B (di_seq (de_var (i := 3))) (blkOk_by (own := [("token", 8)]) (N := N_read_standing) (sc := defScope s_read_standing) (by decide +kernel)) (by decide) (fun _ _ _ _ _ => (dg_name B.blk.nd (i := 8))) (fun _ _ _ _ _ => (dts_one (dt_cmp op_notN v2_notN (de_var (i := 8)) de_non))) (fun _ _ _ _ _ => (de_var (i := 8))))) da_nil)) da_nil)))))
    (dss_cons (ds_if (PW.pt (dw_or (dt_cmp (or_in B) v2_in de_non (de_var (i := 3))) (dw_or1 (dt_not (dt_val (DX.de (dx_call B G_is_standing (by decide) (da_cons (de_var (i := 0)) (da_cons (de_var (i := 4)) da_nil))))))))) (dss_one (ds_raise B R_BadText (by decide) (de_var (i := 1)))) dss_nil)
    (dss_one (ds_ret (de_var (i := 4)))))))))))
abbrev N_law : List Str := ["_law_script", "_law_at", "_law_bag_here", "_law_parts_here", "_law_job_here", "_law_turn", "_law_stand", "_law_text", "_law_one", "_law_told", "_law_again"]
theorem sc_law : FnScope N_law ["_law_script"] (defScope s_law) := ⟨rfl, rfl, rfl, by decide +kernel, rfl, by decide +kernel, by decide +kernel⟩
def f_law_b1 : Ev → Rs Fl :=
    (fSet 7 (f2 dAdd (f2 dAdd (f2 dAdd (fVar 7) (fC (.str " "))) (fN gStrB (fCons (f2 dIx (fVar 8) (fC (.int 0))) fNil))) (f2 dIx (fVar 8) (fC (.int 1)))))
def f_law_t2 : Ev → Rs Bool :=
    (fTest (fN gIsi (fCons (f2 dIx (fVar 8) (fC (.int 0))) (fCons (fC (.ty "bool")) fNil))))
def f_law_e3 : Ev → Rs D :=
    (fVar 8)
def f_law_b4 : Ev → Rs Fl :=
    (fSeq (fSet 6 (fShR (fCallR 2 3 g__law_standing [] (fCons (fVar 3) (fCons (fC (.int 5)) fNil)))))
    (fSeq (fSet 7 (f2 dAdd (f2 dAdd (f2 dIx (fVar 6) (fC (.int 0))) (fC (.str " "))) (f2 dIx (fVar 6) (fC (.int 1)))))
    (fSeq (fFor (fiQ (f2 dIx (fVar 6) (fC (.int 2)))) (gNm 8) f_law_b1)
    (fSeq (fIfS (fTest (f2 dEq (f2 dIx (fVar 6) (fC (.int 2))) (fN gTup fNil))) (fSet 7 (f2 dAdd (fVar 7) (fC (.str " -")))) fsNil)
    (fSeq (fPar2 9 10 (fShR (fCall 1 g_show_standing [] (fCons (fVar 6) fNil))) (fShR (fCall 2 g_read_standing [] (fCons (fVar 4) (fCons (fVar 7) fNil)))))
    (fSeq (fIfS (fOr (fNot (fTest (fN gIsi (fCons (fVar 9) (fCons (fC (.ty "str")) fNil))))) (fOr (fTest (f2 dNe (fVar 9) (fVar 7))) (fOr (fNot (fTest (fN gIsi (fCons (fVar 10) (fCons (fC (.ty "tuple")) fNil))))) (fTest (f2 dNe (fVar 10) (fVar 6)))))) (fRet (fC (.bl false))) fsNil)
    (fIfS (fOr (fNot (fTest (fN gIsi (fCons (f2 dIx (fVar 10) (fC (.int 2))) (fCons (fC (.ty "tuple")) fNil))))) (fTest (f2 dNe (fSh (fLc (([("_law_one", 8)] : List (Str × Nat)).map (·.2)) (fiQ (f2 dIx (fVar 10) (fC (.int 2)))) (gNm 8) f_law_t2 f_law_e3)) (fN gLst fNil)))) (fRet (fC (.bl false))) fsNil)))))))
def f_law_b5 : Ev → Rs Fl :=
    (fSeq (fSetO 2 (fFrR (fCall 2 g__law_bag [] (fCons (fVar 0) (fCons (fVar 1) fNil)))))
    (fSeq (fSet 3 (fShR (fCallR 2 2 g__law_parts [] (fCons (fC (.int 8)) fNil))))
    (fSeq (fSet 4 (fShR (fCall 1 g__law_job [] (fCons (fVar 3) fNil))))
    (fFor (fiR1 (fCons (fC (.int 3)) fNil)) (gNm 5) f_law_b4))))
def f_law : Ev → Rs Fl :=
    (fSeq (fFor (fiR1 (fCons (fN gMax (fCons (fC (.int 1)) (fCons (fN gMin (fCons (fC (.int 10)) (fCons (fN gLen (fCons (fVar 0) fNil)) fNil))) fNil))) fNil)) (gNm 1) f_law_b5)
    (fRet (fC (.bl true))))
def g_law : List Sl → Rs Dr := gOf 11 f_law
theorem wk_law (T : Txt K mg w) {f : Addr} (G__law_bag : Dfn P w K mg base 1 "_law_bag" 2 [] g__law_bag) (G__law_parts : Dfn P w K mg base 3 "_law_parts" 2 [] g__law_parts) (G__law_job : Dfn P w K mg base 7 "_law_job" 1 [] g__law_job) (G__law_standing : Dfn P w K mg base 4 "_law_standing" 3 [] g__law_standing) (G_show_standing : Dfn P w K mg base 1 "show_standing" 1 [] g_show_standing) (G_read_standing : Dfn P w K mg base 3 "read_standing" 2 [] g_read_standing) : Walk P w K mg base N_law "law" (defScope s_law) f 7 (defBody s_law) f_law := fun cdv A outer s H E B =>
    (dss_cons (ds_for B (di_range1 T.n_range (da_cons (de_callB (call_max2 B.hc) vn_max T.n_max (by decide +kernel) (da_cons de_int (da_cons (de_callB (call_min2 B.hc) vn_min T.n_min (by decide +kernel) (da_cons de_int (da_cons (de_callB call_len vn_len T.n_len (by decide +kernel) (da_cons (de_var (i := 0)) da_nil)) da_nil))) da_nil))) da_nil)) (dg_name B.nd (i := 1))
    (dss_cons (ds_setO (i := 2) B (DX.df (dx_call B G__law_bag (by decide) (da_cons (de_var (i := 0)) (da_cons (de_var (i := 1)) da_nil)))))
    (dss_cons (ds_set (i := 3) B (DX.de (dx_callR (i := 2) B G__law_parts (by decide) rfl (da_cons de_int da_nil))))
    (dss_cons (ds_set (i := 4) B (DX.de (dx_call B G__law_job (by decide) (da_cons (de_var (i := 3)) da_nil))))
    (dss_one (ds_for B (di_range1 T.n_range (da_cons de_int da_nil)) (dg_name B.nd (i := 5))
    (dss_cons (ds_set (i := 6) B (DX.de (dx_callR (i := 2) B G__law_standing (by decide) rfl (da_cons (de_var (i := 3)) (da_cons de_int da_nil)))))
    (dss_cons (ds_set (i := 7) B (de_add (de_add (de_item (de_var (i := 6)) de_int) de_str) (de_item (de_var (i := 6)) de_int)))
    (dss_cons (ds_for B (di_seq (de_item (de_var (i := 6)) de_int)) (dg_name B.nd (i := 8))
    (dss_one (ds_set (i := 7) B (de_add (de_add (de_add (de_var (i := 7)) de_str) (de_callTy call_strB vn_strB T.n_str (by decide +kernel) (da_cons (de_item (de_var (i := 8)) de_int) da_nil))) (de_item (de_var (i := 8)) de_int)))))
    (dss_cons (ds_if (dt_cmp (or_eqD B) v2_eq (de_item (de_var (i := 6)) de_int) (de_tup da_nil)) (dss_one (ds_set (i := 7) B (de_add (de_var (i := 7)) de_str))) dss_nil)
    (dss_cons (ds_par2 (i := 9) (j := 10) B (DX.de (dx_call B G_show_standing (by decide) (da_cons (de_var (i := 6)) da_nil))) (DX.de (dx_call B G_read_standing (by decide) (da_cons (de_var (i := 4)) (da_cons (de_var (i := 7)) da_nil)))))
    (dss_cons (ds_if (PW.pt (dw_or (dt_not (dt_val (de_callB call_isi vn_isi T.n_isinstance (by decide +kernel) (da_cons (de_var (i := 9)) (da_cons (de_ty T.n_str (by decide +kernel)) da_nil))))) (dw_or (dt_cmp (or_neD B) v2_ne (de_var (i := 9)) (de_var (i := 7))) (dw_or (dt_not (dt_val (de_callB call_isi vn_isi T.n_isinstance (by decide +kernel) (da_cons (de_var (i := 10)) (da_cons (de_ty T.n_tuple (by decide +kernel)) da_nil))))) (dw_or1 (dt_cmp (or_neD B) v2_ne (de_var (i := 10)) (de_var (i := 6)))))))) (dss_one (ds_ret de_bl)) dss_nil)
    (dss_one (ds_if (PW.pt (dw_or (dt_not (dt_val (de_callB call_isi vn_isi T.n_isinstance (by decide +kernel) (da_cons (de_item (de_var (i := 10)) de_int) (da_cons (de_ty T.n_tuple (by decide +kernel)) da_nil))))) (dw_or1 (dt_cmp (or_neD B) v2_ne (DF.de (df_lc B (di_seq (de_item (de_var (i := 10)) de_int)) (blkOk_by (own := [("_law_one", 8)]) (N := N_law) (sc := defScope s_law) (by decide +kernel)) (by decide) (fun _ _ _ _ _ => (dg_name B.blk.nd (i := 8))) (fun _ _ _ _ _ => (dts_one (dt_val (de_callB call_isi vn_isi T.n_isinstance (by decide +kernel) (da_cons (de_item (de_var (i := 8)) de_int) (da_cons (de_ty T.n_bool (by decide +kernel)) da_nil)))))) (fun _ _ _ _ _ => (de_var (i := 8))))) (de_lst da_nil))))) (dss_one (ds_ret de_bl)) dss_nil))))))))))))))
    (dss_one (ds_ret de_bl)))
end
end K08

end

section
set_option Elab.async false
set_option linter.all false
set_option maxRecDepth 100000
set_option maxHeartbeats 0
namespace K08
open PySem L2 DL LP LW
theorem facts {P : Program} {w : World} {K : Frag} {h : Heap} {mg : Str → Option Value} {f : Addr} (X : K.In h) (G : h.Ns mainGlobals mg) (hfa : mg ("law" : Str) = some (.ref f)) (c : SaysT chk fn tbs w K) :
    ∃ fd : FuncData, (∀ (s : Shared) (v : Value), BindsTo s fd ⟨[v], []⟩ [("_law_script", v)]) ∧ ∀ base : Heap, K.In base → base.Ns mainGlobals mg → FnOk P w K mg base (L2.CX P w) 8 f fd ["_law_script"] (spD K 1 g_law) := by
  have ck : chk K = true := c.m.chk
  unfold chk at ck
  obtain ⟨ca, cb⟩ := He.ba ck
  have fact : ∀ (i : Nat) {f : He.Fa}, fa[i]? = some f → f.ok K = true := fun i f h => List.all_eq_true.mp ca f (List.mem_of_getElem? h)
  have T : Txt K mg w := {
    n_abs := He.free_ok X G (fact 21 (f := .free "abs") rfl),
    n_all := He.free_ok X G (fact 22 (f := .free "all") rfl),
    n_bool := He.free_ok X G (fact 23 (f := .free "bool") rfl),
    n_enumerate := He.free_ok X G (fact 24 (f := .free "enumerate") rfl),
    n_int := He.free_ok X G (fact 25 (f := .free "int") rfl),
    n_isinstance := He.free_ok X G (fact 26 (f := .free "isinstance") rfl),
    n_len := He.free_ok X G (fact 27 (f := .free "len") rfl),
    n_list := He.free_ok X G (fact 28 (f := .free "list") rfl),
    n_max := He.free_ok X G (fact 29 (f := .free "max") rfl),
    n_min := He.free_ok X G (fact 30 (f := .free "min") rfl),
    n_range := He.free_ok X G (fact 31 (f := .free "range") rfl),
    n_sorted := He.free_ok X G (fact 32 (f := .free "sorted") rfl),
    n_str := He.free_ok X G (fact 33 (f := .free "str") rfl),
    n_tuple := He.free_ok X G (fact 34 (f := .free "tuple") rfl),
    c_DIGITS := He.str_ok X G (fact 41 (f := .str "DIGITS" "0123456789") rfl),
    c_KEYS := tupM_ok X G (He.ba cb).1,
    c_LAPSES := tupM_ok X G (He.ba (He.ba cb).2).1,
    c_LETTERS := He.str_ok X G (fact 42 (f := .str "LETTERS" "befk") rfl),
    c_MOST_TOKENS := He.int_ok X G (fact 43 (f := .int "MOST_TOKENS" 5) rfl),
    c_PARTS := tupM_ok X G (He.ba (He.ba (He.ba cb).2).2).1,
    c_STARTS := tupM_ok X G (He.ba (He.ba (He.ba (He.ba cb).2).2).2).1,
    c_SWITCHES := tupM_ok X G (He.ba (He.ba (He.ba (He.ba (He.ba cb).2).2).2).2).1,
    c_WATCHES := tupM_ok X G (He.ba (He.ba (He.ba (He.ba (He.ba (He.ba cb).2).2).2).2).2).1,
    c_WORDS := tupM_ok X G (He.ba (He.ba (He.ba (He.ba (He.ba (He.ba (He.ba cb).2).2).2).2).2).2).1,
    g_Job := He.glo_ok X G (fact 7 (f := .glo "Job") rfl),
    v_Job_MOST_LAST := cvB_ok (He.ba (He.ba (He.ba (He.ba (He.ba (He.ba (He.ba (He.ba (He.ba (He.ba (He.ba (He.ba (He.ba (He.ba (He.ba (He.ba (He.ba (He.ba (He.ba (He.ba (He.ba (He.ba (He.ba (He.ba cb).2).2).2).2).2).2).2).2).2).2).2).2).2).2).2).2).2).2).2).2).2).2).2).1,
    v_Job_MOST_ROWS := cvB_ok (He.ba (He.ba (He.ba (He.ba (He.ba (He.ba (He.ba (He.ba (He.ba (He.ba (He.ba (He.ba (He.ba (He.ba (He.ba (He.ba (He.ba (He.ba (He.ba (He.ba (He.ba (He.ba (He.ba (He.ba (He.ba cb).2).2).2).2).2).2).2).2).2).2).2).2).2).2).2).2).2).2).2).2).2).2).2).2).1,
    a_lapse := (fl_cons ⟨He.cls_ok (fact 8 (f := .cls "Job") rfl), He.noat_ok (fact 35 (f := .noat "Job" "lapse") rfl)⟩ (fun _ h => nomatch h)),
    a_last := (fl_cons ⟨He.cls_ok (fact 8 (f := .cls "Job") rfl), He.noat_ok (fact 36 (f := .noat "Job" "last") rfl)⟩ (fun _ h => nomatch h)),
    a_rows := (fl_cons ⟨He.cls_ok (fact 8 (f := .cls "Job") rfl), He.noat_ok (fact 37 (f := .noat "Job" "rows") rfl)⟩ (fun _ h => nomatch h)),
    a_start := (fl_cons ⟨He.cls_ok (fact 8 (f := .cls "Job") rfl), He.noat_ok (fact 38 (f := .noat "Job" "start") rfl)⟩ (fun _ h => nomatch h)),
    a_watch := (fl_cons ⟨He.cls_ok (fact 8 (f := .cls "Job") rfl), He.noat_ok (fact 39 (f := .noat "Job" "watch") rfl)⟩ (fun _ h => nomatch h)),
    a_words := (fl_cons ⟨He.cls_ok (fact 8 (f := .cls "Job") rfl), He.noat_ok (fact 40 (f := .noat "Job" "words") rfl)⟩ (fun _ h => nomatch h)) }
  obtain ⟨fd__law_bag, F__law_bag⟩ := c.m.def_ 0 (d := d__law_bag) rfl
  obtain ⟨fd__law_take, F__law_take⟩ := c.m.def_ 1 (d := d__law_take) rfl
  obtain ⟨fd__law_of, F__law_of⟩ := c.m.def_ 2 (d := d__law_of) rfl
  obtain ⟨fd__law_parts, F__law_parts⟩ := c.m.def_ 3 (d := d__law_parts) rfl
  obtain ⟨fd_is_word, F_is_word⟩ := c.m.def_ 4 (d := d_is_word) rfl
  obtain ⟨fd_look_rows, F_look_rows⟩ := c.m.def_ 5 (d := d_look_rows) rfl
  obtain ⟨fd_look_start, F_look_start⟩ := c.m.def_ 6 (d := d_look_start) rfl
  obtain ⟨fd_Job_init, F_Job_init⟩ := c.m.def_ 7 (d := d_Job_init) rfl
  obtain ⟨fd_Job_changed, F_Job_changed⟩ := c.m.def_ 8 (d := d_Job_changed) rfl
  obtain ⟨fd__law_job, F__law_job⟩ := c.m.def_ 9 (d := d__law_job) rfl
  obtain ⟨fd__law_token, F__law_token⟩ := c.m.def_ 10 (d := d__law_token) rfl
  obtain ⟨fd__law_standing, F__law_standing⟩ := c.m.def_ 11 (d := d__law_standing) rfl
  obtain ⟨fd_show_standing, F_show_standing⟩ := c.m.def_ 12 (d := d_show_standing) rfl
  obtain ⟨fd_read_token, F_read_token⟩ := c.m.def_ 13 (d := d_read_token) rfl
  obtain ⟨fd_is_token, F_is_token⟩ := c.m.def_ 14 (d := d_is_token) rfl
  obtain ⟨fd_is_standing, F_is_standing⟩ := c.m.def_ 15 (d := d_is_standing) rfl
  obtain ⟨fd_read_standing, F_read_standing⟩ := c.m.def_ 16 (d := d_read_standing) rfl
  obtain ⟨fd_law, F_law⟩ := c.m.def_ 17 (d := d_law) rfl
  obtain ⟨fd_BadRow_init, F_BadRow_init⟩ := c.m.def_ 18 (d := d_BadRow_init) rfl
  obtain ⟨fd_BadStart_init, F_BadStart_init⟩ := c.m.def_ 19 (d := d_BadStart_init) rfl
  obtain ⟨fd_Twice_init, F_Twice_init⟩ := c.m.def_ 20 (d := d_Twice_init) rfl
  obtain ⟨fd_TooMany_init, F_TooMany_init⟩ := c.m.def_ 21 (d := d_TooMany_init) rfl
  obtain ⟨fd_BadWatch_init, F_BadWatch_init⟩ := c.m.def_ 22 (d := d_BadWatch_init) rfl
  obtain ⟨fd_BadLapse_init, F_BadLapse_init⟩ := c.m.def_ 23 (d := d_BadLapse_init) rfl
  obtain ⟨fd_BadPart_init, F_BadPart_init⟩ := c.m.def_ 24 (d := d_BadPart_init) rfl
  obtain ⟨fd_BadText_init, F_BadText_init⟩ := c.m.def_ 25 (d := d_BadText_init) rfl
  have e := hfa.symm.trans (He.glo_ok X G (fact 20 (f := .glo "law") rfl))
  cases e
  have b := FunD.bindsA (ps := ["_law_script"]) F_law fun _ _ _ _ _ _ us hl => match us, hl with | [_], _ => rfl
  refine ⟨fd_law, fun s v => b s [v] rfl, fun base _ _ => ?_⟩
  have R_BadRow : ErrD P w K mg base "BadRow" "row" := errD_of (s1 := "row") X G (fact 44 (f := .glo "BadRow") rfl) (fact 45 (f := .meth "BadRow" "__init__") rfl) (fact 46 (f := .noat "BadRow" "row") rfl) (He.ba (He.ba (He.ba (He.ba (He.ba (He.ba (He.ba (He.ba cb).2).2).2).2).2).2).2).1 (He.ba (He.ba (He.ba (He.ba (He.ba (He.ba (He.ba (He.ba (He.ba cb).2).2).2).2).2).2).2).2).1 F_BadRow_init ⟨rfl, rfl, rfl, by decide +kernel, rfl, by decide +kernel, by decide +kernel⟩ (Or.inl rfl) (Or.inl rfl) (by decide) (by decide) (F_BadRow_init.bindsN (fun _ _ _ _ _ _ us hl => match us, hl with | [_, _], _ => rfl))
  have R_BadStart : ErrD P w K mg base "BadStart" "word" := errD_of (s1 := "word") X G (fact 47 (f := .glo "BadStart") rfl) (fact 48 (f := .meth "BadStart" "__init__") rfl) (fact 49 (f := .noat "BadStart" "word") rfl) (He.ba (He.ba (He.ba (He.ba (He.ba (He.ba (He.ba (He.ba (He.ba (He.ba cb).2).2).2).2).2).2).2).2).2).1 (He.ba (He.ba (He.ba (He.ba (He.ba (He.ba (He.ba (He.ba (He.ba (He.ba (He.ba cb).2).2).2).2).2).2).2).2).2).2).1 F_BadStart_init ⟨rfl, rfl, rfl, by decide +kernel, rfl, by decide +kernel, by decide +kernel⟩ (Or.inl rfl) (Or.inl rfl) (by decide) (by decide) (F_BadStart_init.bindsN (fun _ _ _ _ _ _ us hl => match us, hl with | [_, _], _ => rfl))
  have R_Twice : ErrD P w K mg base "Twice" "name" := errD_of (s1 := "name") X G (fact 50 (f := .glo "Twice") rfl) (fact 51 (f := .meth "Twice" "__init__") rfl) (fact 52 (f := .noat "Twice" "name") rfl) (He.ba (He.ba (He.ba (He.ba (He.ba (He.ba (He.ba (He.ba (He.ba (He.ba (He.ba (He.ba cb).2).2).2).2).2).2).2).2).2).2).2).1 (He.ba (He.ba (He.ba (He.ba (He.ba (He.ba (He.ba (He.ba (He.ba (He.ba (He.ba (He.ba (He.ba cb).2).2).2).2).2).2).2).2).2).2).2).2).1 F_Twice_init ⟨rfl, rfl, rfl, by decide +kernel, rfl, by decide +kernel, by decide +kernel⟩ (Or.inl rfl) (Or.inl rfl) (by decide) (by decide) (F_Twice_init.bindsN (fun _ _ _ _ _ _ us hl => match us, hl with | [_, _], _ => rfl))
  have R_TooMany : ErrD P w K mg base "TooMany" "limit" := errD_of (s1 := "limit") X G (fact 53 (f := .glo "TooMany") rfl) (fact 54 (f := .meth "TooMany" "__init__") rfl) (fact 55 (f := .noat "TooMany" "limit") rfl) (He.ba (He.ba (He.ba (He.ba (He.ba (He.ba (He.ba (He.ba (He.ba (He.ba (He.ba (He.ba (He.ba (He.ba cb).2).2).2).2).2).2).2).2).2).2).2).2).2).1 (He.ba (He.ba (He.ba (He.ba (He.ba (He.ba (He.ba (He.ba (He.ba (He.ba (He.ba (He.ba (He.ba (He.ba (He.ba cb).2).2).2).2).2).2).2).2).2).2).2).2).2).2).1 F_TooMany_init ⟨rfl, rfl, rfl, by decide +kernel, rfl, by decide +kernel, by decide +kernel⟩ (Or.inl rfl) (Or.inl rfl) (by decide) (by decide) (F_TooMany_init.bindsN (fun _ _ _ _ _ _ us hl => match us, hl with | [_, _], _ => rfl))
  have R_BadWatch : ErrD P w K mg base "BadWatch" "watch" := errD_of (s1 := "watch") X G (fact 56 (f := .glo "BadWatch") rfl) (fact 57 (f := .meth "BadWatch" "__init__") rfl) (fact 58 (f := .noat "BadWatch" "watch") rfl) (He.ba (He.ba (He.ba (He.ba (He.ba (He.ba (He.ba (He.ba (He.ba (He.ba (He.ba (He.ba (He.ba (He.ba (He.ba (He.ba cb).2).2).2).2).2).2).2).2).2).2).2).2).2).2).2).1 (He.ba (He.ba (He.ba (He.ba (He.ba (He.ba (He.ba (He.ba (He.ba (He.ba (He.ba (He.ba (He.ba (He.ba (He.ba (He.ba (He.ba cb).2).2).2).2).2).2).2).2).2).2).2).2).2).2).2).2).1 F_BadWatch_init ⟨rfl, rfl, rfl, by decide +kernel, rfl, by decide +kernel, by decide +kernel⟩ (Or.inl rfl) (Or.inl rfl) (by decide) (by decide) (F_BadWatch_init.bindsN (fun _ _ _ _ _ _ us hl => match us, hl with | [_, _], _ => rfl))
  have R_BadLapse : ErrD P w K mg base "BadLapse" "lapse" := errD_of (s1 := "lapse") X G (fact 59 (f := .glo "BadLapse") rfl) (fact 60 (f := .meth "BadLapse" "__init__") rfl) (fact 61 (f := .noat "BadLapse" "lapse") rfl) (He.ba (He.ba (He.ba (He.ba (He.ba (He.ba (He.ba (He.ba (He.ba (He.ba (He.ba (He.ba (He.ba (He.ba (He.ba (He.ba (He.ba (He.ba cb).2).2).2).2).2).2).2).2).2).2).2).2).2).2).2).2).2).1 (He.ba (He.ba (He.ba (He.ba (He.ba (He.ba (He.ba (He.ba (He.ba (He.ba (He.ba (He.ba (He.ba (He.ba (He.ba (He.ba (He.ba (He.ba (He.ba cb).2).2).2).2).2).2).2).2).2).2).2).2).2).2).2).2).2).2).1 F_BadLapse_init ⟨rfl, rfl, rfl, by decide +kernel, rfl, by decide +kernel, by decide +kernel⟩ (Or.inl rfl) (Or.inl rfl) (by decide) (by decide) (F_BadLapse_init.bindsN (fun _ _ _ _ _ _ us hl => match us, hl with | [_, _], _ => rfl))
  have R_BadPart : ErrD P w K mg base "BadPart" "name" := errD_of (s1 := "name") X G (fact 62 (f := .glo "BadPart") rfl) (fact 63 (f := .meth "BadPart" "__init__") rfl) (fact 64 (f := .noat "BadPart" "name") rfl) (He.ba (He.ba (He.ba (He.ba (He.ba (He.ba (He.ba (He.ba (He.ba (He.ba (He.ba (He.ba (He.ba (He.ba (He.ba (He.ba (He.ba (He.ba (He.ba (He.ba cb).2).2).2).2).2).2).2).2).2).2).2).2).2).2).2).2).2).2).2).1 (He.ba (He.ba (He.ba (He.ba (He.ba (He.ba (He.ba (He.ba (He.ba (He.ba (He.ba (He.ba (He.ba (He.ba (He.ba (He.ba (He.ba (He.ba (He.ba (He.ba (He.ba cb).2).2).2).2).2).2).2).2).2).2).2).2).2).2).2).2).2).2).2).2).1 F_BadPart_init ⟨rfl, rfl, rfl, by decide +kernel, rfl, by decide +kernel, by decide +kernel⟩ (Or.inl rfl) (Or.inl rfl) (by decide) (by decide) (F_BadPart_init.bindsN (fun _ _ _ _ _ _ us hl => match us, hl with | [_, _], _ => rfl))
  have R_BadText : ErrD P w K mg base "BadText" "text" := errD_of (s1 := "text") X G (fact 65 (f := .glo "BadText") rfl) (fact 66 (f := .meth "BadText" "__init__") rfl) (fact 67 (f := .noat "BadText" "text") rfl) (He.ba (He.ba (He.ba (He.ba (He.ba (He.ba (He.ba (He.ba (He.ba (He.ba (He.ba (He.ba (He.ba (He.ba (He.ba (He.ba (He.ba (He.ba (He.ba (He.ba (He.ba (He.ba cb).2).2).2).2).2).2).2).2).2).2).2).2).2).2).2).2).2).2).2).2).2).1 (He.ba (He.ba (He.ba (He.ba (He.ba (He.ba (He.ba (He.ba (He.ba (He.ba (He.ba (He.ba (He.ba (He.ba (He.ba (He.ba (He.ba (He.ba (He.ba (He.ba (He.ba (He.ba (He.ba cb).2).2).2).2).2).2).2).2).2).2).2).2).2).2).2).2).2).2).2).2).2).2).1 F_BadText_init ⟨rfl, rfl, rfl, by decide +kernel, rfl, by decide +kernel, by decide +kernel⟩ (Or.inl rfl) (Or.inl rfl) (by decide) (by decide) (F_BadText_init.bindsN (fun _ _ _ _ _ _ us hl => match us, hl with | [_, _], _ => rfl))
  have W__law_bag := fun f => wk__law_bag (P := P) (base := base) T (f := f) 
  have G__law_bag : Dfn P w K mg base 1 "_law_bag" 2 [] g__law_bag := ⟨_, fd__law_bag, _, [], [], def_ok F__law_bag sc__law_bag (W__law_bag _), He.glo_ok X G (fact 0 (f := .glo "_law_bag") rfl), F__law_bag.kp, F__law_bag.bindsN (fun _ _ _ _ _ _ us hl => match us, hl with | [_, _], _ => rfl), .nil, fun _ => .nil⟩
  have W__law_take := fun f => wk__law_take (P := P) (base := base) T (f := f) 
  have G__law_take : Dfn P w K mg base 1 "_law_take" 2 [] g__law_take := ⟨_, fd__law_take, _, [], [], def_ok F__law_take sc__law_take (W__law_take _), He.glo_ok X G (fact 1 (f := .glo "_law_take") rfl), F__law_take.kp, F__law_take.bindsN (fun _ _ _ _ _ _ us hl => match us, hl with | [_, _], _ => rfl), .nil, fun _ => .nil⟩
  have W__law_of := fun f => wk__law_of (P := P) (base := base) T (f := f) G__law_take
  have G__law_of : Dfn P w K mg base 2 "_law_of" 2 [] g__law_of := ⟨_, fd__law_of, _, [], [], def_ok F__law_of sc__law_of (W__law_of _), He.glo_ok X G (fact 2 (f := .glo "_law_of") rfl), F__law_of.kp, F__law_of.bindsN (fun _ _ _ _ _ _ us hl => match us, hl with | [_, _], _ => rfl), .nil, fun _ => .nil⟩
  have W__law_parts := fun f => wk__law_parts (P := P) (base := base) T (f := f) G__law_take G__law_of
  have G__law_parts : Dfn P w K mg base 3 "_law_parts" 2 [] g__law_parts := ⟨_, fd__law_parts, _, [], [], def_ok F__law_parts sc__law_parts (W__law_parts _), He.glo_ok X G (fact 3 (f := .glo "_law_parts") rfl), F__law_parts.kp, F__law_parts.bindsN (fun _ _ _ _ _ _ us hl => match us, hl with | [_, _], _ => rfl), .nil, fun _ => .nil⟩
  have W_is_word := fun f => wk_is_word (P := P) (base := base) T (f := f) 
  have G_is_word : Dfn P w K mg base 1 "is_word" 2 [] g_is_word := ⟨_, fd_is_word, _, [], [], def_ok F_is_word sc_is_word (W_is_word _), He.glo_ok X G (fact 4 (f := .glo "is_word") rfl), F_is_word.kp, F_is_word.bindsN (fun _ _ _ _ _ _ us hl => match us, hl with | [_, _], _ => rfl), .nil, fun _ => .nil⟩
  have W_look_rows := fun f => wk_look_rows (P := P) (base := base) T (f := f) G_is_word R_BadRow
  have G_look_rows : Dfn P w K mg base 3 "look_rows" 2 [] g_look_rows := ⟨_, fd_look_rows, _, [], [], def_ok F_look_rows sc_look_rows (W_look_rows _), He.glo_ok X G (fact 5 (f := .glo "look_rows") rfl), F_look_rows.kp, F_look_rows.bindsN (fun _ _ _ _ _ _ us hl => match us, hl with | [_, _], _ => rfl), .nil, fun _ => .nil⟩
  have W_look_start := fun f => wk_look_start (P := P) (base := base) T (f := f) G_is_word R_BadStart R_Twice
  have G_look_start : Dfn P w K mg base 3 "look_start" 1 [] g_look_start := ⟨_, fd_look_start, _, [], [], def_ok F_look_start sc_look_start (W_look_start _), He.glo_ok X G (fact 6 (f := .glo "look_start") rfl), F_look_start.kp, F_look_start.bindsN (fun _ _ _ _ _ _ us hl => match us, hl with | [_], _ => rfl), .nil, fun _ => .nil⟩
  have W_Job_init := fun f => wk_Job_init (P := P) (base := base) T (f := f) G_look_rows R_TooMany G_look_start G_is_word R_BadWatch R_BadLapse
  have M_c_Job_init_last_start_watch_lapse : MkD P w K mg base 4 "Job" ["last", "start", "watch", "lapse"] c_Job_init_last_start_watch_lapse := ⟨_, cal_star (ps := ["self", "last", "start", "watch", "lapse"]) (n := 1) (l := [.inl 0, .inl 1, .inl 2, .inl 3]) (ms := []) F_Job_init sc_Job_init (W_Job_init _) (by simp [He.DefD.kws, d_Job_init]) (fun _ h => nomatch h) (fun _ => .nil) rfl rfl (fun _ _ _ _ _ _ us rest mv ws l1 l2 l3 => match us, rest, mv, ws, l1, l2, l3 with | [_], [], [], [_, _, _, _], _, _, _ => rfl | [_], _ :: _, [], [_, _, _, _], _, _, _ => rfl), He.glo_ok X G (fact 7 (f := .glo "Job") rfl), He.mkr_ok (fact 10 (f := .mkr "Job") rfl)⟩
  have M_c_Job_init_p : MkD P w K mg base 4 "Job" [] c_Job_init_p := ⟨_, cal_star (ps := ["self", "last", "start", "watch", "lapse"]) (n := 1) (l := [.inr 0, .inr 1, .inr 2, .inr 3]) (ms := [("last", .ref (kwAt ("Job", some "__init__") "last" K)), ("start", .ref (kwAt ("Job", some "__init__") "start" K)), ("watch", .non), ("lapse", .non)]) F_Job_init sc_Job_init (W_Job_init _) (by simp [He.DefD.kws, d_Job_init]) (by intro q hq; simp only [List.mem_cons, List.not_mem_nil, or_false] at hq; rcases hq with rfl | rfl | rfl | rfl <;> simp [He.DefD.kws, d_Job_init, He.Dv.v]) (fun _ => (.cons (nilB_ok (He.ba (He.ba (He.ba (He.ba (He.ba (He.ba (He.ba (He.ba (He.ba (He.ba (He.ba (He.ba (He.ba (He.ba (He.ba (He.ba (He.ba (He.ba (He.ba (He.ba (He.ba (He.ba (He.ba (He.ba (He.ba (He.ba cb).2).2).2).2).2).2).2).2).2).2).2).2).2).2).2).2).2).2).2).2).2).2).2).2).2).1 _) (.cons (nilB_ok (He.ba (He.ba (He.ba (He.ba (He.ba (He.ba (He.ba (He.ba (He.ba (He.ba (He.ba (He.ba (He.ba (He.ba (He.ba (He.ba (He.ba (He.ba (He.ba (He.ba (He.ba (He.ba (He.ba (He.ba (He.ba (He.ba (He.ba cb).2).2).2).2).2).2).2).2).2).2).2).2).2).2).2).2).2).2).2).2).2).2).2).2).2).2).1 _) (.cons .non (.cons .non .nil))))) rfl rfl (fun _ _ _ _ _ _ us rest mv ws l1 l2 l3 => match us, rest, mv, ws, l1, l2, l3 with | [_], [], [_, _, _, _], [], _, _, _ => ⟨_, _, _, _, _, _, rfl, rfl, _, _, _, _, _, _, rfl, rfl, _, _, _, _, _, _, rfl, rfl, _, _, _, _, _, _, rfl, rfl, rfl⟩ | [_], _ :: _, [_, _, _, _], [], _, _, _ => ⟨_, _, _, _, _, _, rfl, rfl, _, _, _, _, _, _, rfl, rfl, _, _, _, _, _, _, rfl, rfl, _, _, _, _, _, _, rfl, rfl, rfl⟩), He.glo_ok X G (fact 7 (f := .glo "Job") rfl), He.mkr_ok (fact 10 (f := .mkr "Job") rfl)⟩
  have W_Job_changed := fun f => wk_Job_changed (P := P) (base := base) T (f := f) R_BadPart M_c_Job_init_last_start_watch_lapse
  have T_c_Job_changed_rows_last_start_watch_lapse : MetD P w K mg base 6 "Job" "changed" ["rows", "last", "start", "watch", "lapse"] c_Job_changed_rows_last_start_watch_lapse := ⟨_, cal_dict (ps := ["self"]) F_Job_changed sc_Job_changed (W_Job_changed _) (by decide) (by decide) rfl (fun _ _ _ _ _ _ us ws l1 l2 => match us, ws, l1, l2 with | [_], [_, _, _, _, _], _, _ => rfl), He.cls_ok (fact 8 (f := .cls "Job") rfl), He.meth_ok (fact 11 (f := .meth "Job" "changed") rfl)⟩
  have W__law_job := fun f => wk__law_job (P := P) (base := base) T (f := f) M_c_Job_init_p T_c_Job_changed_rows_last_start_watch_lapse
  have G__law_job : Dfn P w K mg base 7 "_law_job" 1 [] g__law_job := ⟨_, fd__law_job, _, [], [], def_ok F__law_job sc__law_job (W__law_job _), He.glo_ok X G (fact 12 (f := .glo "_law_job") rfl), F__law_job.kp, F__law_job.bindsN (fun _ _ _ _ _ _ us hl => match us, hl with | [_], _ => rfl), .nil, fun _ => .nil⟩
  have W__law_token := fun f => wk__law_token (P := P) (base := base) T (f := f) G__law_of G__law_take
  have G__law_token : Dfn P w K mg base 3 "_law_token" 2 [] g__law_token := ⟨_, fd__law_token, _, [], [], def_ok F__law_token sc__law_token (W__law_token _), He.glo_ok X G (fact 13 (f := .glo "_law_token") rfl), F__law_token.kp, F__law_token.bindsN (fun _ _ _ _ _ _ us hl => match us, hl with | [_, _], _ => rfl), .nil, fun _ => .nil⟩
  have W__law_standing := fun f => wk__law_standing (P := P) (base := base) T (f := f) G__law_take G__law_token G__law_of
  have G__law_standing : Dfn P w K mg base 4 "_law_standing" 3 [] g__law_standing := ⟨_, fd__law_standing, _, [], [], def_ok F__law_standing sc__law_standing (W__law_standing _), He.glo_ok X G (fact 14 (f := .glo "_law_standing") rfl), F__law_standing.kp, F__law_standing.bindsN (fun _ _ _ _ _ _ us hl => match us, hl with | [_, _, _], _ => rfl), .nil, fun _ => .nil⟩
  have W_show_standing := fun f => wk_show_standing (P := P) (base := base) T (f := f) 
  have G_show_standing : Dfn P w K mg base 1 "show_standing" 1 [] g_show_standing := ⟨_, fd_show_standing, _, [], [], def_ok F_show_standing sc_show_standing (W_show_standing _), He.glo_ok X G (fact 15 (f := .glo "show_standing") rfl), F_show_standing.kp, F_show_standing.bindsN (fun _ _ _ _ _ _ us hl => match us, hl with | [_], _ => rfl), .nil, fun _ => .nil⟩
  have W_read_token := fun f => wk_read_token (P := P) (base := base) T (f := f) 
  have G_read_token : Dfn P w K mg base 1 "read_token" 1 [] g_read_token := ⟨_, fd_read_token, _, [], [], def_ok F_read_token sc_read_token (W_read_token _), He.glo_ok X G (fact 16 (f := .glo "read_token") rfl), F_read_token.kp, F_read_token.bindsN (fun _ _ _ _ _ _ us hl => match us, hl with | [_], _ => rfl), .nil, fun _ => .nil⟩
  have W_is_token := fun f => wk_is_token (P := P) (base := base) T (f := f) 
  have G_is_token : Dfn P w K mg base 1 "is_token" 2 [] g_is_token := ⟨_, fd_is_token, _, [], [], def_ok F_is_token sc_is_token (W_is_token _), He.glo_ok X G (fact 17 (f := .glo "is_token") rfl), F_is_token.kp, F_is_token.bindsN (fun _ _ _ _ _ _ us hl => match us, hl with | [_, _], _ => rfl), .nil, fun _ => .nil⟩
  have W_is_standing := fun f => wk_is_standing (P := P) (base := base) T (f := f) G_is_token
  have G_is_standing : Dfn P w K mg base 2 "is_standing" 2 [] g_is_standing := ⟨_, fd_is_standing, _, [], [], def_ok F_is_standing sc_is_standing (W_is_standing _), He.glo_ok X G (fact 18 (f := .glo "is_standing") rfl), F_is_standing.kp, F_is_standing.bindsN (fun _ _ _ _ _ _ us hl => match us, hl with | [_, _], _ => rfl), .nil, fun _ => .nil⟩
  have W_read_standing := fun f => wk_read_standing (P := P) (base := base) T (f := f) R_BadText G_read_token G_is_standing
  have G_read_standing : Dfn P w K mg base 3 "read_standing" 2 [] g_read_standing := ⟨_, fd_read_standing, _, [], [], def_ok F_read_standing sc_read_standing (W_read_standing _), He.glo_ok X G (fact 19 (f := .glo "read_standing") rfl), F_read_standing.kp, F_read_standing.bindsN (fun _ _ _ _ _ _ us hl => match us, hl with | [_, _], _ => rfl), .nil, fun _ => .nil⟩
  have W_law := fun f => wk_law (P := P) (base := base) T (f := f) G__law_bag G__law_parts G__law_job G__law_standing G_show_standing G_read_standing
  exact def_ok F_law sc_law (W_law _)
end K08

end

section
set_option Elab.async false
set_option linter.all false
set_option maxRecDepth 100000
set_option maxHeartbeats 2000000
/-! DTx: texts split and cut. -/
namespace DL
open PySem L2 TL
theorem split_app {y : Str} {s : Nat} {S : List Nat} (ey : tl y = s :: S) (hk : y.cps.all (· < 256) = true) {a b : Str} (h : s ∉ tl a) : Txt.split (a ++ y ++ b) y = a :: Txt.split b y := by
  refine map_tl_inj ?_
  rw [split_spl _ y (by rw [ey]; simp) (kind_ok hk), List.map_cons, split_spl _ y (by rw [ey]; simp) (kind_ok hk), tl_append, tl_append, List.append_assoc, ey, spl_part1 h, List.nil_append]
theorem split_none {y : Str} {s : Nat} {S : List Nat} (ey : tl y = s :: S) (hk : y.cps.all (· < 256) = true) {a : Str} (h : s ∉ tl a) : Txt.split a y = [a] := by
  refine map_tl_inj ?_
  rw [split_spl _ y (by rw [ey]; simp) (kind_ok hk), ey, spl_last1 h, List.nil_append, List.map_cons, List.map_nil]
/-- a text at its first s -/
theorem first_of (s : Nat) : ∀ l : List Nat, s ∉ l ∨ ∃ a b, l = a ++ s :: b ∧ s ∉ a
  | [] => .inl (by simp)
  | c :: r => by
    by_cases h : c = s
    · exact .inr ⟨[], r, by rw [h]; rfl, by simp⟩
    · rcases first_of s r with q | ⟨a, b, e, q⟩
      · exact .inl (by simp [q, Ne.symm h])
      · exact .inr ⟨c :: a, b, by rw [e]; rfl, by simp [q, Ne.symm h]⟩
theorem text_first (s : Nat) (x : Str) : s ∉ tl x ∨ ∃ a b : Str, x = a ++ (⟨#[s]⟩ : Str) ++ b ∧ s ∉ tl a := by
  rcases first_of s (tl x) with h | ⟨a, b, e, h⟩
  · exact .inl h
  · refine .inr ⟨⟨a.toArray⟩, ⟨b.toArray⟩, ext_tl ?_, h⟩
    rw [e, tl_append, tl_append]
    simp [tl]
def sumL (ls : List (List Nat)) : Nat := (ls.map List.length).sum
theorem spl_sum (S : List Nat) : ∀ (l : List Nat) (k : Nat) (acc : List Nat), sumL (spl S k acc l) ≤ acc.length + l.length ∧ (spl S k acc l).length ≤ l.length + 1
  | [], k, acc => by rw [spl_nil]; simp [sumL]
  | c :: r, 0, acc => by
    cases h : pre S (c :: r) with
    | true =>
      rw [spl_hit h]
      have := spl_sum S r (S.length - 1) []
      simp [sumL] at this ⊢
      omega
    | false =>
      rw [spl_miss h]
      have := spl_sum S r 0 (acc ++ [c])
      simp [sumL] at this ⊢
      omega
  | c :: r, k + 1, acc => by
    have := spl_sum S r k acc
    show sumL (spl S k acc r) ≤ _ ∧ (spl S k acc r).length ≤ _
    simp [sumL] at this ⊢
    omega
theorem split_sum {x y : Str} (hy : tl y ≠ []) (hk : y.cps.all (· < 256) = true) : ((Txt.split x y).map (·.length)).sum ≤ x.length ∧ (Txt.split x y).length ≤ x.length + 1 := by
  have h := spl_sum (tl y) (tl x) 0 []
  rw [← split_spl x y hy (kind_ok hk)] at h
  have e : (Txt.split x y).map (·.length) = ((Txt.split x y).map tl).map List.length := by
    rw [List.map_map]
    exact List.map_congr_left fun z _ => len_tl z
  rw [e, len_tl x]
  simp [sumL] at h ⊢
  exact h
end DL

end

section
set_option Elab.async false
set_option linter.all false
set_option maxRecDepth 100000
set_option maxHeartbeats 2000000
/-! LQ: the bags of the laws, and what is drawn out of them. -/
namespace LP
open PySem L2 DL
def BagOk (b0 b1 : Int) : Prop := 0 ≤ b0 ∧ 0 ≤ b1 ∧ b1 < 1099511627776
theorem take_ok {b0 b1 m : Int} (h : BagOk b0 b1) (hm : 0 < m) (hm2 : m < 1073741824) : ∃ e b0' b1' r, g__law_take [.rf (.lst [.int b0, .int b1]), .sh (.int m)] = .ok (.rf (.lst [.int b0', .int b1']) :: e) (.sh (.int r)) ∧ BagOk b0' b1' ∧ 0 ≤ r ∧ r < m := by
  obtain ⟨h0, h1, h2⟩ := h
  by_cases hb : 0 < b0
  · refine ⟨[.sh (.int m), .sh (.int (b0 % m))], b0 / m, b1, b0 % m, ?_, ⟨Int.ediv_nonneg h0 (by omega), h1, h2⟩, Int.emod_nonneg _ (by omega), Int.emod_lt_of_pos _ hm⟩
    simp [g__law_take, gOf, f__law_take, fSeq, fIfS, fTest, f2, fIxO, fVar, fC, fN, fCons, fNil, ob?, dGt, dI0, atI, ixN, lift, Rs.bind, hb, hm, hm2, dMod, dDiv, dI, fSet, put, free, gInt, fSetIx, putOb, reob, fRet]
  · refine ⟨[.sh (.int m), .un], b0, (b1 * 48271 + 12820163) % 2147483587, ((b1 * 48271 + 12820163) % 2147483587 / 17 * 69697) % 2147483489 / 32 % m, ?_, ⟨h0, Int.emod_nonneg _ (by decide), Int.lt_trans (Int.emod_lt_of_pos _ (by decide)) (by decide)⟩, Int.emod_nonneg _ (by omega), Int.emod_lt_of_pos _ hm⟩
    have pm : ∀ x : Int, pMul x 48271 = true := fun x => decide_eq_true (.inr (by decide))
    have pm2 : ∀ x : Int, pMul x 69697 = true := fun x => decide_eq_true (.inr (by decide))
    simp [g__law_take, gOf, f__law_take, fSeq, fIfS, fTest, f2, fIxO, fVar, fC, fN, fCons, fNil, ob?, dGt, dI0, atI, ixN, lift, Rs.bind, hb, hm, hm2, dMod, dDiv, dI, fSet, put, free, gInt, fSetIx, putOb, reob, fRet, dMul, pm, pm2, dAdd, fsNil]
theorem of_ok {b0 b1 : Int} {ds : List D} (h : BagOk b0 b1) (hd : 0 < ds.length) (hd2 : ds.length ≤ 1000) : ∃ e b0' b1' d, g__law_of [.rf (.lst [.int b0, .int b1]), .sh (.lst ds)] = .ok (.rf (.lst [.int b0', .int b1']) :: e) (.sh d) ∧ BagOk b0' b1' ∧ d ∈ ds := by
  obtain ⟨e, b0', b1', r, h1, h2, h3, h4⟩ := take_ok (m := (ds.length : Int)) h (by omega) (by omega)
  have hr : r.toNat < ds.length := by omega
  refine ⟨[.sh (.lst ds)], b0', b1', ds[r.toNat], ?_, h2, List.getElem_mem _⟩
  have ha : atI ds r = some ds[r.toNat] := by
    simp [atI, ixN, h3, show r < (ds.length : Int) by omega, hr]
  simp [g__law_of, gOf, f__law_of, fRet, f2, fVar, fShR, fCallR, ob?, fCons, fN, fNil, gLen, itemsD, lift, Rs.bind, h1, backR, putOb, reob, dIx, dIxQ, ha, dIxS]
theorem enum_ints {ns : List Int} {l h : Option Int} {j : Nat} {d : D} (e : (enumD 0 (cutD (ns.map D.int) l h))[j]? = some d) : ∃ v, d = .tup [.int (j : Nat), .int v] := by
  obtain ⟨z, h1, h2⟩ := enumD_get e
  have hz : z ∈ ns.map D.int := List.mem_of_mem_drop (List.mem_of_mem_take (List.mem_of_getElem? h1))
  obtain ⟨v, _, rfl⟩ := List.mem_map.mp hz
  exact ⟨v, by rw [h2, Nat.zero_add]⟩
theorem bag_ok (ns : List Int) {a : Int} (h0 : 0 ≤ a) (ha : a < 1000) : ∃ e b0 b1, g__law_bag [.sh (.fz (ns.map .int)), .sh (.int a)] = .ok e (.fr [.int b0, .int b1]) ∧ BagOk b0 b1 := by
  have hnum : ∃ n : Int, fIf (fTest (f2 dLt (fVar 1) (fN gLen (fCons (fVar 0) fNil)))) (f2 dIx (fVar 0) (fVar 1)) (fC (.int 0)) [.sh (.fz (ns.map .int)), .sh (.int a), .un, .un, .un, .un] = .ok [.sh (.fz (ns.map .int)), .sh (.int a), .un, .un, .un, .un] (.int n) := by
    by_cases hl : a < (ns.length : Int)
    · refine ⟨ns[a.toNat]'(by omega), ?_⟩
      have ha : atI (ns.map D.int) a = some (.int (ns[a.toNat]'(by omega))) := by
        simp [atI, ixN, h0, hl, show a.toNat < ns.length by omega]
      simp [fIf, fTest, f2, fVar, fN, fCons, fNil, gLen, itemsD, lift, Rs.bind, dLt, dI0, hl, dIx, dIxQ, ha, dIxS]
    · refine ⟨0, ?_⟩
      simp [fIf, fTest, f2, fVar, fN, fCons, fNil, gLen, itemsD, lift, Rs.bind, dLt, dI0, hl, fC]
  obtain ⟨n, hnum⟩ := hnum
  have pm : ∀ x y : Int, (-(2 ^ 64) < x ∧ x < 2 ^ 64) → pMul x y = true := fun x y h => decide_eq_true (.inl h)
  -- the loop
  obtain ⟨e', h1, h2⟩ := loopF_ind (g := gTp (gsCons (gNm 4) (gsCons (gNm 5) gsNil))) (fb := f__law_bag_b1)
    (I := fun _ e => ∃ m s4 s5, e = [.sh (.fz (ns.map .int)), .sh (.int a), .sh (.int n), .sh (.int m), s4, s5] ∧ 0 ≤ m ∧ m < 1099511627776 ∧ (s4 = .un ∨ ∃ d, s4 = .sh d) ∧ (s5 = .un ∨ ∃ d, s5 = .sh d))
    (enumD 0 (cutD (ns.map D.int) none (some 60))) 0 [.sh (.fz (ns.map .int)), .sh (.int a), .sh (.int n), .sh (.int (4099 * a + 31)), .un, .un] ⟨_, _, _, rfl, by omega, by omega, .inl rfl, .inl rfl⟩ (by
      rintro j d e hd ⟨m, s4, s5, rfl, hm0, hm1, h4, h5⟩
      obtain ⟨v, rfl⟩ := enum_ints hd
      have f4 : free (some s4) = true := by rcases h4 with rfl | ⟨_, rfl⟩ <;> rfl
      have f5 : free (some s5) = true := by rcases h5 with rfl | ⟨_, rfl⟩ <;> rfl
      refine ⟨[.sh (.fz (ns.map .int)), .sh (.int a), .sh (.int n), .sh (.int m), .sh (.int (j : Nat)), .sh (.int v)], [.sh (.fz (ns.map .int)), .sh (.int a), .sh (.int n), .sh (.int ((m * 40087 + v % 2147483549 + 211 * (j : Int) + 7) % 2147483647)), .sh (.int (j : Nat)), .sh (.int v)], ?_, .inl ?_, _, _, _, rfl, Int.emod_nonneg _ (by decide), Int.lt_trans (Int.emod_lt_of_pos _ (by decide)) (by decide), .inr ⟨_, rfl⟩, .inr ⟨_, rfl⟩⟩
      · simp [gTp, gsCons, gNm, gsNil, put, f4, f5]
      · simp [f__law_bag_b1, fSet, f2, fVar, fC, fN, fCons, fNil, gInt, lift, Rs.bind, dMul, dI, dMod, dAdd, dI0, put, free, pm m 40087 ⟨by omega, by omega⟩, pm 211 (j : Int) ⟨by decide, by decide⟩])
  obtain ⟨m, s4, s5, rfl, hm0, hm1, _, _⟩ := h2
  have hfin : ∃ b0 : Int, fIf (fTest (f2 dGe (fN gAbs (fCons (fVar 2) fNil)) (f2 dPow (fC (.int 10)) (fC (.int 18))))) (fN gAbs (fCons (fVar 2) fNil)) (fC (.int 0)) [.sh (.fz (ns.map .int)), .sh (.int a), .sh (.int n), .sh (.int m), s4, s5] = .ok [.sh (.fz (ns.map .int)), .sh (.int a), .sh (.int n), .sh (.int m), s4, s5] (.int b0) ∧ 0 ≤ b0 := by
    by_cases hc : (10 : Int) ^ 18 ≤ (if n < 0 then -n else n)
    · refine ⟨if n < 0 then -n else n, ?_, by split <;> omega⟩
      refine (if_t (e := [.sh (.fz (ns.map .int)), .sh (.int a), .sh (.int n), .sh (.int m), s4, s5]) ?_).trans rfl
      show Rs.ok _ (decide _) = _
      rw [decide_eq_true]
      exact hc
    · refine ⟨0, ?_, by omega⟩
      refine (if_f (e := [.sh (.fz (ns.map .int)), .sh (.int a), .sh (.int n), .sh (.int m), s4, s5]) ?_).trans rfl
      show Rs.ok _ (decide _) = _
      rw [decide_eq_false]
      exact hc
  obtain ⟨b0, hfin, hb0⟩ := hfin
  have hrun : f__law_bag ([.sh (.fz (ns.map .int)), .sh (.int a)] ++ List.replicate 4 .un) = .ok [.sh (.fz (ns.map .int)), .sh (.int a), .sh (.int n), .sh (.int m), s4, s5] (.rt (.fr [.int b0, .int m])) := by
    unfold f__law_bag
    refine (seq_nx (set_ok hnum rfl)).trans ?_
    refine (seq_nx (e := [.sh (.fz (ns.map .int)), .sh (.int a), .sh (.int n), .sh (.int (4099 * a + 31)), .un, .un]) ?_).trans ?_
    · simp [fSet, f2, fVar, fC, lift, Rs.bind, dMul, dI, dAdd, dI0, put, free, pm 4099 a ⟨by decide, by decide⟩]
    refine (seq_nx ((for_ok (e := [.sh (.fz (ns.map .int)), .sh (.int a), .sh (.int n), .sh (.int (4099 * a + 31)), .un, .un]) (ds := enumD 0 (cutD (ns.map D.int) none (some 60))) rfl).trans h1)).trans ?_
    simp only [fLst, fCons, hfin]
    rfl
  exact ⟨_, b0, m, gOf_rt hrun, hb0, hm0, hm1⟩
/-! ### comprehensions that draw -/
theorem loopC_draw {vs : List Nat} {g : D → Ev → Option Ev} {fe : Ev → Rs D} {I : Ev → Prop} {Pd : D → Prop} (h : ∀ d e, I e → ∃ e1 e2 x, g d e = some e1 ∧ fe e1 = .ok e2 x ∧ Pd x ∧ I (wipeE e2 vs)) : ∀ (ds acc : List D) (e : Ev), acc.length + ds.length ≤ 1000 → I e →
    ∃ e' xs, loopC vs g fYes fe ds acc e = some (e', acc ++ xs) ∧ xs.length = ds.length ∧ (∀ x ∈ xs, Pd x) ∧ I e'
  | [], acc, e, _, i => ⟨e, [], by simp [loopC], rfl, fun _ z => (nomatch z), i⟩
  | d :: r, acc, e, hl, i => by
    obtain ⟨e1, e2, x, h1, h2, h3, h4⟩ := h d e i
    have hs : small acc.length = true := Nat.ble_eq_true_of_le (by simp at hl; omega)
    obtain ⟨e', xs, q1, q2, q3, q4⟩ := loopC_draw h r (acc ++ [x]) _ (by simp at hl ⊢; omega) h4
    refine ⟨e', x :: xs, ?_, by simp [q2], fun y hy => ?_, q4⟩
    · have : stepC vs g fYes fe d acc e = some (wipeE e2 vs, acc ++ [x]) := by
        unfold stepC
        simp only [h1, fYes, h2, if_pos hs]
      unfold loopC
      rw [this]
      dsimp only
      rw [q1, List.append_assoc]
      rfl
    · rcases List.mem_cons.mp hy with rfl | hy
      · exact h3
      · exact q3 y hy
theorem rangeD_len (lo : Int) (n : Nat) : (rangeD lo n).length = n := by simp [rangeD]
end LP

end

section
set_option Elab.async false
set_option linter.all false
set_option maxRecDepth 100000
set_option maxHeartbeats 2000000
/-! LR: the parts of a job, drawn. -/
namespace LP
open PySem L2 DL
theorem callR_to {g : List Sl → Rs Dr} {dv ds : List D} {fa : Ev → Rs (List D)} {env e e' e2 : Ev} {o0 o o' : Ob} {i n : Nat} {r : Dr} (ho0 : ob? env[i]? = some o0) (ha : fa env = .ok e ds) (hn : Nat.beq ((ds ++ dv).length + 1) n = true) (ho : ob? e[i]? = some o) (hg : g (.rf o :: (ds ++ dv).map .sh) = .ok (.rf o' :: e') r) (he : putOb e i o' = e2) : fCallR i n g dv fa env = .ok e2 r := by
  rw [← he]; exact callR_ok ho0 ha hn ho hg
abbrev bagO (b0 b1 : Int) : Ob := .lst [.int b0, .int b1]
abbrev words10 : List D := [.str "check", .str "clear", .str "confirm", .str "free", .str "hold", .str "look", .str "next", .str "once", .str "put", .str "work"]
abbrev words9 : List D := [.str "check", .str "clear", .str "confirm", .str "free", .str "hold", .str "look", .str "next", .str "once", .str "put"]
abbrev starts5 : List D := [.lst [], .lst [], .lst [.str "once"], .lst [.str "raise"], .lst [.str "once", .str "raise"]]
abbrev eyes6 : List D := [.non, .non, .str "always", .str "nothing", .str "present", .str "waiting"]
abbrev ages4 : List D := [.non, .non, .str "any", .str "lost"]
/-- right parts of a job with at most n rows -/
structure Parts (n : Nat) (rows last start : List D) (w l : D) : Prop where
  r1 : 1 ≤ rows.length
  r2 : rows.length ≤ n
  rw : ∀ x ∈ rows, x ∈ words10
  l1 : last.length ≤ 3
  lw : ∀ x ∈ last, x ∈ words9
  st : D.lst start ∈ starts5
  wa : w ∈ eyes6
  la : l ∈ ages4
theorem parts_ok {b0 b1 : Int} (h : BagOk b0 b1) {n : Nat} (h1 : 1 ≤ n) (h2 : n ≤ 100) : ∃ e b0' b1' rows last start w l, g__law_parts [.rf (bagO b0 b1), .sh (.int n)] = .ok (.rf (bagO b0' b1') :: e) (.sh (.lst [.lst rows, .lst last, .lst start, w, l])) ∧ BagOk b0' b1' ∧ Parts n rows last start w l := by
  -- the first comprehension
  obtain ⟨et, c0, c1, r, ht, hb, hr0, hr1⟩ := take_ok (m := (n : Int)) h (by omega) (by omega)
  have i1 : fiR1 (fCons (f2 dAdd (fC (.int 1)) (fShR (fCallR 0 2 g__law_take [] (fCons (fVar 1) fNil)))) fNil) [.rf (bagO b0 b1), .sh (.int n), .sh (.lst words10), .un, .un, .un, .un, .un] = .ok [.rf (bagO c0 c1), .sh (.int n), .sh (.lst words10), .un, .un, .un, .un, .un] (rangeD 0 (1 + r).toNat) :=
    rg1_ok (cons_ok (two_ok rfl (shR_sh (callR_to rfl rfl rfl rfl ht rfl)) rfl) rfl) (okR_small (by omega) (by omega))
  obtain ⟨e2, rows, l1, l2, l3, d0, d1, hd, rfl⟩ := loopC_draw (vs := [7]) (g := gNm 7) (fe := f__law_parts_e1) (I := fun e => ∃ d0 d1, BagOk d0 d1 ∧ e = [.rf (bagO d0 d1), .sh (.int n), .sh (.lst words10), .un, .un, .un, .un, .un]) (Pd := fun x => x ∈ words10) (by
      rintro d e ⟨d0, d1, hd, rfl⟩
      obtain ⟨ee, f0, f1, x, hx, hf, hm⟩ := of_ok (ds := words10) hd (by decide) (by decide)
      exact ⟨[.rf (bagO d0 d1), .sh (.int n), .sh (.lst words10), .un, .un, .un, .un, .sh d], [.rf (bagO f0 f1), .sh (.int n), .sh (.lst words10), .un, .un, .un, .un, .sh d], x, rfl, shR_sh (callR_to rfl rfl rfl rfl hx rfl), hm, f0, f1, hf, rfl⟩)
    (rangeD 0 (1 + r).toNat) [] [.rf (bagO c0 c1), .sh (.int n), .sh (.lst words10), .un, .un, .un, .un, .un] (by simp [rangeD]; omega) ⟨c0, c1, hb, rfl⟩
  rw [rangeD_len] at l2
  rw [List.nil_append] at l1
  -- the second one
  obtain ⟨eo, g0, g1, y, ho, hg, hy⟩ := of_ok (ds := [.int 0, .int 0, .int 1, .int 2, .int 3]) hd (by decide) (by decide)
  obtain ⟨k, rfl, hk⟩ : ∃ k : Nat, y = .int k ∧ k ≤ 3 := by
    simp only [List.mem_cons, List.not_mem_nil, or_false] at hy
    rcases hy with rfl | rfl | rfl | rfl | rfl
    · exact ⟨0, rfl, by omega⟩
    · exact ⟨0, rfl, by omega⟩
    · exact ⟨1, rfl, by omega⟩
    · exact ⟨2, rfl, by omega⟩
    · exact ⟨3, rfl, by omega⟩
  have i2 : fiR1 (fCons (fShR (fCallR 0 2 g__law_of [] (fCons (fN gLst (fCons (fC (.int 0)) (fCons (fC (.int 0)) (fCons (fC (.int 1)) (fCons (fC (.int 2)) (fCons (fC (.int 3)) fNil)))))) fNil))) fNil) [.rf (bagO d0 d1), .sh (.int n), .sh (.lst words10), .sh (.lst rows), .un, .un, .un, .un] = .ok [.rf (bagO g0 g1), .sh (.int n), .sh (.lst words10), .sh (.lst rows), .un, .un, .un, .un] (rangeD 0 (k : Int).toNat) :=
    rg1_ok (cons_ok (shR_sh (callR_to rfl rfl rfl rfl ho rfl)) rfl) (okR_small (by omega) (by omega))
  obtain ⟨e4, last, m1, m2, m3, p0, p1, hp, rfl⟩ := loopC_draw (vs := [7]) (g := gNm 7) (fe := f__law_parts_e2) (I := fun e => ∃ d0 d1, BagOk d0 d1 ∧ e = [.rf (bagO d0 d1), .sh (.int n), .sh (.lst words10), .sh (.lst rows), .un, .un, .un, .un]) (Pd := fun x => x ∈ words9) (by
      rintro d e ⟨d0, d1, hd, rfl⟩
      obtain ⟨ee, f0, f1, x, hx, hf, hm⟩ := of_ok (ds := words9) hd (by decide) (by decide)
      exact ⟨[.rf (bagO d0 d1), .sh (.int n), .sh (.lst words10), .sh (.lst rows), .un, .un, .un, .sh d], [.rf (bagO f0 f1), .sh (.int n), .sh (.lst words10), .sh (.lst rows), .un, .un, .un, .sh d], x, rfl, shR_sh (callR_to rfl rfl rfl rfl hx rfl), hm, f0, f1, hf, rfl⟩)
    (rangeD 0 (k : Int).toNat) [] [.rf (bagO g0 g1), .sh (.int n), .sh (.lst words10), .sh (.lst rows), .un, .un, .un, .un] (by simp [rangeD]; omega) ⟨g0, g1, hg, rfl⟩
  rw [rangeD_len] at m2
  rw [List.nil_append] at m1
  obtain ⟨ea, q0, q1, st, hst, hq, hs⟩ := of_ok (ds := starts5) hp (by decide) (by decide)
  obtain ⟨eb, s0, s1, w, hw, hs', hwm⟩ := of_ok (ds := eyes6) hq (by decide) (by decide)
  obtain ⟨ec, t0, t1, l, hl, ht', hlm⟩ := of_ok (ds := ages4) hs' (by decide) (by decide)
  obtain ⟨start, rfl⟩ : ∃ start, st = .lst start := by
    simp only [List.mem_cons, List.not_mem_nil, or_false] at hs
    rcases hs with rfl | rfl | rfl | rfl | rfl <;> exact ⟨_, rfl⟩
  refine ⟨_, t0, t1, rows, last, start, w, l, gOf_rt (e := [.rf (bagO t0 t1), .sh (.int n), .sh (.lst words10), .sh (.lst rows), .sh (.lst last), .sh (.lst start), .sh w, .un]) ?_, ht', ⟨by omega, by omega, l3, by omega, m3, hs, hwm, hlm⟩⟩
  show f__law_parts [.rf (bagO b0 b1), .sh (.int n), .un, .un, .un, .un, .un, .un] = _
  unfold f__law_parts
  refine (seq_nx (e := [.rf (bagO b0 b1), .sh (.int n), .sh (.lst words10), .un, .un, .un, .un, .un]) rfl).trans ?_
  refine (seq_nx (set_ok (sh_ok (lc_ok i1 rfl l1)) rfl)).trans ?_
  refine (seq_nx (set_ok (sh_ok (lc_ok i2 rfl m1)) rfl)).trans ?_
  refine (seq_nx (set_ok (e := [.rf (bagO q0 q1), .sh (.int n), .sh (.lst words10), .sh (.lst rows), .sh (.lst last), .un, .un, .un]) (shR_sh (callR_to rfl rfl rfl rfl hst rfl)) rfl)).trans ?_
  refine (seq_nx (set_ok (e := [.rf (bagO s0 s1), .sh (.int n), .sh (.lst words10), .sh (.lst rows), .sh (.lst last), .sh (.lst start), .un, .un]) (shR_sh (callR_to rfl rfl rfl rfl hw rfl)) rfl)).trans ?_
  exact ret_ok (N_ok (cons_ok rfl (cons_ok rfl (cons_ok rfl (cons_ok rfl (cons_ok (shR_sh (callR_to rfl rfl rfl rfl hl rfl)) rfl))))) rfl)
end LP

end

section
set_option Elab.async false
set_option linter.all false
set_option maxRecDepth 100000
set_option maxHeartbeats 2000000
/-! LS: the job that is made of right parts. -/
namespace LP
open PySem L2 DL
theorem gOf_nx {m : Nat} {f : Ev → Rs Fl} {e : Ev} {as : List Sl} (h : f (as ++ List.replicate (m - as.length) .un) = .ok e .nx) : gOf m f as = .ok e (.sh .non) := by unfold gOf; rw [h]
def jobD (rows last start : List D) (watch lapse : D) : D := .obj "Job" ["rows", "last", "start", "watch", "lapse", "words"] [.tup rows, .tup last, .tup start, watch, lapse, .tup (rows ++ last)]
theorem word_turn {x R L : D} (h : x ∈ words10) : f_look_rows_b1 [.sh R, .sh L, .sh x] = .ok [.sh R, .sh L, .sh x] .nx := by
  simp only [List.mem_cons, List.not_mem_nil, or_false] at h
  rcases h with rfl | rfl | rfl | rfl | rfl | rfl | rfl | rfl | rfl | rfl <;> kernel_rfl
theorem last_turn {x R L : D} (h : x ∈ words9) : f_look_rows_b2 [.sh R, .sh L, .sh x] = .ok [.sh R, .sh L, .sh x] .nx := by
  simp only [List.mem_cons, List.not_mem_nil, or_false] at h
  rcases h with rfl | rfl | rfl | rfl | rfl | rfl | rfl | rfl | rfl <;> kernel_rfl
/-- a loop over right things, one slot changing -/
theorem loop_turns {fb : Ev → Rs Fl} {R L : D} {ds : List D} (h : ∀ x ∈ ds, fb [.sh R, .sh L, .sh x] = .ok [.sh R, .sh L, .sh x] .nx) {z : Sl} (hz : free (some z) = true) : ∃ z', free (some z') = true ∧ loopF (gNm 2) fb ds [.sh R, .sh L, z] = .ok [.sh R, .sh L, z'] .nx := by
  obtain ⟨e', h1, z', h2, rfl⟩ := loopF_ind (g := gNm 2) (fb := fb) (I := fun _ e => ∃ z', free (some z') = true ∧ e = [.sh R, .sh L, z']) ds 0 [.sh R, .sh L, z] ⟨z, hz, rfl⟩ (by
    rintro j d e hd ⟨z', hf, rfl⟩
    refine ⟨[.sh R, .sh L, .sh d], [.sh R, .sh L, .sh d], ?_, .inl (h d (List.mem_of_getElem? hd)), _, rfl, rfl⟩
    simp [gNm, put, hf])
  exact ⟨z', h2, h1⟩
theorem look_rows_ok {R L : D} {rows last : List D} (hR : itemsD R = some rows) (hL : itemsD L = some last) (ns : ∀ s, R ≠ .str s) (h1 : 1 ≤ rows.length) (hr : ∀ x ∈ rows, x ∈ words10) (hl : ∀ x ∈ last, x ∈ words9) : ∃ e, g_look_rows [.sh R, .sh L] = .ok e (.sh .non) := by
  obtain ⟨z1, f1', l1⟩ := loop_turns (R := R) (L := L) (fb := f_look_rows_b1) (ds := rows) (fun x hx => word_turn (hr x hx)) (z := .un) rfl
  obtain ⟨z2, f2', l2⟩ := loop_turns (R := R) (L := L) (fb := f_look_rows_b2) (ds := last) (fun x hx => last_turn (hl x hx)) (z := z1) f1'
  have glen : gLen [R] = some (.int rows.length) := by
    unfold gLen
    cases R with
    | str s => exact absurd rfl (ns s)
    | _ => simp [hR]
  refine ⟨[.sh R, .sh L, z2], ?_⟩
  have : f_look_rows [.sh R, .sh L, .un] = .ok [.sh R, .sh L, z2] .nx := by
    unfold f_look_rows
    refine (seq_nx ((for_ok (ds := rows) (e := [.sh R, .sh L, .un]) ?_).trans l1)).trans ?_
    · simp [fiQ, fVar, Rs.bind, lift, hR]
    refine (seq_nx ((for_ok (ds := last) (e := [.sh R, .sh L, z1]) ?_).trans l2)).trans ?_
    · simp [fiQ, fVar, Rs.bind, lift, hL]
    refine (ifS_f (e := [.sh R, .sh L, z2]) (test_ok (two_ok (N_ok (cons_ok (var_ok rfl) rfl) glen) rfl ?_))).trans rfl
    show some (D.bl (((rows.length : Int)) == 0)) = _
    have : ((rows.length : Int) == 0) = false := by rw [beq_eq_false_iff_ne]; omega
    rw [this]
  exact gOf_nx (m := 3) (f := f_look_rows) (as := [.sh R, .sh L]) this
/-- the __init__ of Job, given right parts -/
theorem exp_call {n : Nat} {g : List Sl → Rs Dr} {fa : Ev → Rs (List D)} {env e' : Ev} {ds : List D} {d : D} (ha : fa env = .ok env ds) (hn : Nat.beq (ds ++ []).length n = true) (hg : g ((ds ++ []).map .sh) = .ok e' (.sh d)) : fExp (fShR (fCall n g [] fa)) env = .ok env .nx := by
  have := shR_sh (call_ok (dv := []) ha hn hg)
  simp only [fExp, this, Rs.bind]
abbrev nm6 : List Str := ["rows", "last", "start", "watch", "lapse", "words"]
theorem init_ok {L S : D} {rows last start start' : List D} {w l : D} {n : Nat} (hL : itemsD L = some last) (nL : ∀ s, L ≠ .str s) (tL : gTuple [L] = some (.tup last)) (h1 : 1 ≤ rows.length) (h8 : rows.length ≤ 8) (hr : ∀ x ∈ rows, x ∈ words10) (h3 : last.length ≤ 3) (hl : ∀ x ∈ last, x ∈ words9)
    (hs : ∃ e, g_look_start [.sh S] = .ok e (.sh .non)) (ss : gSort [S] = some start') (hw : w ∈ eyes6) (hla : l ∈ ages4) :
    g_Job_init [.rf (.ins "Job" [] []), .sh L, .sh S, .sh w, .sh l, .sh (.tup rows)] = .ok [.rf (.ins "Job" nm6 [.tup rows, .tup last, .tup start', w, l, .tup (rows ++ last)]), .sh L, .sh S, .sh w, .sh l, .sh (.tup rows)] (.sh .non) := by
  obtain ⟨er, hlr⟩ := look_rows_ok (R := .tup rows) (L := L) rfl hL (fun s z => nomatch z) h1 hr hl
  obtain ⟨es, hls⟩ := hs
  refine gOf_nx (m := 6) (f := f_Job_init) (as := [.rf (.ins "Job" [] []), .sh L, .sh S, .sh w, .sh l, .sh (.tup rows)]) ?_
  show f_Job_init [.rf (.ins "Job" [] []), .sh L, .sh S, .sh w, .sh l, .sh (.tup rows)] = _
  unfold f_Job_init
  refine (seq_nx (exp_call (ds := [.tup rows, L]) rfl rfl hlr)).trans ?_
  refine (seq_nx ((ifS_f (e := [.rf (.ins "Job" [] []), .sh L, .sh S, .sh w, .sh l, .sh (.tup rows)]) (test_ok (two_ok (N_ok (cons_ok (var_ok rfl) rfl) rfl) rfl ?_))).trans rfl)).trans ?_
  · show some (D.bl (decide ((8 : Int) < rows.length))) = _
    rw [decide_eq_false (by omega)]
  have glen : gLen [L] = some (.int last.length) := by
    unfold gLen
    cases L with
    | str s => exact absurd rfl (nL s)
    | _ => simp [hL]
  refine (seq_nx ((ifS_f (e := [.rf (.ins "Job" [] []), .sh L, .sh S, .sh w, .sh l, .sh (.tup rows)]) (test_ok (two_ok (N_ok (cons_ok (var_ok rfl) rfl) glen) rfl ?_))).trans rfl)).trans ?_
  · show some (D.bl (decide ((3 : Int) < last.length))) = _
    rw [decide_eq_false (by omega)]
  refine (seq_nx (exp_call (ds := [S]) rfl rfl hls)).trans ?_
  have hwt : ∀ e : Ev, e = [.rf (.ins "Job" [] []), .sh L, .sh S, .sh w, .sh l, .sh (.tup rows)] → fIfS (fAnd (fTest (f2 dNotN (fVar 3) (fC .non))) (fNot (fTest (fShR (fCall 2 g_is_word [] (fCons (fVar 3) (fCons (fCutT (fC (.tup c_WATCHES)) (fP (fC (.int 1))) fNoP) fNil))))))) (fRaise "BadWatch" "watch" (fVar 3)) fsNil e = .ok e .nx := by
    rintro _ rfl
    simp only [List.mem_cons, List.not_mem_nil, or_false] at hw
    rcases hw with rfl | rfl | rfl | rfl | rfl | rfl <;> kernel_rfl
  have hlt : ∀ e : Ev, e = [.rf (.ins "Job" [] []), .sh L, .sh S, .sh w, .sh l, .sh (.tup rows)] → fIfS (fAnd (fTest (f2 dNotN (fVar 4) (fC .non))) (fNot (fTest (fShR (fCall 2 g_is_word [] (fCons (fVar 4) (fCons (fCutT (fC (.tup c_LAPSES)) (fP (fC (.int 1))) fNoP) fNil))))))) (fRaise "BadLapse" "lapse" (fVar 4)) fsNil e = .ok e .nx := by
    rintro _ rfl
    simp only [List.mem_cons, List.not_mem_nil, or_false] at hla
    rcases hla with rfl | rfl | rfl | rfl <;> kernel_rfl
  refine (seq_nx (hwt _ rfl)).trans ?_
  refine (seq_nx (hlt _ rfl)).trans ?_
  refine (seq_nx (e := [.rf (.ins "Job" ["rows"] [.tup rows]), .sh L, .sh S, .sh w, .sh l, .sh (.tup rows)]) rfl).trans ?_
  refine (seq_nx (e := [.rf (.ins "Job" ["rows", "last"] [.tup rows, .tup last]), .sh L, .sh S, .sh w, .sh l, .sh (.tup rows)]) ?_).trans ?_
  · have : fN gTuple (fCons (fVar 1) fNil) [.rf (.ins "Job" ["rows"] [.tup rows]), .sh L, .sh S, .sh w, .sh l, .sh (.tup rows)] = .ok [.rf (.ins "Job" ["rows"] [.tup rows]), .sh L, .sh S, .sh w, .sh l, .sh (.tup rows)] (.tup last) := N_ok (cons_ok (var_ok rfl) rfl) tL
    unfold fSetF
    rw [this]
    rfl
  refine (seq_nx (e := [.rf (.ins "Job" ["rows", "last", "start"] [.tup rows, .tup last, .tup start']), .sh L, .sh S, .sh w, .sh l, .sh (.tup rows)]) ?_).trans ?_
  · have : fN gTuple (fCons (fSh (fNewL gSort (fCons (fVar 2) fNil))) fNil) [.rf (.ins "Job" ["rows", "last"] [.tup rows, .tup last]), .sh L, .sh S, .sh w, .sh l, .sh (.tup rows)] = .ok [.rf (.ins "Job" ["rows", "last"] [.tup rows, .tup last]), .sh L, .sh S, .sh w, .sh l, .sh (.tup rows)] (.tup start') := by
      refine N_ok (cons_ok (sh_ok (ds := start') ?_) rfl) rfl
      unfold fNewL fCons fNil fVar
      simp only [Rs.bind, List.getElem?_cons_succ, List.getElem?_cons_zero, ss]
      rfl
    unfold fSetF
    rw [this]
    rfl
  refine (seq_nx (e := [.rf (.ins "Job" ["rows", "last", "start", "watch"] [.tup rows, .tup last, .tup start', w]), .sh L, .sh S, .sh w, .sh l, .sh (.tup rows)]) rfl).trans ?_
  refine (seq_nx (e := [.rf (.ins "Job" ["rows", "last", "start", "watch", "lapse"] [.tup rows, .tup last, .tup start', w, l]), .sh L, .sh S, .sh w, .sh l, .sh (.tup rows)]) rfl).trans ?_
  have hadd : dAdd (.tup rows) (.tup last) = some (.tup (rows ++ last)) := by
    have hne : rows.isEmpty = false := by cases rows with
      | nil => simp at h1
      | cons _ _ => rfl
    have hsm : small (rows.length + last.length) = true := Nat.ble_eq_true_of_le (by omega)
    show (none : Option D).or ((none : Option D).or ((none : Option D).or (dAddT (.tup rows) (.tup last)))) = _
    simp [dAddT, hne, hsm]
  unfold fSetF
  have : f2 dAdd (fFldO 0 ["Job"] "rows") (fFldO 0 ["Job"] "last") [.rf (.ins "Job" ["rows", "last", "start", "watch", "lapse"] [.tup rows, .tup last, .tup start', w, l]), .sh L, .sh S, .sh w, .sh l, .sh (.tup rows)] = .ok [.rf (.ins "Job" ["rows", "last", "start", "watch", "lapse"] [.tup rows, .tup last, .tup start', w, l]), .sh L, .sh S, .sh w, .sh l, .sh (.tup rows)] (.tup (rows ++ last)) := two_ok rfl rfl hadd
  rw [this]
  rfl
end LP

end

section
set_option Elab.async false
set_option linter.all false
set_option maxRecDepth 100000
set_option maxHeartbeats 2000000
/-! LT: the law's way to a job. -/
namespace LP
open PySem L2 DL
theorem c_init {rows : List D} {L S w l : D} (h : rows.length ≤ 1000) : c_Job_init_last_start_watch_lapse (.rf (.ins "Job" [] []) :: rows.map .sh) [L, S, w, l] = g_Job_init [.rf (.ins "Job" [] []), .sh L, .sh S, .sh w, .sh l, .sh (.tup rows)] := by
  unfold c_Job_init_last_start_watch_lapse gSt
  have e : shs ((Sl.rf (.ins "Job" [] []) :: rows.map .sh).drop 1) = some rows := shs_map rows
  rw [e]
  dsimp only
  rw [if_pos (by
    simp only [Bool.and_eq_true]
    exact ⟨rfl, Nat.ble_eq_true_of_le h, rfl⟩)]
  rfl
/-- C(*rows, last=.., ..) -/
theorem mk_ok {R L S : D} {rows last start : List D} {w l : D} {env : Ev} {a b c d e : Ev → Rs D} (ha : a env = .ok env R) (hb : b env = .ok env L) (hc : c env = .ok env S) (hd : d env = .ok env w) (he : e env = .ok env l) (hR : itemsD R = some rows) (h : rows.length ≤ 1000)
    (hi : g_Job_init [.rf (.ins "Job" [] []), .sh L, .sh S, .sh w, .sh l, .sh (.tup rows)] = .ok [.rf (.ins "Job" nm6 [.tup rows, .tup last, .tup start, w, l, .tup (rows ++ last)]), .sh L, .sh S, .sh w, .sh l, .sh (.tup rows)] (.sh .non)) :
    fMkA "Job" c_Job_init_last_start_watch_lapse (faSt 4 a (fCons b (fCons c (fCons d (fCons e fNil))))) env = .ok env (jobD rows last start w l) := by
  have hk : fCons b (fCons c (fCons d (fCons e fNil))) env = .ok env [L, S, w, l] := cons_ok hb (cons_ok hc (cons_ok hd (cons_ok he rfl)))
  have hf : faSt 4 a (fCons b (fCons c (fCons d (fCons e fNil)))) env = .ok env (rows, [L, S, w, l]) := by
    unfold faSt
    rw [ha]
    simp only [Rs.bind, hk]
    rw [hR]
    rfl
  unfold fMkA
  rw [hf]
  simp only [Rs.bind]
  rw [c_init h, hi]
  rfl
abbrev keys5 : List Key := [.inr "rows", .inr "last", .inr "start", .inr "watch", .inr "lapse"]
theorem changed_ok {J R L S : D} {rows last start : List D} {w l : D} (hR : itemsD R = some rows) (h : rows.length ≤ 1000) {r0 l0 s0 : List D} {w0 a0 : D}
    (hi : g_Job_init [.rf (.ins "Job" [] []), .sh L, .sh S, .sh w, .sh l, .sh (.tup rows)] = .ok [.rf (.ins "Job" nm6 [.tup rows, .tup last, .tup start, w, l, .tup (rows ++ last)]), .sh L, .sh S, .sh w, .sh l, .sh (.tup rows)] (.sh .non)) :
    ∃ e, c_Job_changed_rows_last_start_watch_lapse [.sh (jobD r0 l0 s0 w0 a0)] [R, L, S, w, l] = .ok e (.sh (jobD rows last start w l)) := by
  refine ⟨[.sh (jobD r0 l0 s0 w0 a0), .sh (.dct keys5 [R, L, S, w, l]), .sh (.lst []), .sh R, .sh L, .sh S, .sh w, .sh l, .un], ?_⟩
  have e1 : c_Job_changed_rows_last_start_watch_lapse [.sh (jobD r0 l0 s0 w0 a0)] [R, L, S, w, l] = gOf 9 f_Job_changed [.sh (jobD r0 l0 s0 w0 a0), .sh (.dct keys5 [R, L, S, w, l])] := by kernel_rfl
  rw [e1]
  refine gOf_rt (as := [.sh (jobD r0 l0 s0 w0 a0), .sh (.dct keys5 [R, L, S, w, l])]) ?_
  have e2 : [.sh (jobD r0 l0 s0 w0 a0), .sh (.dct keys5 [R, L, S, w, l])] ++ List.replicate (9 - [Sl.sh (jobD r0 l0 s0 w0 a0), .sh (.dct keys5 [R, L, S, w, l])].length) Sl.un = [.sh (jobD r0 l0 s0 w0 a0), .sh (.dct keys5 [R, L, S, w, l]), .un, .un, .un, .un, .un, .un, .un] := rfl
  rw [e2]
  unfold f_Job_changed
  refine (seq_nx (e := [.sh (jobD r0 l0 s0 w0 a0), .sh (.dct keys5 [R, L, S, w, l]), .sh (.lst []), .un, .un, .un, .un, .un, .un]) (by kernel_rfl)).trans ?_
  refine (seq_nx (e := [.sh (jobD r0 l0 s0 w0 a0), .sh (.dct keys5 [R, L, S, w, l]), .sh (.lst []), .un, .un, .un, .un, .un, .un]) (by kernel_rfl)).trans ?_
  refine (seq_nx (e := [.sh (jobD r0 l0 s0 w0 a0), .sh (.dct keys5 [R, L, S, w, l]), .sh (.lst []), .sh R, .un, .un, .un, .un, .un]) (by kernel_rfl)).trans ?_
  refine (seq_nx (e := [.sh (jobD r0 l0 s0 w0 a0), .sh (.dct keys5 [R, L, S, w, l]), .sh (.lst []), .sh R, .sh L, .un, .un, .un, .un]) (by kernel_rfl)).trans ?_
  refine (seq_nx (e := [.sh (jobD r0 l0 s0 w0 a0), .sh (.dct keys5 [R, L, S, w, l]), .sh (.lst []), .sh R, .sh L, .sh S, .un, .un, .un]) (by kernel_rfl)).trans ?_
  refine (seq_nx (e := [.sh (jobD r0 l0 s0 w0 a0), .sh (.dct keys5 [R, L, S, w, l]), .sh (.lst []), .sh R, .sh L, .sh S, .sh w, .un, .un]) (by kernel_rfl)).trans ?_
  refine (seq_nx (e := [.sh (jobD r0 l0 s0 w0 a0), .sh (.dct keys5 [R, L, S, w, l]), .sh (.lst []), .sh R, .sh L, .sh S, .sh w, .sh l, .un]) (by kernel_rfl)).trans ?_
  exact ret_ok (mk_ok (var_ok rfl) (var_ok rfl) (var_ok rfl) (var_ok rfl) (var_ok rfl) hR h hi)
theorem met_ok {C m : Str} {g : GA} {fo : Ev → Rs D} {fa : Ev → Rs (List D × List D)} {env e e2 : Ev} {ns : List Str} {ds ps zs : List D} (ho : fo env = .ok e (.obj C ns ds)) (hc : ns.contains m = false) (ha : fa e = .ok e2 (ps, zs)) : fMet C m g fo fa env = back e2 (g ((.obj C ns ds :: ps).map .sh) zs) := by
  unfold fMet
  rw [ho]
  simp only [Rs.bind, hc, beq_self_eq_true, Bool.not_false, Bool.and_self, if_true, ha]
theorem start_ok {start : List D} (h : D.lst start ∈ starts5) : (∃ e, g_look_start [.sh (.lst start)] = .ok e (.sh .non)) ∧ gSort [.lst start] = some start := by
  simp only [List.mem_cons, List.not_mem_nil, or_false, D.lst.injEq] at h
  rcases h with rfl | rfl | rfl | rfl | rfl
  · exact ⟨⟨[.sh (.lst []), .un, .sh (.str "raise")], by kernel_rfl⟩, by kernel_rfl⟩
  · exact ⟨⟨[.sh (.lst []), .un, .sh (.str "raise")], by kernel_rfl⟩, by kernel_rfl⟩
  · exact ⟨⟨[.sh (.lst [.str "once"]), .sh (.str "once"), .sh (.str "raise")], by kernel_rfl⟩, by kernel_rfl⟩
  · exact ⟨⟨[.sh (.lst [.str "raise"]), .sh (.str "raise"), .sh (.str "raise")], by kernel_rfl⟩, by kernel_rfl⟩
  · exact ⟨⟨[.sh (.lst [.str "once", .str "raise"]), .sh (.str "raise"), .sh (.str "raise")], by kernel_rfl⟩, by kernel_rfl⟩
theorem job_ok {n : Nat} {rows last start : List D} {w l : D} (p : Parts n rows last start w l) (hn : n ≤ 8) : ∃ e, g__law_job [.sh (.lst [.lst rows, .lst last, .lst start, w, l])] = .ok e (.sh (jobD rows last start w l)) := by
  obtain ⟨s1, s2⟩ := start_ok p.st
  have hi := init_ok (L := .lst last) (S := .lst start) (start := start) (rows := rows) (n := n) rfl (fun s z => nomatch z) rfl p.r1 (Nat.le_trans p.r2 hn) p.rw p.l1 p.lw s1 s2 p.wa p.la
  obtain ⟨ec, hc⟩ := changed_ok (J := .non) (R := .lst rows) (r0 := [.str "work"]) (l0 := []) (s0 := []) (w0 := .non) (a0 := .non) rfl (by have := p.r2; omega) hi
  refine ⟨[.sh (.lst [.lst rows, .lst last, .lst start, w, l]), .sh (.lst rows), .sh (.lst last), .sh (.lst start), .sh w, .sh l], gOf_rt (m := 6) (f := f__law_job) (as := [.sh (.lst [.lst rows, .lst last, .lst start, w, l])]) ?_⟩
  have e2 : [Sl.sh (.lst [.lst rows, .lst last, .lst start, w, l])] ++ List.replicate (6 - [Sl.sh (.lst [.lst rows, .lst last, .lst start, w, l])].length) Sl.un = [.sh (.lst [.lst rows, .lst last, .lst start, w, l]), .un, .un, .un, .un, .un] := rfl
  rw [e2]
  unfold f__law_job
  refine (seq_nx (e := [.sh (.lst [.lst rows, .lst last, .lst start, w, l]), .sh (.lst rows), .sh (.lst last), .sh (.lst start), .sh w, .sh l]) (by kernel_rfl)).trans ?_
  refine ret_ok (shR_sh ?_)
  have h0 : fMkA "Job" c_Job_init_p (faPl (fCons (fC (.str "work")) fNil)) [.sh (.lst [.lst rows, .lst last, .lst start, w, l]), .sh (.lst rows), .sh (.lst last), .sh (.lst start), .sh w, .sh l] = .ok [.sh (.lst [.lst rows, .lst last, .lst start, w, l]), .sh (.lst rows), .sh (.lst last), .sh (.lst start), .sh w, .sh l] (jobD [.str "work"] [] [] .non .non) := by kernel_rfl
  refine (met_ok (ps := []) (zs := [.lst rows, .lst last, .lst start, w, l]) h0 (by decide) rfl).trans ?_
  have e3 : [.obj "Job" nm6 [.tup [.str "work"], .tup [], .tup [], .non, .non, .tup ([.str "work"] ++ [])]].map Sl.sh = [.sh (jobD [.str "work"] [] [] .non .non)] := rfl
  rw [e3, hc]
  rfl
end LP

end

section
set_option Elab.async false
set_option linter.all false
set_option maxRecDepth 100000
set_option maxHeartbeats 2000000
/-! LU: the outer loop of the laws. -/
namespace LP
open PySem L2 DL
theorem set_to {i : Nat} {fa : Ev → Rs D} {env e e2 : Ev} {d : D} (h : fa env = .ok e d) (hf : free e[i]? = true) (he : e.set i (.sh d) = e2) : fSet i fa env = .ok e2 .nx := by rw [← he]; exact set_ok h hf
theorem setO_to {i : Nat} {fl : Ev → Rs (List D)} {env e e2 : Ev} {ds : List D} (h : fl env = .ok e ds) (hf : free e[i]? = true) (he : e.set i (.ow (.lst ds)) = e2) : fSetO i fl env = .ok e2 .nx := by rw [← he]; exact setO_ok h hf
theorem law_rg {fb : Ev → Rs Fl} {B : Nat} (hB : 1 ≤ B) (hB2 : B ≤ 1000) {I : Ev → Prop} (ns : List Int) (env : Ev) (h0 : env[0]? = some (.sh (.fz (ns.map .int)))) (i0 : I env) (turn : ∀ (a : Nat) (e : Ev), a < B → I e → ∃ e1 e2, gNm 1 (.int a) e = some e1 ∧ fb e1 = .ok e2 .nx ∧ I e2) :
    ∃ e, fSeq (fFor (fiR1 (fCons (fN gMax (fCons (fC (.int 1)) (fCons (fN gMin (fCons (fC (.int B)) (fCons (fN gLen (fCons (fVar 0) fNil)) fNil))) fNil))) fNil)) (gNm 1) fb) (fRet (fC (.bl true))) env = .ok e (.rt (.sh (.bl true))) := by
  obtain ⟨e', h1, h2⟩ := loopF_ind (g := gNm 1) (fb := fb) (I := fun _ e => I e)
    (rangeD 0 (if (if (ns.length : Int) < B then (ns.length : Int) else B) > 1 then (if (ns.length : Int) < B then (ns.length : Int) else B) else 1 : Int).toNat) 0 env i0 (by
    rintro j d e hd i
    have hj : d = .int j ∧ j < B := by
      obtain ⟨hlt, hg⟩ := List.getElem?_eq_some_iff.mp hd
      simp only [rangeD, List.length_map, List.length_range] at hlt
      simp only [rangeD, List.getElem_map, List.getElem_range, Int.zero_add] at hg
      refine ⟨hg.symm, ?_⟩
      omega
    obtain ⟨rfl, hj⟩ := hj
    obtain ⟨e1, e2, q1, q2, q3⟩ := turn j e hj i
    exact ⟨e1, e2, q1, .inl q2, q3⟩)
  refine ⟨e', ?_⟩
  refine (seq_nx ((for_ok (e := env) (rg1_ok (cons_ok (N_ok (cons_ok rfl (cons_ok (N_ok (cons_ok rfl (cons_ok (N_ok (d := .int ns.length) (cons_ok (var_ok h0) rfl) ?_) rfl)) rfl) rfl)) rfl) rfl) ?_)).trans ?_)).trans rfl
  · show some (D.int ((ns.map D.int).length : Nat)) = _
    rw [List.length_map]
  · exact okR_small (by split <;> (try split) <;> omega) (by split <;> (try split) <;> omega)
  · exact h1
/-- bag, parts, job: the beginning of a turn -/
theorem pre_job {gB gP gJ : List Sl → Rs Dr} {rs : Ev → Rs Fl} {S A P J : D} {b0 b1 c0 c1 m : Int} {eb ep ej e2 zs : Ev} {z2 z3 z4 : Sl} (hb : gB [.sh S, .sh A] = .ok eb (.fr [.int b0, .int b1])) (hp : gP [.rf (bagO b0 b1), .sh (.int m)] = .ok (.rf (bagO c0 c1) :: ep) (.sh P)) (hj : gJ [.sh P] = .ok ej (.sh J))
    (f2 : free (some z2) = true) (f3 : free (some z3) = true) (f4 : free (some z4) = true) (hrs : rs (.sh S :: .sh A :: .ow (bagO c0 c1) :: .sh P :: .sh J :: zs) = .ok e2 .nx) :
    fSeq (fSetO 2 (fFrR (fCall 2 gB [] (fCons (fVar 0) (fCons (fVar 1) fNil))))) (fSeq (fSet 3 (fShR (fCallR 2 2 gP [] (fCons (fC (.int m)) fNil)))) (fSeq (fSet 4 (fShR (fCall 1 gJ [] (fCons (fVar 3) fNil)))) rs)) (.sh S :: .sh A :: z2 :: z3 :: z4 :: zs) = .ok e2 .nx := by
  refine (seq_nx (e := .sh S :: .sh A :: .ow (bagO b0 b1) :: z3 :: z4 :: zs) (setO_to (frR_fr (call_ok (ds := [S, A]) rfl rfl hb)) f2 rfl)).trans ?_
  refine (seq_nx (e := .sh S :: .sh A :: .ow (bagO c0 c1) :: .sh P :: z4 :: zs) (set_to (shR_sh (callR_to (e2 := .sh S :: .sh A :: .ow (bagO c0 c1) :: z3 :: z4 :: zs) rfl rfl rfl rfl hp rfl)) f3 rfl)).trans ?_
  exact (seq_nx (e := .sh S :: .sh A :: .ow (bagO c0 c1) :: .sh P :: .sh J :: zs) (set_to (shR_sh (call_ok (ds := [P]) rfl rfl hj)) f4 rfl)).trans hrs
end LP

end

section
set_option Elab.async false
set_option linter.all false
set_option maxRecDepth 100000
set_option maxHeartbeats 2000000
/-! LV: tokens, sorted. -/
namespace LP
open PySem L2 DL
theorem isort_self {α : Type} {le : α → α → Bool} : ∀ {l : List α}, l.Pairwise (fun a b => le a b = true) → isort le l = l
  | [], _ => rfl
  | x :: r, h => by
    obtain ⟨h1, h2⟩ := List.pairwise_cons.mp h
    show insB le x (isort le r) = _
    rw [isort_self h2]
    cases r with
    | nil => rfl
    | cons y r => simp [insB, h1 y List.mem_cons_self]
/-- a token's data -/
def tokD (p : Int) (f : Str) : D := .tup [.int p, .str f]
def IsTok (d : D) : Prop := ∃ p f, d = tokD p f
theorem tok_toPy (p : Int) (f : Str) : toPy (tokD p f) = some (.tuple [.int p, .str f]) := rfl
theorem tok_alike {a b : D} (ha : IsTok a) (hb : IsTok b) : PySem.W.alike (encD a) (encD b) = true := by
  obtain ⟨p, f, rfl⟩ := ha
  obtain ⟨q, g, rfl⟩ := hb
  rfl
theorem toks_toPy : ∀ {ts : List D}, (∀ d ∈ ts, IsTok d) → toPyA ts = some (ts.map encD)
  | [], _ => rfl
  | t :: r, h => by
    obtain ⟨p, f, rfl⟩ := h t List.mem_cons_self
    have := toks_toPy (ts := r) fun d hd => h d (List.mem_cons_of_mem _ hd)
    simp [toPyA, this, tok_toPy, encD]
theorem toks_ok {ts : List D} (h : ∀ d ∈ ts, IsTok d) (hl : ts.length ≤ 1000) : okSort (ts.map encD) = true := by
  have e1 : ∀ q ∈ ts.map encD, ∃ p f, q = .tuple [.int p, .str f] := fun q hq => by
    obtain ⟨d, hd, rfl⟩ := List.mem_map.mp hq
    obtain ⟨p, f, rfl⟩ := h d hd
    exact ⟨p, f, rfl⟩
  unfold okSort
  simp only [Bool.and_eq_true, Bool.or_eq_true, List.all_eq_true]
  refine ⟨⟨?_, fun p hp q hq => ?_⟩, .inl fun p hp => ?_, fun p hp => ?_⟩
  · rw [List.length_map]; exact Nat.ble_eq_true_of_le hl
  · obtain ⟨a, b, rfl⟩ := e1 p hp
    obtain ⟨c, d, rfl⟩ := e1 q hq
    rfl
  · obtain ⟨a, b, rfl⟩ := e1 p hp
    rfl
  · obtain ⟨a, b, rfl⟩ := e1 p hp
    rfl
theorem sort_toks {x : D} {ts : List D} (hx : itemsD x = some ts) (h : ∀ d ∈ ts, IsTok d) (hl : ts.length ≤ 1000) : gSort [x] = some (isort leD ts) := by
  unfold gSort
  simp only [hx, toks_toPy h, toks_ok h hl, if_true]
theorem sort_sorted {x : D} {ts : List D} (hx : itemsD x = some ts) (h : ∀ d ∈ ts, IsTok d) (hl : ts.length ≤ 1000) (hs : ts.Pairwise fun a b => leD a b = true) : gSort [x] = some ts := by
  rw [sort_toks hx h hl, isort_self hs]
end LP

end

section
set_option Elab.async false
set_option linter.all false
set_option maxRecDepth 100000
set_option maxHeartbeats 1000000
/-! LX: right tokens. -/
namespace LP
open PySem L2 DL
def flS : Bool → Bool → Bool → Bool → Str
  | false, false, false, false => "" | false, false, false, true => "k" | false, false, true, false => "f" | false, false, true, true => "fk"
  | false, true, false, false => "e" | false, true, false, true => "ek" | false, true, true, false => "ef" | false, true, true, true => "efk"
  | true, false, false, false => "b" | true, false, false, true => "bk" | true, false, true, false => "bf" | true, false, true, true => "bfk"
  | true, true, false, false => "be" | true, true, false, true => "bek" | true, true, true, false => "bef" | true, true, true, true => "befk"
theorem chain_ok {rows last start : List D} {w l : D} {p : Int} {F : Sl} (h0 : 0 ≤ p) (h1 : p ≤ (rows ++ last).length + 1) {T : Sl} : fChain dLe dLe (fC (.int 0)) (fVar 2) (f2 dAdd (fN gLen (fCons (fFld ["Job"] "words" (fVar 0)) fNil)) (fC (.int 1))) [.sh (jobD rows last start w l), T, .sh (.int p), F, .un] = .ok [.sh (jobD rows last start w l), T, .sh (.int p), F, .un] (.bl true) := by
  have e1 : dLe (.int 0) (.int p) = some (.bl true) := by
    show some (D.bl (decide ((0 : Int) ≤ p))) = _
    rw [decide_eq_true h0]
  have e2 : dLe (.int p) (.int ((rows ++ last).length + 1)) = some (.bl true) := by
    show some (D.bl (decide (p ≤ ((rows ++ last).length : Int) + 1))) = _
    rw [decide_eq_true h1]
  have e3 : f2 dAdd (fN gLen (fCons (fFld ["Job"] "words" (fVar 0)) fNil)) (fC (.int 1)) [.sh (jobD rows last start w l), T, .sh (.int p), F, .un] = .ok [.sh (jobD rows last start w l), T, .sh (.int p), F, .un] (.int ((rows ++ last).length + 1)) := by kernel_rfl
  unfold fChain
  simp only [fC, fVar, Rs.bind, List.getElem?_cons_succ, List.getElem?_cons_zero, e1, e3, e2, lift]
theorem is_token_ok {rows last start : List D} {w l : D} {p : Int} {b e f k : Bool} (h0 : 0 ≤ p) (h1 : p ≤ (rows ++ last).length + 1) (hb : b = true → p ≠ 0) (hf : f = true → (rows.length : Int) < p ∧ 0 < last.length) :
    ∃ en, g_is_token [.sh (jobD rows last start w l), .sh (tokD p (flS b e f k))] = .ok en (.sh (.bl true)) := by
  refine ⟨[.sh (jobD rows last start w l), .sh (tokD p (flS b e f k)), .sh (.int p), .sh (.str (flS b e f k)), .un], gOf_rt (m := 5) (f := f_is_token) (as := [.sh (jobD rows last start w l), .sh (tokD p (flS b e f k))]) ?_⟩
  have e2 : [Sl.sh (jobD rows last start w l), .sh (tokD p (flS b e f k))] ++ List.replicate (5 - [Sl.sh (jobD rows last start w l), .sh (tokD p (flS b e f k))].length) Sl.un = [.sh (jobD rows last start w l), .sh (tokD p (flS b e f k)), .un, .un, .un] := rfl
  rw [e2]
  unfold f_is_token
  refine (seq_nx (e := [.sh (jobD rows last start w l), .sh (tokD p (flS b e f k)), .un, .un, .un]) (by kernel_rfl)).trans ?_
  refine (seq_nx (e := [.sh (jobD rows last start w l), .sh (tokD p (flS b e f k)), .sh (.int p), .sh (.str (flS b e f k)), .un]) (by kernel_rfl)).trans ?_
  refine (seq_nx ((ifS_f (e := [.sh (jobD rows last start w l), .sh (tokD p (flS b e f k)), .sh (.int p), .sh (.str (flS b e f k)), .un]) (or_ff rfl (or_ff rfl ?_))).trans rfl)).trans ?_
  · have := test_ok (chain_ok (rows := rows) (last := last) (start := start) (w := w) (l := l) (T := .sh (tokD p (flS b e f k))) (F := .sh (.str (flS b e f k))) h0 h1)
    simp only [fNot, this, Rs.bind]
    rfl
  refine (seq_nx (e := [.sh (jobD rows last start w l), .sh (tokD p (flS b e f k)), .sh (.int p), .sh (.str (flS b e f k)), .un]) ?_).trans ?_
  · cases b <;> cases e <;> cases f <;> cases k <;> kernel_rfl
  refine (seq_nx (e := [.sh (jobD rows last start w l), .sh (tokD p (flS b e f k)), .sh (.int p), .sh (.str (flS b e f k)), .un]) ?_).trans ?_
  · cases b with
    | false => cases e <;> cases f <;> cases k <;> kernel_rfl
    | true =>
      have hp : (p == 0) = false := beq_eq_false_iff_ne.mpr (hb rfl)
      have t2 : fTest (f2 dEq (fVar 2) (fC (.int 0))) [.sh (jobD rows last start w l), .sh (tokD p (flS true e f k)), .sh (.int p), .sh (.str (flS true e f k)), .un] = .ok [.sh (jobD rows last start w l), .sh (tokD p (flS true e f k)), .sh (.int p), .sh (.str (flS true e f k)), .un] false := by
        refine test_ok (two_ok (var_ok rfl) rfl ?_)
        show some (D.bl (p == 0)) = _
        rw [hp]
      have t1 : fTest (f2 dIn (fC (.str "b")) (fVar 3)) [.sh (jobD rows last start w l), .sh (tokD p (flS true e f k)), .sh (.int p), .sh (.str (flS true e f k)), .un] = .ok [.sh (jobD rows last start w l), .sh (tokD p (flS true e f k)), .sh (.int p), .sh (.str (flS true e f k)), .un] true := by
        cases e <;> cases f <;> cases k <;> kernel_rfl
      refine (ifS_f (e := [.sh (jobD rows last start w l), .sh (tokD p (flS true e f k)), .sh (.int p), .sh (.str (flS true e f k)), .un]) ?_).trans rfl
      simp only [fAnd, t1, Rs.bind, if_true, t2]
  · refine ret_ok ?_
    cases f with
    | false => cases b <;> cases e <;> cases k <;> kernel_rfl
    | true =>
      obtain ⟨h2, h3⟩ := hf rfl
      have t1 : f2 dNotIn (fC (.str "f")) (fVar 3) [.sh (jobD rows last start w l), .sh (tokD p (flS b e true k)), .sh (.int p), .sh (.str (flS b e true k)), .un] = .ok [.sh (jobD rows last start w l), .sh (tokD p (flS b e true k)), .sh (.int p), .sh (.str (flS b e true k)), .un] (.bl false) := by
        cases b <;> cases e <;> cases k <;> kernel_rfl
      have t2 : f2 dGt (fVar 2) (fN gLen (fCons (fFld ["Job"] "rows" (fVar 0)) fNil)) [.sh (jobD rows last start w l), .sh (tokD p (flS b e true k)), .sh (.int p), .sh (.str (flS b e true k)), .un] = .ok [.sh (jobD rows last start w l), .sh (tokD p (flS b e true k)), .sh (.int p), .sh (.str (flS b e true k)), .un] (.bl true) := by
        refine two_ok (y := .int rows.length) (var_ok rfl) (by kernel_rfl) ?_
        show some (D.bl (decide ((rows.length : Int) < p))) = _
        rw [decide_eq_true h2]
      have t3 : f2 dGt (fN gLen (fCons (fFld ["Job"] "last" (fVar 0)) fNil)) (fC (.int 0)) [.sh (jobD rows last start w l), .sh (tokD p (flS b e true k)), .sh (.int p), .sh (.str (flS b e true k)), .un] = .ok [.sh (jobD rows last start w l), .sh (tokD p (flS b e true k)), .sh (.int p), .sh (.str (flS b e true k)), .un] (.bl true) := by
        refine two_ok (x := .int last.length) (y := .int 0) (by kernel_rfl) rfl ?_
        show some (D.bl (decide ((0 : Int) < last.length))) = _
        rw [decide_eq_true (by omega)]
      simp only [fOrV, t1, Rs.bind, fAndV, t2, t3]
end LP

end

section
set_option Elab.async false
set_option linter.all false
set_option maxRecDepth 100000
set_option maxHeartbeats 1000000
/-! LY: right standings. -/
namespace LP
open PySem L2 DL
structure Tk where
  p : Int
  b : Bool
  e : Bool
  f : Bool
  k : Bool
def Tk.d (t : Tk) : D := tokD t.p (flS t.b t.e t.f t.k)
structure TkOk (rows last : List D) (t : Tk) : Prop where
  h0 : 0 ≤ t.p
  h1 : t.p ≤ (rows ++ last).length + 1
  hb : t.b = true → t.p ≠ 0
  hf : t.f = true → (rows.length : Int) < t.p ∧ 0 < last.length
theorem Tk.isTok (t : Tk) : IsTok t.d := ⟨_, _, rfl⟩
def stD (sw ky : Str) (ts : List Tk) : D := .tup [.str sw, .str ky, .tup (ts.map Tk.d)]
structure StOk (rows last : List D) (sw ky : Str) (ts : List Tk) : Prop where
  hsw : sw = "on" ∨ sw = "off"
  hky : ky = "free" ∨ ky = "held" ∨ ky = "lost"
  len : ts.length ≤ 5
  tok : ∀ t ∈ ts, TkOk rows last t
  srt : (ts.map Tk.d).Pairwise fun a b => leD a b = true
  key : (ts.filter (·.k)).length = if ky = "held" then 1 else 0
theorem k_in (t : Tk) : dIn (.str "k") (.str (flS t.b t.e t.f t.k)) = some (.bl t.k) := by
  obtain ⟨p, b, e, f, k⟩ := t
  cases b <;> cases e <;> cases f <;> cases k <;> kernel_rfl
abbrev stE (J S : D) (z2 : Sl) (sw ky : Str) (ts : List D) : Ev := [.sh J, .sh S, z2, .sh (.str sw), .sh (.str ky), .sh (.tup ts), .un, .un, .un]
theorem all_tokens {rows last start : List D} {w l S : D} {sw ky : Str} {ts : List Tk} (h : ∀ t ∈ ts, TkOk rows last t) (hl : ts.length ≤ 5) :
    loopC [6] (gNm 6) fYes f_is_standing_e1 (ts.map Tk.d) [] (stE (jobD rows last start w l) S .un sw ky (ts.map Tk.d)) = some (stE (jobD rows last start w l) S .un sw ky (ts.map Tk.d), (ts.map Tk.d).map fun _ => .bl true) := by
  have := loopC_pure (vs := [6]) (g := gNm 6) (ft := fYes) (fe := f_is_standing_e1) (e := stE (jobD rows last start w l) S .un sw ky (ts.map Tk.d)) (p := fun _ => true) (F := fun _ => .bl true) (ts.map Tk.d) [] (by simp; omega) (by
    intro d hd
    obtain ⟨t, ht, rfl⟩ := List.mem_map.mp hd
    have v := h t ht
    obtain ⟨en, he⟩ := is_token_ok (rows := rows) (last := last) (start := start) (w := w) (l := l) (p := t.p) (b := t.b) (e := t.e) (f := t.f) (k := t.k) v.h0 v.h1 v.hb v.hf
    refine ⟨[.sh (jobD rows last start w l), .sh S, .un, .sh (.str sw), .sh (.str ky), .sh (.tup (ts.map Tk.d)), .sh t.d, .un, .un], _, rfl, rfl, fun _ => ⟨_, shR_sh (call_ok (ds := [jobD rows last start w l, t.d]) rfl rfl he), rfl⟩, fun z => nomatch z⟩)
  have ef : (ts.map Tk.d).filter (fun _ => true) = ts.map Tk.d := List.filter_eq_self.mpr fun _ _ => rfl
  rw [ef, List.nil_append] at this
  exact this
theorem keyed_tokens {J S : D} {sw ky : Str} {ts : List Tk} (hl : ts.length ≤ 5) : ∃ xs, xs.length = (ts.filter (·.k)).length ∧
    loopC [7, 8] (gTp (gsCons (gNm 7) (gsCons (gNm 8) gsNil))) f_is_standing_t2 f_is_standing_e3 (ts.map Tk.d) [] (stE J S .un sw ky (ts.map Tk.d)) = some (stE J S .un sw ky (ts.map Tk.d), xs) := by
  have key : ∀ (us : List Tk) (acc : List D), acc.length + us.length ≤ 1000 → ∃ xs, xs.length = (us.filter (·.k)).length ∧ loopC [7, 8] (gTp (gsCons (gNm 7) (gsCons (gNm 8) gsNil))) f_is_standing_t2 f_is_standing_e3 (us.map Tk.d) acc (stE J S .un sw ky (ts.map Tk.d)) = some (stE J S .un sw ky (ts.map Tk.d), acc ++ xs) := by
    intro us
    induction us with
    | nil => intro acc _; exact ⟨[], rfl, by simp [loopC]⟩
    | cons t r ih =>
      intro acc ha
      have hs : small acc.length = true := Nat.ble_eq_true_of_le (by simp at ha; omega)
      have ht : f_is_standing_t2 [.sh J, .sh S, .un, .sh (.str sw), .sh (.str ky), .sh (.tup (ts.map Tk.d)), .un, .sh (.int t.p), .sh (.str (flS t.b t.e t.f t.k))] = .ok [.sh J, .sh S, .un, .sh (.str sw), .sh (.str ky), .sh (.tup (ts.map Tk.d)), .un, .sh (.int t.p), .sh (.str (flS t.b t.e t.f t.k))] t.k := test_ok (two_ok rfl (var_ok rfl) (k_in t))
      cases hk : t.k with
      | true =>
        obtain ⟨xs, h1, h2⟩ := ih (acc ++ [.str (flS t.b t.e t.f t.k)]) (by simp at ha ⊢; omega)
        refine ⟨.str (flS t.b t.e t.f t.k) :: xs, by simp [hk, h1], ?_⟩
        have : stepC [7, 8] (gTp (gsCons (gNm 7) (gsCons (gNm 8) gsNil))) f_is_standing_t2 f_is_standing_e3 t.d acc (stE J S .un sw ky (ts.map Tk.d)) = some (stE J S .un sw ky (ts.map Tk.d), acc ++ [.str (flS t.b t.e t.f t.k)]) := by
          unfold stepC
          have g1 : gTp (gsCons (gNm 7) (gsCons (gNm 8) gsNil)) t.d (stE J S .un sw ky (ts.map Tk.d)) = some [.sh J, .sh S, .un, .sh (.str sw), .sh (.str ky), .sh (.tup (ts.map Tk.d)), .un, .sh (.int t.p), .sh (.str (flS t.b t.e t.f t.k))] := rfl
          have g2 : f_is_standing_e3 [.sh J, .sh S, .un, .sh (.str sw), .sh (.str ky), .sh (.tup (ts.map Tk.d)), .un, .sh (.int t.p), .sh (.str (flS t.b t.e t.f t.k))] = .ok [.sh J, .sh S, .un, .sh (.str sw), .sh (.str ky), .sh (.tup (ts.map Tk.d)), .un, .sh (.int t.p), .sh (.str (flS t.b t.e t.f t.k))] (.str (flS t.b t.e t.f t.k)) := rfl
          rw [hk] at ht g1 g2
          simp only [hk, g1, ht, g2, if_pos hs]
          rfl
        show (match stepC _ _ _ _ t.d acc _ with | some (e, a) => loopC _ _ _ _ (r.map Tk.d) a e | none => none) = _
        rw [this]
        dsimp only
        rw [h2, List.append_assoc]
        rfl
      | false =>
        obtain ⟨xs, h1, h2⟩ := ih acc (by simp at ha ⊢; omega)
        refine ⟨xs, by simp [hk, h1], ?_⟩
        have : stepC [7, 8] (gTp (gsCons (gNm 7) (gsCons (gNm 8) gsNil))) f_is_standing_t2 f_is_standing_e3 t.d acc (stE J S .un sw ky (ts.map Tk.d)) = some (stE J S .un sw ky (ts.map Tk.d), acc) := by
          unfold stepC
          have g1 : gTp (gsCons (gNm 7) (gsCons (gNm 8) gsNil)) t.d (stE J S .un sw ky (ts.map Tk.d)) = some [.sh J, .sh S, .un, .sh (.str sw), .sh (.str ky), .sh (.tup (ts.map Tk.d)), .un, .sh (.int t.p), .sh (.str (flS t.b t.e t.f t.k))] := rfl
          rw [hk] at ht g1
          simp only [g1, ht]
          rfl
        show (match stepC _ _ _ _ t.d acc _ with | some (e, a) => loopC _ _ _ _ (r.map Tk.d) a e | none => none) = _
        rw [this]
        exact h2
  obtain ⟨xs, h1, h2⟩ := key ts [] (by simp; omega)
  exact ⟨xs, h1, by simpa using h2⟩
theorem tk_okP (t : Tk) : ∃ q, okP 3 t.d q := by
  obtain ⟨p, b, e, f, k⟩ := t
  cases b <;> cases e <;> cases f <;> cases k <;> exact okB_ok (by kernel_rfl)
theorem same_toks (ts : List Tk) : dEq (.lst (ts.map Tk.d)) (.lst (ts.map Tk.d)) = some (.bl true) := by
  obtain ⟨ps, h, _⟩ := okP.lst (n := 3) (ds := ts.map Tk.d) fun d hd => by
    obtain ⟨t, _, rfl⟩ := List.mem_map.mp hd
    exact tk_okP t
  unfold dEq
  rw [eqD_same h (by omega)]
  rfl
theorem not_ok {ft : Ev → Rs Bool} {env e : Ev} {b : Bool} (h : ft env = .ok e b) : fNot ft env = .ok e (!b) := by simp only [fNot, h, Rs.bind]
theorem all_true' : ∀ (ds : List D), gAll [.lst (ds.map fun _ => .bl true)] = some (.bl true) := fun ds => by
  have h : ∀ ds : List D, blsD (ds.map fun _ => .bl true) = some (ds.map fun _ => true) := by
    intro ds
    induction ds with
    | nil => rfl
    | cons _ _ ih => simp [blsD, ih]
  simp [gAll, h]
theorem is_standing_ok {rows last start : List D} {w l : D} {sw ky : Str} {ts : List Tk} (v : StOk rows last sw ky ts) : ∃ e, g_is_standing [.sh (jobD rows last start w l), .sh (stD sw ky ts)] = .ok e (.sh (.bl true)) := by
  obtain ⟨xs, hx1, hx2⟩ := keyed_tokens (J := jobD rows last start w l) (S := stD sw ky ts) (sw := sw) (ky := ky) (ts := ts) v.len
  have ha := all_tokens (start := start) (w := w) (l := l) (S := stD sw ky ts) (sw := sw) (ky := ky) v.tok v.len
  refine ⟨stE (jobD rows last start w l) (stD sw ky ts) (.sh (.int xs.length)) sw ky (ts.map Tk.d), gOf_rt (m := 9) (f := f_is_standing) (as := [.sh (jobD rows last start w l), .sh (stD sw ky ts)]) ?_⟩
  have e2 : [Sl.sh (jobD rows last start w l), .sh (stD sw ky ts)] ++ List.replicate (9 - [Sl.sh (jobD rows last start w l), .sh (stD sw ky ts)].length) Sl.un = [.sh (jobD rows last start w l), .sh (stD sw ky ts), .un, .un, .un, .un, .un, .un, .un] := rfl
  rw [e2]
  unfold f_is_standing
  refine (seq_nx (e := [.sh (jobD rows last start w l), .sh (stD sw ky ts), .un, .un, .un, .un, .un, .un, .un]) (by kernel_rfl)).trans ?_
  refine (seq_nx (e := stE (jobD rows last start w l) (stD sw ky ts) .un sw ky (ts.map Tk.d)) (by kernel_rfl)).trans ?_
  refine (seq_nx (e := stE (jobD rows last start w l) (stD sw ky ts) .un sw ky (ts.map Tk.d)) ?_).trans ?_
  · rcases v.hsw with rfl | rfl <;> rcases v.hky with rfl | rfl | rfl <;> kernel_rfl
  refine (seq_nx ((ifS_f (e := stE (jobD rows last start w l) (stD sw ky ts) .un sw ky (ts.map Tk.d)) (or_ff rfl (test_ok (two_ok (x := .int ts.length) (y := .int 5) (N_ok (cons_ok (var_ok rfl) rfl) ?_) rfl ?_)))).trans rfl)).trans ?_
  · show some (D.int ((ts.map Tk.d).length : Nat)) = _
    rw [List.length_map]
  · show some (D.bl (decide ((5 : Int) < ts.length))) = _
    rw [decide_eq_false (by have := v.len; omega)]
  refine (seq_nx ((ifS_f (e := stE (jobD rows last start w l) (stD sw ky ts) .un sw ky (ts.map Tk.d)) ?_).trans rfl)).trans ?_
  · have := test_ok (N_ok (gn := gAll) (cons_ok (fl := fNil) (sh_ok (lc_ok (vs := [6]) (fi := fiQ (fVar 5)) (env := stE (jobD rows last start w l) (stD sw ky ts) .un sw ky (ts.map Tk.d)) rfl rfl ha)) rfl) (all_true' _))
    exact not_ok this
  refine (seq_nx (set_to (d := .int xs.length) (N_ok (gn := gLen) (cons_ok (fl := fNil) (sh_ok (lc_ok (vs := [7, 8]) (fi := fiQ (fVar 5)) (env := stE (jobD rows last start w l) (stD sw ky ts) .un sw ky (ts.map Tk.d)) rfl rfl hx2)) rfl) rfl) rfl (e2 := stE (jobD rows last start w l) (stD sw ky ts) (.sh (.int xs.length)) sw ky (ts.map Tk.d)) rfl)).trans ?_
  refine ret_ok ?_
  have hs := sort_sorted (x := .tup (ts.map Tk.d)) rfl (fun d hd => by obtain ⟨t, _, rfl⟩ := List.mem_map.mp hd; exact t.isTok) (by simp; have := v.len; omega) v.srt
  have t1 : f2 dEq (fSh (fNewL gList (fCons (fVar 5) fNil))) (fSh (fNewL gSort (fCons (fVar 5) fNil))) (stE (jobD rows last start w l) (stD sw ky ts) (.sh (.int xs.length)) sw ky (ts.map Tk.d)) = .ok (stE (jobD rows last start w l) (stD sw ky ts) (.sh (.int xs.length)) sw ky (ts.map Tk.d)) (.bl true) := by
    refine two_ok (x := .lst (ts.map Tk.d)) (y := .lst (ts.map Tk.d)) rfl (sh_ok ?_) (same_toks ts)
    unfold fNewL fCons fNil fVar
    simp only [Rs.bind, List.getElem?_cons_succ, List.getElem?_cons_zero, hs]
    rfl
  have t2 : f2 dEq (fVar 2) (fIf (fTest (f2 dEq (fVar 4) (fC (.str "held")))) (fC (.int 1)) (fC (.int 0))) (stE (jobD rows last start w l) (stD sw ky ts) (.sh (.int xs.length)) sw ky (ts.map Tk.d)) = .ok (stE (jobD rows last start w l) (stD sw ky ts) (.sh (.int xs.length)) sw ky (ts.map Tk.d)) (.bl true) := by
    have hk := v.key
    rw [← hx1] at hk
    rw [hk]
    rcases v.hky with rfl | rfl | rfl <;> kernel_rfl
  simp only [fAndV, t1, Rs.bind, t2]
end LP

end

section
set_option Elab.async false
set_option linter.all false
set_option maxRecDepth 100000
set_option maxHeartbeats 1000000
/-! LZ: what is made of tokens. -/
namespace LP
open PySem L2 DL LW
namespace Tk
def noK (t : Tk) : Tk := { t with k := false }
def noF (t : Tk) : Tk := { t with f := false }
def onB (t : Tk) : Tk := { t with b := true }
def onE (t : Tk) : Tk := { t with e := true }
def onF (t : Tk) : Tk := { t with f := true }
def onK (t : Tk) : Tk := { t with k := true }
end Tk
theorem fl_sz (t : Tk) : szS (flS t.b t.e t.f t.k) = true := by
  obtain ⟨p, b, e, f, k⟩ := t
  cases b <;> cases e <;> cases f <;> cases k <;> kernel_rfl
theorem rep_k (t : Tk) : Txt.replace (flS t.b t.e t.f t.k) "k" "" = flS t.b t.e t.f false := by
  obtain ⟨p, b, e, f, k⟩ := t
  cases b <;> cases e <;> cases f <;> cases k <;> kernel_rfl
theorem rep_f (t : Tk) : Txt.replace (flS t.b t.e t.f t.k) "f" "" = flS t.b t.e false t.k := by
  obtain ⟨p, b, e, f, k⟩ := t
  cases b <;> cases e <;> cases f <;> cases k <;> kernel_rfl
def keyed (ky : Str) (ts : List Tk) : List Tk := if ky = "free" then ts.map Tk.noK else ts
def madeD (sw ky : Str) (ts : List Tk) : D := .tup [.str sw, .str ky, .tup (isort leD ((keyed ky ts).map Tk.d))]
theorem made_ok {sw ky : Str} {X : D} {ts : List Tk} (hX : itemsD X = some (ts.map Tk.d)) (hk : ky = "free" ∨ ky = "held" ∨ ky = "lost") (hl : ts.length ≤ 900) : ∃ e, g_made [.sh (.str sw), .sh (.str ky), .sh X] = .ok e (.sh (madeD sw ky ts)) := by
  have fin : ∀ {Y : D} {us : List Tk}, itemsD Y = some (us.map Tk.d) → us.length ≤ 900 → fRet (fN gTup (fCons (fVar 0) (fCons (fVar 1) (fCons (fN gTuple (fCons (fSh (fNewL gSort (fCons (fVar 2) fNil))) fNil)) fNil)))) [.sh (.str sw), .sh (.str ky), .sh Y, .un, .un] = .ok [.sh (.str sw), .sh (.str ky), .sh Y, .un, .un] (.rt (.sh (.tup [.str sw, .str ky, .tup (isort leD (us.map Tk.d))]))) := fun {Y us} hY hu => by
    have hs := sort_toks (x := Y) hY (fun d hd => by obtain ⟨t, _, rfl⟩ := List.mem_map.mp hd; exact t.isTok) (by simp; omega)
    refine ret_ok (N_ok (ds := [.str sw, .str ky, .tup (isort leD (us.map Tk.d))]) (cons_ok (var_ok rfl) (cons_ok (var_ok rfl) (cons_ok (N_ok (ds := [.lst (isort leD (us.map Tk.d))]) (cons_ok (sh_ok ?_) rfl) rfl) rfl))) rfl)
    unfold fNewL fCons fNil fVar
    simp only [Rs.bind, List.getElem?_cons_succ, List.getElem?_cons_zero, hs]
    rfl
  have go : ∀ {Y : D} {us : List Tk}, fIfS (fTest (f2 dEq (fVar 1) (fC (.str "free")))) (fSet 2 (fSh (fLc (([("place", 3), ("flags", 4)] : List (Str × Nat)).map (·.2)) (fiQ (fVar 2)) (gTp (gsCons (gNm 3) (gsCons (gNm 4) gsNil))) fYes f_made_e1))) fsNil [.sh (.str sw), .sh (.str ky), .sh X, .un, .un] = .ok [.sh (.str sw), .sh (.str ky), .sh Y, .un, .un] .nx → itemsD Y = some (us.map Tk.d) → us.length ≤ 900 → ∃ e, g_made [.sh (.str sw), .sh (.str ky), .sh X] = .ok e (.sh (.tup [.str sw, .str ky, .tup (isort leD (us.map Tk.d))])) := fun {Y us} h1 h2 h3 => by
    refine ⟨[.sh (.str sw), .sh (.str ky), .sh Y, .un, .un], gOf_rt (m := 5) (f := f_made) (as := [.sh (.str sw), .sh (.str ky), .sh X]) ?_⟩
    show f_made [.sh (.str sw), .sh (.str ky), .sh X, .un, .un] = _
    unfold f_made
    exact (seq_nx h1).trans (fin h2 h3)
  by_cases hf : ky = "free"
  · subst hf
    have hm := loopC_map (vs := [3, 4]) (g := gTp (gsCons (gNm 3) (gsCons (gNm 4) gsNil))) (fe := f_made_e1) (e := [.sh (.str sw), .sh (.str "free"), .sh X, .un, .un]) (inp := Tk.d) (out := fun t => t.noK.d) ts [] (by simp; omega) (by
      intro t ht
      refine ⟨[.sh (.str sw), .sh (.str "free"), .sh X, .sh (.int t.p), .sh (.str (flS t.b t.e t.f t.k))], [.sh (.str sw), .sh (.str "free"), .sh X, .sh (.int t.p), .sh (.str (flS t.b t.e t.f t.k))], rfl, ?_, rfl⟩
      refine N_ok (ds := [.int t.p, .str (flS t.b t.e t.f false)]) (cons_ok (var_ok rfl) (cons_ok ?_ rfl)) rfl
      unfold fRep fVar
      simp only [Rs.bind, List.getElem?_cons_succ, List.getElem?_cons_zero, fl_sz t, if_true, rep_k t])
    rw [List.nil_append] at hm
    have e0 : madeD sw "free" ts = .tup [.str sw, .str "free", .tup (isort leD ((ts.map Tk.noK).map Tk.d))] := by simp [madeD, keyed]
    rw [e0]
    refine go (Y := .lst (ts.map fun t => t.noK.d)) ?_ (by simp [itemsD, Function.comp_def]) (by simp; omega)
    refine (ifS_t (e := [.sh (.str sw), .sh (.str "free"), .sh X, .un, .un]) rfl).trans ?_
    refine set_to (sh_ok (lc_ok (vs := [3, 4]) (fi := fiQ (fVar 2)) (e := [.sh (.str sw), .sh (.str "free"), .sh X, .un, .un]) (ds := ts.map Tk.d) ?_ rfl hm)) rfl rfl
    simp only [fiQ, fVar, Rs.bind, List.getElem?_cons_succ, List.getElem?_cons_zero, hX, lift]
  · have e0 : madeD sw ky ts = .tup [.str sw, .str ky, .tup (isort leD (ts.map Tk.d))] := by simp [madeD, keyed, hf]
    rw [e0]
    refine go (Y := X) ?_ hX hl
    rcases hk with rfl | rfl | rfl
    · exact absurd rfl hf
    · rfl
    · rfl
theorem law_made_ok {sw ky : Str} {X : D} {ts : List Tk} (hX : itemsD X = some (ts.map Tk.d)) (hk : ky = "free" ∨ ky = "held" ∨ ky = "lost") (hl : ts.length ≤ 900) : ∃ e, g__law_made [.sh (.str sw), .sh (.str ky), .sh X] = .ok e (.sh (madeD sw ky ts)) := by
  have fin : ∀ {Y : D} {us : List Tk}, itemsD Y = some (us.map Tk.d) → us.length ≤ 900 → fRet (fN gTup (fCons (fVar 0) (fCons (fVar 1) (fCons (fN gTuple (fCons (fSh (fNewL gSort (fCons (fVar 2) fNil))) fNil)) fNil)))) [.sh (.str sw), .sh (.str ky), .sh Y, .un] = .ok [.sh (.str sw), .sh (.str ky), .sh Y, .un] (.rt (.sh (.tup [.str sw, .str ky, .tup (isort leD (us.map Tk.d))]))) := fun {Y us} hY hu => by
    have hs := sort_toks (x := Y) hY (fun d hd => by obtain ⟨t, _, rfl⟩ := List.mem_map.mp hd; exact t.isTok) (by simp; omega)
    refine ret_ok (N_ok (ds := [.str sw, .str ky, .tup (isort leD (us.map Tk.d))]) (cons_ok (var_ok rfl) (cons_ok (var_ok rfl) (cons_ok (N_ok (ds := [.lst (isort leD (us.map Tk.d))]) (cons_ok (sh_ok ?_) rfl) rfl) rfl))) rfl)
    unfold fNewL fCons fNil fVar
    simp only [Rs.bind, List.getElem?_cons_succ, List.getElem?_cons_zero, hs]
    rfl
  have go : ∀ {Y : D} {us : List Tk}, fIfS (fTest (f2 dEq (fVar 1) (fC (.str "free")))) (fSet 2 (fSh (fLc (([("_law_one", 3)] : List (Str × Nat)).map (·.2)) (fiQ (fVar 2)) (gNm 3) fYes f__law_made_e1))) fsNil [.sh (.str sw), .sh (.str ky), .sh X, .un] = .ok [.sh (.str sw), .sh (.str ky), .sh Y, .un] .nx → itemsD Y = some (us.map Tk.d) → us.length ≤ 900 → ∃ e, g__law_made [.sh (.str sw), .sh (.str ky), .sh X] = .ok e (.sh (.tup [.str sw, .str ky, .tup (isort leD (us.map Tk.d))])) := fun {Y us} h1 h2 h3 => by
    refine ⟨[.sh (.str sw), .sh (.str ky), .sh Y, .un], gOf_rt (m := 4) (f := f__law_made) (as := [.sh (.str sw), .sh (.str ky), .sh X]) ?_⟩
    show f__law_made [.sh (.str sw), .sh (.str ky), .sh X, .un] = _
    unfold f__law_made
    exact (seq_nx h1).trans (fin h2 h3)
  by_cases hf : ky = "free"
  · subst hf
    have hm := loopC_map (vs := [3]) (g := gNm 3) (fe := f__law_made_e1) (e := [.sh (.str sw), .sh (.str "free"), .sh X, .un]) (inp := Tk.d) (out := fun t => t.noK.d) ts [] (by simp; omega) (by
      intro t ht
      refine ⟨[.sh (.str sw), .sh (.str "free"), .sh X, .sh t.d], [.sh (.str sw), .sh (.str "free"), .sh X, .sh t.d], rfl, ?_, rfl⟩
      refine N_ok (ds := [.int t.p, .str (flS t.b t.e t.f false)]) (cons_ok rfl (cons_ok ?_ rfl)) rfl
      have e1 : f2 dIx (fVar 3) (fC (.int 1)) [.sh (.str sw), .sh (.str "free"), .sh X, .sh t.d] = .ok [.sh (.str sw), .sh (.str "free"), .sh X, .sh t.d] (.str (flS t.b t.e t.f t.k)) := rfl
      unfold fRep
      rw [e1]
      simp only [Rs.bind, fl_sz t, if_true, rep_k t])
    rw [List.nil_append] at hm
    have e0 : madeD sw "free" ts = .tup [.str sw, .str "free", .tup (isort leD ((ts.map Tk.noK).map Tk.d))] := by simp [madeD, keyed]
    rw [e0]
    refine go (Y := .lst (ts.map fun t => t.noK.d)) ?_ (by simp [itemsD, Function.comp_def]) (by simp; omega)
    refine (ifS_t (e := [.sh (.str sw), .sh (.str "free"), .sh X, .un]) rfl).trans ?_
    refine set_to (sh_ok (lc_ok (vs := [3]) (fi := fiQ (fVar 2)) (e := [.sh (.str sw), .sh (.str "free"), .sh X, .un]) (ds := ts.map Tk.d) ?_ rfl hm)) rfl rfl
    simp only [fiQ, fVar, Rs.bind, List.getElem?_cons_succ, List.getElem?_cons_zero, hX, lift]
  · have e0 : madeD sw ky ts = .tup [.str sw, .str ky, .tup (isort leD (ts.map Tk.d))] := by simp [madeD, keyed, hf]
    rw [e0]
    refine go (Y := X) ?_ hX hl
    rcases hk with rfl | rfl | rfl
    · exact absurd rfl hf
    · rfl
    · rfl
theorem with_flag_ok (t : Tk) : (∃ e, g_with_flag [.sh t.d, .sh (.str "b")] = .ok e (.sh t.onB.d)) ∧ (∃ e, g_with_flag [.sh t.d, .sh (.str "e")] = .ok e (.sh t.onE.d)) ∧ (∃ e, g_with_flag [.sh t.d, .sh (.str "f")] = .ok e (.sh t.onF.d)) ∧ ∃ e, g_with_flag [.sh t.d, .sh (.str "k")] = .ok e (.sh t.onK.d) := by
  obtain ⟨p, b, e, f, k⟩ := t
  refine ⟨⟨[.sh (tokD p (flS b e f k)), .sh (.str "b"), .sh (.int p), .sh (.str (flS b e f k)), .un], ?_⟩, ⟨[.sh (tokD p (flS b e f k)), .sh (.str "e"), .sh (.int p), .sh (.str (flS b e f k)), .un], ?_⟩, ⟨[.sh (tokD p (flS b e f k)), .sh (.str "f"), .sh (.int p), .sh (.str (flS b e f k)), .un], ?_⟩, ⟨[.sh (tokD p (flS b e f k)), .sh (.str "k"), .sh (.int p), .sh (.str (flS b e f k)), .un], ?_⟩⟩ <;> cases b <;> cases e <;> cases f <;> cases k <;> kernel_rfl
theorem wo_f {fe : Ev → Rs D} {env e : Ev} {t : Tk} (h : fe env = .ok e t.d) : fWo "f" fe env = .ok e t.noF.d := by
  unfold fWo
  rw [h]
  show (if szS (flS t.b t.e t.f t.k) = true then Rs.ok e (D.tup [.int t.p, .str (Txt.replace (flS t.b t.e t.f t.k) "f" "")]) else .no) = _
  rw [if_pos (fl_sz t), rep_f t]
  rfl
theorem wo_k {fe : Ev → Rs D} {env e : Ev} {t : Tk} (h : fe env = .ok e t.d) : fWo "k" fe env = .ok e t.noK.d := by
  unfold fWo
  rw [h]
  show (if szS (flS t.b t.e t.f t.k) = true then Rs.ok e (D.tup [.int t.p, .str (Txt.replace (flS t.b t.e t.f t.k) "k" "")]) else .no) = _
  rw [if_pos (fl_sz t), rep_k t]
  rfl
end LP

end

section
set_option Elab.async false
set_option linter.all false
set_option maxRecDepth 100000
set_option maxHeartbeats 2000000
/-! EA: functions of slots, run by simp: each rule names what follows, so that no rest is looked at ahead of its time. -/
namespace DL
open PySem L2
section
variable {α β : Type} {e env : Ev}
theorem b_ok {a : α} {f : Ev → α → Rs β} : (Rs.ok e a).bind f = f e a := rfl
theorem b_er {C fl : Str} {d : D} {f : Ev → α → Rs β} : (Rs.er e C fl d).bind f = .er e C fl d := rfl
theorem b_no {f : Ev → α → Rs β} : (Rs.no : Rs α).bind f = .no := rfl
theorem b_if {c : Prop} [Decidable c] {r s : Rs α} {f : Ev → α → Rs β} : (if c then r else s).bind f = if c then r.bind f else s.bind f := by split <;> rfl
theorem lift_s {a : α} : lift e (some a) = .ok e a := rfl
theorem lift_n : lift e (none : Option α) = .no := rfl
theorem lift_if {c : Prop} [Decidable c] {r s : Option α} : lift e (if c then r else s) = if c then lift e r else lift e s := by split <;> rfl
end
/-! ### what a def gives, without its slots -/
inductive Rv where
  | val (d : D) | new (ds : List D) | err (C fl : Str) (d : D) | no
def pvOf : Rs Dr → Rv
  | .ok _ (.sh d) => .val d
  | .ok _ (.fr ds) => .new ds
  | .er _ C fl d => .err C fl d
  | .no => .no
def pv (g : List Sl → Rs Dr) (ds : List D) : Rv := pvOf (g (ds.map .sh))
def unpv (e : Ev) : Rv → Rs Dr
  | .val d => .ok e (.sh d)
  | .new ds => .ok e (.fr ds)
  | .err C fl d => .er e C fl d
  | .no => .no
theorem unpv_val {e : Ev} {d : D} : unpv e (.val d) = .ok e (.sh d) := rfl
theorem unpv_new {e : Ev} {ds : List D} : unpv e (.new ds) = .ok e (.fr ds) := rfl
theorem unpv_err {e : Ev} {C fl : Str} {d : D} : unpv e (.err C fl d) = .er e C fl d := rfl
theorem unpv_if {e : Ev} {c : Prop} [Decidable c] {r s : Rv} : unpv e (if c then r else s) = if c then unpv e r else unpv e s := by split <;> rfl
theorem back_pv {e : Ev} {r : Rs Dr} : back e r = unpv e (pvOf r) := by
  cases r with
  | ok e' d => cases d <;> rfl
  | er e' C fl d => rfl
  | no => rfl
def pvFl : Rs Fl → Rv
  | .ok _ .nx => .val .non
  | .ok _ (.rt (.sh d)) => .val d
  | .ok _ (.rt (.fr ds)) => .new ds
  | .er _ C fl d => .err C fl d
  | _ => .no
theorem pv_gOf {m : Nat} {f : Ev → Rs Fl} {ds : List D} : pv (gOf m f) ds = pvFl (f (ds.map .sh ++ List.replicate (m - ds.length) .un)) := by
  unfold pv gOf
  rw [List.length_map]
  generalize f (List.map Sl.sh ds ++ List.replicate (m - ds.length) Sl.un) = r
  cases r with
  | ok e fl => cases fl with
    | rt d => cases d <;> rfl
    | _ => rfl
  | er e C fl d => rfl
  | no => rfl
theorem pvFl_rt {e : Ev} {d : D} : pvFl (.ok e (.rt (.sh d))) = .val d := rfl
theorem pvFl_fr {e : Ev} {ds : List D} : pvFl (.ok e (.rt (.fr ds))) = .new ds := rfl
theorem pvFl_nx {e : Ev} : pvFl (.ok e .nx) = .val .non := rfl
theorem pvFl_er {e : Ev} {C fl : Str} {d : D} : pvFl (.er e C fl d) = .err C fl d := rfl
theorem pvFl_if {c : Prop} [Decidable c] {r s : Rs Fl} : pvFl (if c then r else s) = if c then pvFl r else pvFl s := by split <;> rfl
/-- a def that has the first object for itself: the object behind it, too -/
inductive Rw where
  | val (o : Ob) (d : Dr) | err (o : Ob) (C fl : Str) (d : D) | no
def pwOf : Rs Dr → Rw
  | .ok e r => (match (e[0]? : Option Sl) with
    | some (Sl.rf o) => .val o r
    | _ => .no)
  | .er e C fl d => (match (e[0]? : Option Sl) with
    | some (Sl.rf o) => .err o C fl d
    | _ => .no)
  | .no => .no
def pw (g : List Sl → Rs Dr) (o : Ob) (ds : List D) : Rw := pwOf (g (.rf o :: ds.map .sh))
def unpw (e : Ev) (i : Nat) : Rw → Rs Dr
  | .val o r => .ok (putOb e i o) r
  | .err o C fl d => .er (putOb e i o) C fl d
  | .no => .no
theorem unpw_val {e : Ev} {i : Nat} {o : Ob} {r : Dr} : unpw e i (.val o r) = .ok (putOb e i o) r := rfl
theorem backR_pw {e : Ev} {i : Nat} {r : Rs Dr} : backR e i r = unpw e i (pwOf r) := by
  cases r with
  | ok e' d =>
    simp only [backR, pwOf]
    generalize e'[0]? = o
    cases o with
    | none => rfl
    | some s => cases s <;> rfl
  | er e' C fl d =>
    simp only [backR, pwOf]
    generalize e'[0]? = o
    cases o with
    | none => rfl
    | some s => cases s <;> rfl
  | no => rfl
end DL

end

section
set_option Elab.async false
set_option linter.all false
set_option maxRecDepth 100000
set_option maxHeartbeats 2000000
/-! EB: the rules, one for each form. -/
namespace DL
open PySem L2
def rdV (env : Ev) : Option Sl → Rs D
  | some (.sh d) => .ok env d
  | _ => .no
section
variable {env e : Ev} {fa fb fc fo : Ev → Rs D} {fl fr fk : Ev → Rs (List D)} {ta tb tc : Ev → Rs Bool} {sa sb : Ev → Rs Fl} {g g' : D → D → Option D} {gn : List D → Option D} {x y z d : D} {xs ds dv : List D} {b : Bool} {i n m : Nat}
theorem x_var : fVar i env = rdV env env[i]? := rfl
theorem rdV_sh : rdV env (some (.sh d)) = .ok env d := rfl
theorem x_c : fC d env = .ok env d := rfl
def K1 (g1 : D → Option D) (e : Ev) (x : D) : Rs D := lift e (g1 x)
theorem x_f1 {g1 : D → Option D} : f1 g1 fa env = (fa env).bind (K1 g1) := rfl
def K2b (g : D → D → Option D) (x : D) (e : Ev) (y : D) : Rs D := lift e (g x y)
def K2a (g : D → D → Option D) (fb : Ev → Rs D) (e : Ev) (x : D) : Rs D := (fb e).bind (K2b g x)
theorem x_f2 : f2 g fa fb env = (fa env).bind (K2a g fb) := rfl
theorem x_nil : fNil env = .ok env [] := rfl
def KCb (x : D) (e : Ev) (xs : List D) : Rs (List D) := .ok e (x :: xs)
def KCa (fr : Ev → Rs (List D)) (e : Ev) (x : D) : Rs (List D) := (fr e).bind (KCb x)
theorem x_cons : fCons fa fr env = (fa env).bind (KCa fr) := rfl
def KStb (xs : List D) (e : Ev) (ys : List D) : Rs (List D) := .ok e (xs ++ ys)
def KSta (fr : Ev → Rs (List D)) (e : Ev) : Option (List D) → Rs (List D)
  | some xs => (fr e).bind (KStb xs)
  | none => .no
def KStar (fr : Ev → Rs (List D)) (e : Ev) (x : D) : Rs (List D) := KSta fr e (itemsD x)
theorem x_star : fStar fa fr env = (fa env).bind (KStar fr) := by
  unfold fStar KStar
  congr
theorem ksta_s : KSta fr e (some xs) = (fr e).bind (KStb xs) := rfl
def KN (gn : List D → Option D) (e : Ev) (xs : List D) : Rs D := lift e (gn xs)
theorem x_n : fN gn fl env = (fl env).bind (KN gn) := rfl
def KTe (e : Ev) : D → Rs Bool
  | .bl b => .ok e b
  | _ => .no
theorem x_test : fTest fa env = (fa env).bind KTe := by
  unfold fTest
  congr
theorem kTe_bl : KTe e (.bl b) = .ok e b := rfl
def KAn (tb : Ev → Rs Bool) (e : Ev) (b : Bool) : Rs Bool := if b = true then tb e else .ok e false
theorem x_and : fAnd ta tb env = (ta env).bind (KAn tb) := rfl
def KOr (tb : Ev → Rs Bool) (e : Ev) (b : Bool) : Rs Bool := if b = true then .ok e true else tb e
theorem x_or : fOr ta tb env = (ta env).bind (KOr tb) := rfl
def KNo (e : Ev) (b : Bool) : Rs Bool := .ok e (!b)
theorem x_not : fNot ta env = (ta env).bind KNo := rfl
def KIe (fa fb : Ev → Rs D) (e : Ev) (b : Bool) : Rs D := if b = true then fa e else fb e
theorem x_if : fIf tc fa fb env = (tc env).bind (KIe fa fb) := rfl
def KAV (fb : Ev → Rs D) (e : Ev) : D → Rs D
  | .bl b => if b = true then fb e else .ok e (.bl false)
  | _ => .no
theorem x_andV : fAndV fa fb env = (fa env).bind (KAV fb) := by
  unfold fAndV
  congr
  funext e x
  cases x with
  | bl b => cases b <;> rfl
  | _ => rfl
theorem kAV_bl : KAV fb e (.bl b) = if b = true then fb e else .ok e (.bl false) := rfl
def KOV (fb : Ev → Rs D) (e : Ev) : D → Rs D
  | .bl b => if b = true then .ok e (.bl true) else fb e
  | _ => .no
theorem x_orV : fOrV fa fb env = (fa env).bind (KOV fb) := by
  unfold fOrV
  congr
  funext e x
  cases x with
  | bl b => cases b <;> rfl
  | _ => rfl
theorem kOV_bl : KOV fb e (.bl b) = if b = true then .ok e (.bl true) else fb e := rfl
def KNV (e : Ev) : D → Rs D
  | .bl b => .ok e (.bl (!b))
  | _ => .no
theorem x_notV : fNotV fa env = (fa env).bind KNV := by
  unfold fNotV
  congr
theorem kNV_bl : KNV e (.bl b) = .ok e (.bl (!b)) := rfl
theorem x_sNil : fsNil env = .ok env .nx := rfl
def KSq (sb : Ev → Rs Fl) (e : Ev) : Fl → Rs Fl
  | .nx => sb e
  | fl => .ok e fl
theorem x_seq : fSeq sa sb env = (sa env).bind (KSq sb) := by
  unfold fSeq
  congr
theorem kSq_nx : KSq sb e .nx = sb e := rfl
theorem kSq_rt {r : Dr} : KSq sb e (.rt r) = .ok e (.rt r) := rfl
theorem kSq_bk : KSq sb e .bk = .ok e .bk := rfl
theorem kSq_ct : KSq sb e .ct = .ok e .ct := rfl
def KRt (e : Ev) (d : D) : Rs Fl := .ok e (.rt (.sh d))
theorem x_ret : fRet fa env = (fa env).bind KRt := rfl
def KEx (e : Ev) (_ : D) : Rs Fl := .ok e .nx
theorem x_exp : fExp fa env = (fa env).bind KEx := rfl
def KIs (sa sb : Ev → Rs Fl) (e : Ev) (b : Bool) : Rs Fl := if b = true then sa e else sb e
theorem x_ifS : fIfS tc sa sb env = (tc env).bind (KIs sa sb) := rfl
def optR : Option Ev → Rs Fl
  | some e => .ok e .nx
  | none => .no
theorem optR_s : optR (some e) = .ok e .nx := rfl
def KSe (i : Nat) (e : Ev) (d : D) : Rs Fl := optR (put e i (.sh d))
theorem x_set : fSet i fa env = (fa env).bind (KSe i) := by
  unfold fSet
  congr
def KSO (i : Nat) (e : Ev) (ds : List D) : Rs Fl := optR (put e i (.ow (.lst ds)))
theorem x_setO : fSetO i fl env = (fl env).bind (KSO i) := by
  unfold fSetO
  congr
theorem put_ok {s : Sl} (h : free e[i]? = true) : put e i s = some (e.set i s) := by unfold put; rw [if_pos h]
theorem free_un : free (some .un) = true := rfl
theorem free_sh : free (some (.sh d)) = true := rfl
theorem free_ow {o : Ob} : free (some (.ow o)) = true := rfl
def KSh (e : Ev) (ds : List D) : Rs D := .ok e (.lst ds)
theorem x_sh : fSh fl env = (fl env).bind KSh := rfl
def KLs (e : Ev) (ds : List D) : Rs (List D) := if small ds.length = true then .ok e ds else .no
theorem x_lst : fLst fl env = (fl env).bind KLs := rfl
theorem x_nm : gNm i d env = put env i (.sh d) := rfl
theorem x_gnil : gsNil [] env = some env := rfl
theorem x_gcons {ga : D → Ev → Option Ev} {gs : List D → Ev → Option Ev} : gsCons ga gs (d :: ds) env = (ga d env).bind (gs ds) := rfl
theorem x_gtp {gs : List D → Ev → Option Ev} : gTp gs (.tup ds) env = gs ds env := rfl
theorem x_gls {gs : List D → Ev → Option Ev} : gLs gs (.lst ds) env = gs ds env := rfl
def KAs (ga : D → Ev → Option Ev) (e : Ev) (d : D) : Rs Fl := optR (ga d e)
theorem x_asg {ga : D → Ev → Option Ev} : fAsg fa ga env = (fa env).bind (KAs ga) := by
  unfold fAsg
  congr
def KQ (e : Ev) (d : D) : Rs (List D) := lift e (itemsD d)
theorem x_q : fiQ fa env = (fa env).bind KQ := rfl
def KiS (e : Ev) : D → Rs (List D)
  | .str x => .ok e (strD x)
  | _ => .no
theorem x_iS : fiS fa env = (fa env).bind KiS := by
  unfold fiS
  congr
theorem kiS_s {s : Str} : KiS e (.str s) = .ok e (strD s) := rfl
def KR1 (e : Ev) : List D → Rs (List D)
  | [.int n] => if okR n = true then .ok e (rangeD 0 n.toNat) else .no
  | _ => .no
theorem x_r1 : fiR1 fl env = (fl env).bind KR1 := by
  unfold fiR1
  congr
theorem kR1_i {n : Int} (h0 : -(2 ^ 62) ≤ n) (h1 : n < 2 ^ 62) : KR1 e [.int n] = .ok e (rangeD 0 n.toNat) := if_pos (decide_eq_true ⟨h0, h1⟩)
def KFo (ga : D → Ev → Option Ev) (sb : Ev → Rs Fl) (e : Ev) (ds : List D) : Rs Fl := loopF ga sb ds e
theorem x_for {ga : D → Ev → Option Ev} : fFor fl ga sb env = (fl env).bind (KFo ga sb) := rfl
def KCl (n : Nat) (gd : List Sl → Rs Dr) (dv : List D) (e : Ev) (ds : List D) : Rs Dr := if Nat.beq (ds ++ dv).length n = true then unpv e (pv gd (ds ++ dv)) else .no
theorem x_call {gd : List Sl → Rs Dr} : fCall n gd dv fl env = (fl env).bind (KCl n gd dv) := by
  unfold fCall
  congr
  funext e ds
  unfold KCl
  rw [back_pv]
  rfl
def KSR (e : Ev) : Dr → Rs D
  | .sh d => .ok e d
  | .fr ds => .ok e (.lst ds)
theorem x_shR {fd : Ev → Rs Dr} : fShR fd env = (fd env).bind KSR := by
  unfold fShR
  congr
theorem kSR_sh : KSR e (.sh d) = .ok e d := rfl
theorem kSR_fr : KSR e (.fr ds) = .ok e (.lst ds) := rfl
def KFR (e : Ev) : Dr → Rs (List D)
  | .fr ds => .ok e ds
  | _ => .no
theorem x_frR {fd : Ev → Rs Dr} : fFrR fd env = (fd env).bind KFR := by
  unfold fFrR
  congr
theorem kFR_fr : KFR e (.fr ds) = .ok e ds := rfl
def KCRb (e : Ev) (i : Nat) (gd : List Sl → Rs Dr) (ds : List D) : Option Ob → Rs Dr
  | some o => unpw e i (pw gd o ds)
  | none => .no
theorem kCRb_s {gd : List Sl → Rs Dr} {o : Ob} : KCRb e i gd ds (some o) = unpw e i (pw gd o ds) := rfl
def KCR (i n : Nat) (gd : List Sl → Rs Dr) (dv : List D) (e : Ev) (ds : List D) : Rs Dr := if Nat.beq ((ds ++ dv).length + 1) n = true then KCRb e i gd (ds ++ dv) (ob? e[i]?) else .no
theorem x_callR {gd : List Sl → Rs Dr} : fCallR i n gd dv fl env = if (ob? env[i]?).isSome = true then (fl env).bind (KCR i n gd dv) else .no := by
  unfold fCallR
  split <;> (try rfl)
  congr
  funext e ds
  unfold KCR
  split <;> (try rfl)
  cases (ob? e[i]?) with
  | none => rfl
  | some o => exact backR_pw
theorem ob_ow {o : Ob} : ob? (some (.ow o)) = some o := rfl
theorem ob_rf {o : Ob} : ob? (some (.rf o)) = some o := rfl
theorem putOb_s {o : Ob} {s : Sl} (h : e[i]? = some s) : putOb e i o = e.set i (reob o s) := by unfold putOb; rw [h]
theorem reob_ow {o o' : Ob} : reob o (.ow o') = .ow o := rfl
theorem reob_rf {o o' : Ob} : reob o (.rf o') = .rf o := rfl
theorem x_fld {Cs : List Str} {f : Str} : fFld Cs f fa env = (fa env).bind (K1 (lookC Cs f)) := rfl
def KCh3 (g' : D → D → Option D) (fc : Ev → Rs D) (e : Ev) (y : D) : Option D → Rs D
  | some (.bl true) => (fc e).bind (K2b g' y)
  | some (.bl false) => .ok e (.bl false)
  | _ => .no
def KCh2 (g g' : D → D → Option D) (fc : Ev → Rs D) (x : D) (e : Ev) (y : D) : Rs D := KCh3 g' fc e y (g x y)
def KCh1 (g g' : D → D → Option D) (fb fc : Ev → Rs D) (e : Ev) (x : D) : Rs D := (fb e).bind (KCh2 g g' fc x)
theorem x_chain : fChain g g' fa fb fc env = (fa env).bind (KCh1 g g' fb fc) := by
  unfold fChain
  congr
theorem kCh3_b : KCh3 g' fc e y (some (.bl b)) = if b = true then (fc e).bind (K2b g' y) else .ok e (.bl false) := by cases b <;> rfl
def KM2 (g : D → D → Option D) (fb : Ev → Rs D) (e : Ev) (x : D) : Rs D := if isStr x = true then (fb e).bind (K2b g x) else .no
theorem x_m1 : fM1 g fa fb env = (fa env).bind (KM2 g fb) := rfl
theorem isStr_s {s : Str} : isStr (.str s) = true := rfl
def KNw (gl : List D → Option (List D)) (e : Ev) (xs : List D) : Rs (List D) := lift e (gl xs)
theorem x_new {gl : List D → Option (List D)} : fNewL gl fl env = (fl env).bind (KNw gl) := rfl
theorem x_noP : fNoP env = .ok env none := rfl
def KP (e : Ev) : D → Rs (Option Int)
  | .int i => .ok e (some i)
  | _ => .no
theorem x_p : fP fa env = (fa env).bind KP := by
  unfold fP
  congr
theorem kP_i {j : Int} : KP e (.int j) = .ok e (some j) := rfl
def KCt3 (l h : Option Int) (e : Ev) : D → Rs D
  | .tup ds => .ok e (.tup (cutD ds l h))
  | _ => .no
def KCt2 (x : D) (l : Option Int) (e : Ev) (h : Option Int) : Rs D := KCt3 l h e x
def KCt1 (fh : Ev → Rs (Option Int)) (x : D) (e : Ev) (l : Option Int) : Rs D := (fh e).bind (KCt2 x l)
def KCt0 (fp fh : Ev → Rs (Option Int)) (e : Ev) (x : D) : Rs D := (fp e).bind (KCt1 fh x)
theorem x_cutT {fp fh : Ev → Rs (Option Int)} : fCutT fa fp fh env = (fa env).bind (KCt0 fp fh) := by
  unfold fCutT
  congr
theorem kCt3_t {l h : Option Int} : KCt3 l h e (.tup ds) = .ok e (.tup (cutD ds l h)) := rfl
def KPb (i j : Nat) (x : D) (e : Ev) (y : D) : Rs Fl := optR ((put e i (.sh x)).bind fun e1 => put e1 j (.sh y))
def KPa (i j : Nat) (fb : Ev → Rs D) (e : Ev) (x : D) : Rs Fl := (fb e).bind (KPb i j x)
theorem x_par2 {j : Nat} : fPar2 i j fa fb env = (fa env).bind (KPa i j fb) := by
  unfold fPar2
  congr
  funext e x
  unfold KPa
  congr
  funext e y
  unfold KPb
  cases put e i (.sh x) with
  | none => rfl
  | some e1 =>
    show _ = optR (put e1 j (.sh y))
    cases h : put e1 j (.sh y) <;> simp [h, optR]
def KRp (y z : Str) (e : Ev) : D → Rs D
  | .str v => if szS v = true then .ok e (.str (Txt.replace v y z)) else .no
  | _ => .no
theorem x_rep {y z : Str} : fRep y z fa env = (fa env).bind (KRp y z) := by
  unfold fRep
  congr
theorem kRp_s {y z v : Str} : KRp y z e (.str v) = if szS v = true then .ok e (.str (Txt.replace v y z)) else .no := rfl
def KWo (c : Str) (e : Ev) : D → Rs D
  | .tup [dp, .str xs] => if szS xs = true then .ok e (.tup [dp, .str (Txt.replace xs c "")]) else .no
  | _ => .no
theorem x_wo {c : Str} : fWo c fa env = (fa env).bind (KWo c) := by
  unfold fWo
  congr
def KRs (C f : Str) (e : Ev) (d : D) : Rs Fl := .er e C f d
theorem x_raise {C f : Str} : fRaise C f fa env = (fa env).bind (KRs C f) := rfl
/-- values of both ways -/
theorem ok_and {P : Prop} [Decidable P] {c : Bool} : (if P then Rs.ok e (D.bl c) else Rs.ok e (D.bl false)) = Rs.ok e (D.bl (decide P && c)) := by split <;> simp_all
theorem ok_or {P : Prop} [Decidable P] {c : Bool} : (if P then Rs.ok e (D.bl true) else Rs.ok e (D.bl c)) = Rs.ok e (D.bl (decide P || c)) := by split <;> simp_all
theorem okb_and {P : Prop} [Decidable P] {c : Bool} : (if P then Rs.ok e c else Rs.ok e false) = Rs.ok e (decide P && c) := by split <;> simp_all
theorem okb_or {P : Prop} [Decidable P] {c : Bool} : (if P then Rs.ok e true else Rs.ok e c) = Rs.ok e (decide P || c) := by split <;> simp_all
theorem ok_if {α : Type} {P : Prop} [Decidable P] {x y : α} : (if P then Rs.ok e x else Rs.ok e y) = Rs.ok e (if P then x else y) := by split <;> rfl
end
/-! ### comprehensions -/
theorem lc_map {α : Type} {vs : List Nat} {fi : Ev → Rs (List D)} {g : D → Ev → Option Ev} {fe : Ev → Rs D} {env e0 : Ev} {inp out : α → D} {xs : List α} (hi : fi env = .ok env (xs.map inp)) (hp : (vs.all fun v => plainSl env[v]?) = true) (hw : wipeE env vs = e0) (hb : backE env e0 vs = env) (hl : xs.length ≤ 1000)
    (h : ∀ x ∈ xs, ∃ e1 e2, g (inp x) e0 = some e1 ∧ fe e1 = .ok e2 (out x) ∧ wipeE e2 vs = e0) : fLc vs fi g fYes fe env = .ok env (xs.map out) := by
  have := loopC_map (vs := vs) (g := g) (fe := fe) (e := e0) (inp := inp) (out := out) xs [] (by simpa using hl) h
  rw [List.nil_append] at this
  rw [← hw] at this
  rw [lc_ok hi hp this, hw, hb]
end DL

end

section
set_option Elab.async false
set_option linter.all false
set_option maxRecDepth 100000
set_option maxHeartbeats 2000000
/-! EC: plain data operations on plain data. -/
namespace DL
open PySem L2
section
variable {a b : Int} {ds : List D} {x y z u : D}
theorem dLe_i : dLe (.int a) (.int b) = some (.bl (decide (a ≤ b))) := rfl
theorem dLt_i : dLt (.int a) (.int b) = some (.bl (decide (a < b))) := rfl
theorem dGt_i : dGt (.int a) (.int b) = some (.bl (decide (b < a))) := rfl
theorem dGe_i : dGe (.int a) (.int b) = some (.bl (decide (b ≤ a))) := rfl
theorem dAdd_i : dAdd (.int a) (.int b) = some (.int (a + b)) := rfl
theorem dSub_i : dSub (.int a) (.int b) = some (.int (a - b)) := rfl
theorem gLen_t : gLen [.tup ds] = some (.int ds.length) := rfl
theorem gLen_l : gLen [.lst ds] = some (.int ds.length) := rfl
theorem gTup_0 : gTup [] = some (.tup []) := rfl
theorem gTup_1 : gTup [x] = some (.tup [x]) := rfl
theorem gTup_2 : gTup [x, y] = some (.tup [x, y]) := rfl
theorem gTup_3 : gTup [x, y, z] = some (.tup [x, y, z]) := rfl
theorem gTup_4 : gTup [x, y, z, u] = some (.tup [x, y, z, u]) := rfl
theorem isN_n : dIsN .non .non = some (.bl true) := rfl
theorem notN_n : dNotN .non .non = some (.bl false) := rfl
theorem isN_t : dIsN (.tup ds) .non = some (.bl false) := rfl
theorem notN_t : dNotN (.tup ds) .non = some (.bl true) := rfl
theorem items_t : itemsD (.tup ds) = some ds := rfl
theorem items_l : itemsD (.lst ds) = some ds := rfl
theorem dEq_i : dEq (.int a) (.int b) = some (.bl (decide (a = b))) := by
  show some (D.bl (a == b)) = _
  congr 2
theorem dNe_i : dNe (.int a) (.int b) = some (.bl (!decide (a = b))) := by
  show some (D.bl (!(a == b))) = _
  congr 2
theorem gLst_s (h : ds.length ≤ 1000) : gLst ds = some (.lst ds) := if_pos h
theorem dAdd_l {es : List D} (h : ds.length + es.length ≤ 1000) : dAdd (.lst ds) (.lst es) = some (.lst (ds ++ es)) := by
  have h' : small (ds.length + es.length) = true := Nat.ble_eq_true_of_le h
  have e : dAddL (.lst ds) (.lst es) = some (.lst (ds ++ es)) := if_pos h'
  show (dAddL (.lst ds) (.lst es)).or _ = _
  rw [e]
  rfl
theorem cut_hi {α : Type} {xs : List α} {k : Nat} : cutD xs none (some (k : Int)) = xs.take k := by
  unfold cutD
  rw [HT.sIx_none, HT.sIx_nat]
  simp only [List.drop_zero, Nat.sub_zero]
  rw [Nat.min_comm]
  by_cases h : k ≤ xs.length
  · rw [Nat.min_eq_right h]
  · rw [Nat.min_eq_left (by omega), List.take_of_length_le (by omega), List.take_of_length_le (by omega)]
theorem cut_lo {α : Type} {xs : List α} {k : Nat} : cutD xs (some (k : Int)) none = xs.drop k := by
  unfold cutD
  rw [HT.sIx_none, HT.sIx_nat]
  by_cases h : k ≤ xs.length
  · rw [Nat.min_eq_left h, List.take_of_length_le (by simp)]
  · rw [Nat.min_eq_right (by omega), List.drop_of_length_le (by omega), List.drop_of_length_le (by omega)]
    simp
theorem ix_t {k : Nat} (h : ds[k]? = some x) : dIx (.tup ds) (.int (k : Int)) = some x := by
  obtain ⟨hl, h⟩ := List.getElem?_eq_some_iff.mp h
  show (atI ds (k : Int)).or _ = _
  have : atI ds (k : Int) = some x := by simp [atI, ixN, hl, h]
  rw [this]
  rfl
theorem ix_l {k : Nat} (h : ds[k]? = some x) : dIx (.lst ds) (.int (k : Int)) = some x := by
  obtain ⟨hl, h⟩ := List.getElem?_eq_some_iff.mp h
  show (atI ds (k : Int)).or _ = _
  have : atI ds (k : Int) = some x := by simp [atI, ixN, hl, h]
  rw [this]
  rfl
theorem ix_t0 : dIx (.tup (x :: ds)) (.int 0) = some x := ix_t (k := 0) rfl
theorem ix_t1 : dIx (.tup (y :: x :: ds)) (.int 1) = some x := ix_t (k := 1) rfl
theorem ix_t2 : dIx (.tup (z :: y :: x :: ds)) (.int 2) = some x := ix_t (k := 2) rfl
theorem ix_l0 : dIx (.lst (x :: ds)) (.int 0) = some x := ix_l (k := 0) rfl
theorem ix_l1 : dIx (.lst (y :: x :: ds)) (.int 1) = some x := ix_l (k := 1) rfl
theorem ix_l2 : dIx (.lst (z :: y :: x :: ds)) (.int 2) = some x := ix_l (k := 2) rfl
end
theorem pv_of {g : List Sl → Rs Dr} {ds : List D} {d : D} (h : ∃ e, g (ds.map .sh) = .ok e (.sh d)) : pv g ds = .val d := by
  obtain ⟨e, h⟩ := h
  unfold pv
  rw [h]
  rfl
end DL

end

section
set_option Elab.async false
set_option linter.all false
set_option maxRecDepth 100000
set_option maxHeartbeats 2000000
/-! ED: comprehensions, run. -/
namespace DL
open PySem L2
def isUn : Option Sl → Bool
  | some .un => true
  | _ => false
def unAt (e : Ev) (v : Nat) : Bool := isUn e[v]?
theorem unAt_eq {e : Ev} {v : Nat} (h : unAt e v = true) : e[v]? = some .un := by
  unfold unAt at h
  generalize e[v]? = o at h ⊢
  cases o with
  | none => cases h
  | some s => cases s <;> first | rfl | cases h
theorem unAt_0 {r : Ev} : unAt (.un :: r) 0 = true := Eq.trans rfl rfl
theorem unAt_s {s : Sl} {r : Ev} {n : Nat} : unAt (s :: r) (n + 1) = unAt r n := Eq.trans rfl rfl
theorem set_un {e : Ev} {v : Nat} (h : unAt e v = true) : e.set v .un = e := by
  have := unAt_eq h
  obtain ⟨hl, h⟩ := List.getElem?_eq_some_iff.mp this
  rw [← h]
  exact List.set_getElem_self hl
theorem put_un {e : Ev} {v : Nat} {s : Sl} (h : unAt e v = true) : put e v s = some (e.set v s) := by
  unfold put
  rw [unAt_eq h]
  rfl
theorem var_set {e : Ev} {v : Nat} {d : D} (h : unAt e v = true) : fVar v (e.set v (.sh d)) = .ok (e.set v (.sh d)) d := by
  have hl := (List.getElem?_eq_some_iff.mp (unAt_eq h)).1
  unfold fVar
  rw [List.getElem?_set_self hl]
theorem unAt_set {e : Ev} {v u : Nat} {s : Sl} (h : unAt e u = true) (n : v ≠ u) : unAt (e.set v s) u = true := by
  unfold unAt
  rw [List.getElem?_set_ne n]
  exact h
theorem var_set2 {e : Ev} {v u : Nat} {d c : D} (h : unAt e v = true) (n : v ≠ u) : fVar v ((e.set v (.sh d)).set u (.sh c)) = .ok ((e.set v (.sh d)).set u (.sh c)) d := by
  have hl := (List.getElem?_eq_some_iff.mp (unAt_eq h)).1
  unfold fVar
  rw [List.getElem?_set_ne (Ne.symm n), List.getElem?_set_self hl]
theorem gt_set {e : Ev} {v : Nat} {s : Sl} (h : unAt e v = true) : (e.set v s)[v]? = some s := List.getElem?_set_self (List.getElem?_eq_some_iff.mp (unAt_eq h)).1
theorem gt_set2 {e : Ev} {v u : Nat} {s r : Sl} (h : unAt e v = true) (n : v ≠ u) : ((e.set v s).set u r)[v]? = some s := by
  rw [List.getElem?_set_ne (Ne.symm n)]
  exact gt_set h
def KLb (e : Ev) (vs : List Nat) : Option (Ev × List D) → Rs (List D)
  | some (e', acc) => .ok (backE e e' vs) acc
  | none => .no
def KLc (vs : List Nat) (g : D → Ev → Option Ev) (ft : Ev → Rs Bool) (fe : Ev → Rs D) (e : Ev) (ds : List D) : Rs (List D) :=
  if (vs.all fun v => plainSl e[v]?) = true then KLb e vs (loopC vs g ft fe ds [] (wipeE e vs)) else .no
theorem x_lc {vs : List Nat} {fi : Ev → Rs (List D)} {g : D → Ev → Option Ev} {ft : Ev → Rs Bool} {fe : Ev → Rs D} {env : Ev} : fLc vs fi g ft fe env = (fi env).bind (KLc vs g ft fe) := by
  unfold fLc
  congr
/-- one name, each item told -/
theorem kLc1 {α : Type} {v : Nat} {fe : Ev → Rs D} {env : Ev} {inp out : α → D} {xs : List α} (hu : unAt env v = true) (hl : xs.length ≤ 1000) (h : ∀ x ∈ xs, fe (env.set v (.sh (inp x))) = .ok (env.set v (.sh (inp x))) (out x)) : KLc [v] (gNm v) fYes fe env (xs.map inp) = .ok env (xs.map out) := by
  have hw : wipeE env [v] = env := set_un hu
  have := loopC_map (vs := [v]) (g := gNm v) (fe := fe) (e := env) (inp := inp) (out := out) xs [] (by simpa using hl) fun x hx => ⟨env.set v (.sh (inp x)), _, put_un hu, h x hx, by show (List.set (List.set env v (.sh (inp x))) v .un) = _; rw [List.set_set]; exact set_un hu⟩
  unfold KLc
  rw [hw, this, if_pos (by simp [unAt_eq hu, plainSl])]
  show Rs.ok (env.set v ((env[v]?).getD .un)) _ = _
  rw [unAt_eq hu]
  show Rs.ok (env.set v .un) _ = _
  rw [set_un hu]
  rfl
/-- one name, a test -/
theorem loopC_filt {α : Type} {vs : List Nat} {g : D → Ev → Option Ev} {ft : Ev → Rs Bool} {fe : Ev → Rs D} {e : Ev} {inp out : α → D} {p : α → Bool} : ∀ (xs : List α) (acc : List D), acc.length + xs.length ≤ 1000 →
    (∀ x ∈ xs, ∃ e1 e2, g (inp x) e = some e1 ∧ ft e1 = .ok e2 (p x) ∧ wipeE e2 vs = e ∧ (p x = true → ∃ e3, fe e2 = .ok e3 (out x) ∧ wipeE e3 vs = e)) → loopC vs g ft fe (xs.map inp) acc e = some (e, acc ++ (xs.filter p).map out)
  | [], acc, _, _ => by simp [loopC]
  | x :: r, acc, hl, h => by
    obtain ⟨e1, e2, h1, h2, h3, h4⟩ := h x List.mem_cons_self
    have hs : small acc.length = true := Nat.ble_eq_true_of_le (by simp at hl; omega)
    rw [List.map_cons]
    unfold loopC
    cases hp : p x with
    | true =>
      obtain ⟨e3, h5, h6⟩ := h4 hp
      have st : stepC vs g ft fe (inp x) acc e = some (e, acc ++ [out x]) := by
        unfold stepC
        rw [hp] at h2
        simp only [h1, h2, h5, if_pos hs, h6]
      rw [st]
      dsimp only
      rw [loopC_filt r (acc ++ [out x]) (by simp at hl ⊢; omega) fun y hy => h y (List.mem_cons_of_mem _ hy)]
      simp [hp]
    | false =>
      have st : stepC vs g ft fe (inp x) acc e = some (e, acc) := by
        unfold stepC
        rw [hp] at h2
        simp only [h1, h2, h3]
      rw [st]
      dsimp only
      rw [loopC_filt r acc (by simp at hl ⊢; omega) fun y hy => h y (List.mem_cons_of_mem _ hy)]
      simp [hp]
theorem kLf1 {α : Type} {v : Nat} {ft : Ev → Rs Bool} {fe : Ev → Rs D} {env : Ev} {inp out : α → D} {p : α → Bool} {xs : List α} (hu : unAt env v = true) (hl : xs.length ≤ 1000) (ht : ∀ x ∈ xs, ft (env.set v (.sh (inp x))) = .ok (env.set v (.sh (inp x))) (p x)) (h : ∀ x ∈ xs, p x = true → fe (env.set v (.sh (inp x))) = .ok (env.set v (.sh (inp x))) (out x)) : KLc [v] (gNm v) ft fe env (xs.map inp) = .ok env ((xs.filter p).map out) := by
  have hw : wipeE env [v] = env := set_un hu
  have w2 : ∀ x, wipeE (env.set v (.sh (inp x))) [v] = env := fun x => by show (List.set (List.set env v (.sh (inp x))) v .un) = _; rw [List.set_set]; exact set_un hu
  have := loopC_filt (vs := [v]) (g := gNm v) (ft := ft) (fe := fe) (e := env) (inp := inp) (out := out) (p := p) xs [] (by simpa using hl) fun x hx => ⟨env.set v (.sh (inp x)), _, put_un hu, ht x hx, w2 x, fun q => ⟨_, h x hx q, w2 x⟩⟩
  unfold KLc
  rw [hw, this, if_pos (by simp [unAt_eq hu, plainSl])]
  show Rs.ok (env.set v ((env[v]?).getD .un)) _ = _
  rw [unAt_eq hu]
  show Rs.ok (env.set v .un) _ = _
  rw [set_un hu]
  rfl
/-- two names -/
theorem kLc2 {α : Type} {v u : Nat} {fe : Ev → Rs D} {env : Ev} {A B out : α → D} {xs : List α} (hv : unAt env v = true) (hu : unAt env u = true) (n : v ≠ u) (hl : xs.length ≤ 1000) (h : ∀ x ∈ xs, fe ((env.set v (.sh (A x))).set u (.sh (B x))) = .ok ((env.set v (.sh (A x))).set u (.sh (B x))) (out x)) : KLc [v, u] (gTp (gsCons (gNm v) (gsCons (gNm u) gsNil))) fYes fe env (xs.map fun x => .tup [A x, B x]) = .ok env (xs.map out) := by
  have hw : wipeE env [v, u] = env := by show (env.set u .un).set v .un = _; rw [set_un hu, set_un hv]
  have w2 : ∀ x, wipeE ((env.set v (.sh (A x))).set u (.sh (B x))) [v, u] = env := fun x => by
    show (((env.set v (.sh (A x))).set u (.sh (B x))).set u .un).set v .un = _
    rw [List.set_set, List.set_comm _ _ n, List.set_set, List.set_comm _ _ (Ne.symm n), set_un hv, set_un hu]
  have := loopC_map (vs := [v, u]) (g := gTp (gsCons (gNm v) (gsCons (gNm u) gsNil))) (fe := fe) (e := env) (inp := fun x => .tup [A x, B x]) (out := out) xs [] (by simpa using hl) fun x hx => ⟨(env.set v (.sh (A x))).set u (.sh (B x)), _, by
    show (put env v (.sh (A x))).bind _ = _
    rw [put_un hv]
    show (put (env.set v (.sh (A x))) u (.sh (B x))).bind _ = _
    rw [put_un (unAt_set hu n)]
    rfl, h x hx, w2 x⟩
  unfold KLc
  rw [hw, this, if_pos (by simp [unAt_eq hu, unAt_eq hv, plainSl])]
  show Rs.ok ((env.set u ((env[u]?).getD .un)).set v ((env[v]?).getD .un)) _ = _
  rw [unAt_eq hu, unAt_eq hv]
  show Rs.ok ((env.set u .un).set v .un) _ = _
  rw [set_un hu, set_un hv]
  rfl
/-! ### over a list that is written out -/
def sC3 (vs : List Nat) (acc : List D) : Rs D → Option (Ev × List D)
  | .ok e3 y => if small acc.length = true then some (wipeE e3 vs, acc ++ [y]) else none
  | _ => none
def sC2 (vs : List Nat) (fe : Ev → Rs D) (acc : List D) : Rs Bool → Option (Ev × List D)
  | .ok e2 b => if b = true then sC3 vs acc (fe e2) else some (wipeE e2 vs, acc)
  | _ => none
def sC1 (vs : List Nat) (ft : Ev → Rs Bool) (fe : Ev → Rs D) (acc : List D) : Option Ev → Option (Ev × List D)
  | some e1 => sC2 vs fe acc (ft e1)
  | none => none
def sC0 (vs : List Nat) (g : D → Ev → Option Ev) (ft : Ev → Rs Bool) (fe : Ev → Rs D) (r : List D) : Option (Ev × List D) → Option (Ev × List D)
  | some (e, a) => loopC vs g ft fe r a e
  | none => none
section
variable {vs : List Nat} {g : D → Ev → Option Ev} {ft : Ev → Rs Bool} {fe : Ev → Rs D} {d y : D} {r acc : List D} {e : Ev} {b : Bool}
theorem lo_nil : loopC vs g ft fe [] acc e = some (e, acc) := rfl
theorem lo_cons : loopC vs g ft fe (d :: r) acc e = sC0 vs g ft fe r (sC1 vs ft fe acc (g d e)) := by
  have : stepC vs g ft fe d acc e = sC1 vs ft fe acc (g d e) := by
    unfold stepC
    cases g d e with
    | none => rfl
    | some e1 =>
      show _ = sC2 vs fe acc (ft e1)
      dsimp only
      cases ft e1 with
      | ok e2 b =>
        cases b with
        | false => rfl
        | true =>
          show _ = sC3 vs acc (fe e2)
          dsimp only
          cases fe e2 <;> rfl
      | er => rfl
      | no => rfl
  unfold loopC
  rw [this]
  cases sC1 vs ft fe acc (g d e) with
  | none => rfl
  | some p => rfl
theorem s0_s : sC0 vs g ft fe r (some (e, acc)) = loopC vs g ft fe r acc e := rfl
theorem s1_s : sC1 vs ft fe acc (some e) = sC2 vs fe acc (ft e) := rfl
theorem s2_t : sC2 vs fe acc (.ok e true) = sC3 vs acc (fe e) := rfl
theorem s2_f : sC2 vs fe acc (.ok e false) = some (wipeE e vs, acc) := rfl
theorem s3_0 : sC3 vs [] (.ok e y) = some (wipeE e vs, [y]) := rfl
theorem s3_1 {a : D} : sC3 vs [a] (.ok e y) = some (wipeE e vs, [a, y]) := rfl
theorem kLb_s {e' : Ev} : KLb e vs (some (e', acc)) = .ok (backE e e' vs) acc := rfl
end
end DL

end

section
set_option Elab.async false
set_option linter.all false
set_option maxRecDepth 100000
set_option maxHeartbeats 2000000
/-! EE: calls of all kinds, try. -/
namespace DL
open PySem L2
def pa (g : GA) (ds zs : List D) : Rv := pvOf (g (ds.map .sh) zs)
def KCA (g : GA) (e : Ev) (p : List D × List D) : Rs Dr := unpv e (pa g p.1 p.2)
section
variable {env e : Ev} {g : GA} {fa : Ev → Rs (List D × List D)} {fl fk : Ev → Rs (List D)} {fo : Ev → Rs D} {n m i : Nat} {ds zs : List D} {gd : List Sl → Rs Dr} {T : List (Str × GA)} {x C f : Str} {d : D}
theorem x_callA : fCallA g fa env = (fa env).bind (KCA g) := by
  unfold fCallA
  congr
  funext e p
  exact back_pv
theorem x_aNo : faNo env = .ok env ([], []) := rfl
def KPl (e : Ev) (ds : List D) : Rs (List D × List D) := .ok e (ds, [])
theorem x_aPl : faPl fl env = (fl env).bind KPl := rfl
def KKb (m : Nat) (ds : List D) (e : Ev) (zs : List D) : Rs (List D × List D) := if Nat.beq zs.length m = true then .ok e (ds, zs) else .no
def KKa (m : Nat) (fk : Ev → Rs (List D)) (e : Ev) (ds : List D) : Rs (List D × List D) := (fk e).bind (KKb m ds)
theorem x_aKw : faKw m fl fk env = (fl env).bind (KKa m fk) := rfl
theorem pa_pl : pa (gPl n [] gd) ds zs = if Nat.beq ds.length n = true then pv gd ds else .no := by
  unfold pa gPl
  rw [List.length_map, List.length_nil, Nat.add_zero, List.map_nil, List.append_nil]
  split <;> rfl
theorem pa_kw {td : List D → List D} (h : (Nat.beq ds.length n && Nat.beq (ds.length + (td zs).length) m) = true) : pa (gKw n m td gd) ds zs = pv gd (ds ++ td zs) := by
  unfold pa gKw pv
  rw [List.length_map, if_pos h, List.map_append]
def KL2 (fa : Ev → Rs (List D × List D)) (env : Ev) : Option GA → Rs Dr
  | some g => fCallA g fa env
  | none => .no
def KL1 (T : List (Str × GA)) (fa : Ev → Rs (List D × List D)) (env : Ev) : Option Sl → Rs Dr
  | some (.sh (.glo x)) => KL2 fa env (T.lookup x)
  | _ => .no
theorem x_callL : fCallL i T fa env = KL1 T fa env env[i]? := by
  unfold fCallL
  generalize env[i]? = o
  cases o with
  | none => rfl
  | some s =>
    cases s with
    | sh d =>
      cases d with
      | glo x =>
        show _ = KL2 fa env (T.lookup x)
        dsimp only
        cases T.lookup x <;> rfl
      | _ => rfl
    | _ => rfl
theorem kL1_g : KL1 T fa env (some (.sh (.glo x))) = KL2 fa env (T.lookup x) := rfl
theorem kL2_s : KL2 fa env (some g) = fCallA g fa env := rfl
def KT2 (i : Nat) : Rs Fl → Rs Fl
  | .ok e2 (.rt r) => .ok e2 (.rt r)
  | .ok e2 f => if plainSl e2[i]? = true then .ok (e2.set i .un) f else .no
  | _ => .no
theorem kT2_rt {r : Dr} : KT2 i (.ok e (.rt r)) = .ok e (.rt r) := rfl
theorem kT2_if {c : Prop} [Decidable c] {r s : Rs Fl} : KT2 i (if c then r else s) = if c then KT2 i r else KT2 i s := by split <;> rfl
def KTy (cs : List (Str × Bool)) (i : Nat) (fl0 : Str) (fs : D → Ev → Rs Fl) : Rs Fl → Rs Fl
  | .er e C fl d => (match cs.lookup C with
    | some true => if fl = fl0 ∧ plainSl e[i]? = true then KT2 i (fs d (e.set i .un)) else .no
    | some false => .er e C fl d
    | none => .no)
  | r => r
theorem x_try {cs : List (Str × Bool)} {fl0 : Str} {fb : Ev → Rs Fl} {fs : D → Ev → Rs Fl} : fTry cs i fl0 fb fs env = KTy cs i fl0 fs (fb env) := by
  unfold fTry KTy
  cases fb env with
  | ok e f => rfl
  | no => rfl
  | er e C fl d =>
    dsimp only
    cases cs.lookup C with
    | none => rfl
    | some b =>
      cases b with
      | false => rfl
      | true =>
        dsimp only
        split
        · unfold KT2
          rfl
        · rfl
theorem kTy_ok {cs : List (Str × Bool)} {fl0 : Str} {fs : D → Ev → Rs Fl} {r : Fl} : KTy cs i fl0 fs (.ok e r) = .ok e r := rfl
theorem kTy_hit {cs : List (Str × Bool)} {fs : D → Ev → Rs Fl} (h : cs.lookup C = some true) : KTy cs i f fs (.er e C f d) = if plainSl e[i]? = true then KT2 i (fs d (e.set i .un)) else .no := by
  unfold KTy
  dsimp only
  rw [h]
  dsimp only
  simp only [true_and]
theorem kTy_if {cs : List (Str × Bool)} {fl0 : Str} {fs : D → Ev → Rs Fl} {c : Prop} [Decidable c] {r s : Rs Fl} : KTy cs i fl0 fs (if c then r else s) = if c then KTy cs i fl0 fs r else KTy cs i fl0 fs s := by split <;> rfl
theorem pl_un : plainSl (some .un) = true := rfl
theorem pl_sh : plainSl (some (.sh d)) = true := rfl
end
theorem all_map {α : Type} {p : α → Bool} : ∀ xs : List α, gAll [.lst (xs.map fun x => .bl (p x))] = some (.bl (xs.all p)) := fun xs => by
  have h : ∀ xs : List α, blsD (xs.map fun x => .bl (p x)) = some (xs.map p) := by
    intro xs
    induction xs with
    | nil => rfl
    | cons _ _ ih => simp [blsD, ih]
  show (blsD _).map _ = _
  rw [h]
  simp [List.all_map]
end DL

end

section
set_option Elab.async false
set_option linter.all false
set_option maxRecDepth 100000
set_option maxHeartbeats 2000000
/-! EF: own objects, run. -/
namespace DL
open PySem L2
def pwFl : Rs Fl → Rw
  | .ok (.rf o :: _) .nx => .val o (.sh .non)
  | .ok (.rf o :: _) (.rt d) => .val o d
  | .er (.rf o :: _) C fl d => .err o C fl d
  | _ => .no
section
variable {env e : Ev} {o : Ob} {ds : List D} {d y : D} {i n : Nat} {fa fb : Ev → Rs D} {r : Dr}
theorem pw_gOf {m : Nat} {f : Ev → Rs Fl} : pw (gOf m f) o ds = pwFl (f (.rf o :: ds.map .sh ++ List.replicate (m - (ds.length + 1)) .un)) := by
  unfold pw gOf
  rw [List.length_cons, List.length_map]
  generalize f (Sl.rf o :: List.map Sl.sh ds ++ List.replicate (m - (ds.length + 1)) Sl.un) = r
  cases r with
  | ok e fl =>
    cases e with
    | nil => cases fl <;> rfl
    | cons s e => cases s <;> cases fl <;> rfl
  | er e C fl d =>
    cases e with
    | nil => rfl
    | cons s e => cases s <;> rfl
  | no => rfl
theorem pwFl_rt : pwFl (.ok (.rf o :: e) (.rt r)) = .val o r := rfl
theorem pwFl_nx : pwFl (.ok (.rf o :: e) .nx) = .val o (.sh .non) := rfl
theorem pw_of {g : List Sl → Rs Dr} {o' : Ob} (h : g (.rf o :: ds.map .sh) = .ok (.rf o' :: e) r) : pw g o ds = .val o' r := by
  unfold pw
  rw [h]
  rfl
def KIx2 (e : Ev) : Option Ob → D → Rs D
  | some (.lst ds), .int j => lift e (atI ds j)
  | _, _ => .no
def KIx (i : Nat) (e : Ev) (y : D) : Rs D := KIx2 e (ob? e[i]?) y
theorem x_ixO : fIxO i fb env = if (ob? env[i]?).isSome = true then (fb env).bind (KIx i) else .no := by
  unfold fIxO
  split <;> (try rfl)
theorem kIx2_l {j : Int} : KIx2 e (some (.lst ds)) (.int j) = lift e (atI ds j) := rfl
def KSx4 (e : Ev) (i : Nat) (d : D) (ds : List D) : Option Nat → Rs Fl
  | some n => .ok (putOb e i (.lst (ds.set n d))) .nx
  | none => .no
def KSx3 (e : Ev) (i : Nat) (d : D) : Option Ob → D → Rs Fl
  | some (.lst ds), .int j => KSx4 e i d ds (ixN ds.length j)
  | _, _ => .no
def KSx2 (i : Nat) (d : D) (e : Ev) (y : D) : Rs Fl := KSx3 e i d (ob? e[i]?) y
def KSx1 (i : Nat) (fb : Ev → Rs D) (e : Ev) (d : D) : Rs Fl := if (ob? e[i]?).isSome = true then (fb e).bind (KSx2 i d) else .no
theorem x_setIx : fSetIx i fa fb env = (fa env).bind (KSx1 i fb) := by
  unfold fSetIx
  congr
theorem kSx3_l {j : Int} : KSx3 e i d (some (.lst ds)) (.int j) = KSx4 e i d ds (ixN ds.length j) := rfl
theorem kSx4_s : KSx4 e i d ds (some n) = .ok (putOb e i (.lst (ds.set n d))) .nx := rfl
def KBo (env : Ev) : Rs D → Rs D
  | .ok _ d => if imm d = true then .ok env d else .no
  | .er _ C fl d => if imm d = true then .er env C fl d else .no
  | .no => .no
theorem x_bor : fBor fa env = KBo env (fa (env.map shSl)) := by
  unfold fBor KBo
  cases fa (env.map shSl) <;> rfl
theorem kBo_ok : KBo env (.ok e d) = if imm d = true then .ok env d else .no := rfl
def KBT (env : Ev) : Rs Bool → Rs Bool
  | .ok _ b => .ok env b
  | .er _ C fl d => if imm d = true then .er env C fl d else .no
  | .no => .no
theorem x_borT {ft : Ev → Rs Bool} : fBorT ft env = KBT env (ft (env.map shSl)) := by
  unfold fBorT KBT
  cases ft (env.map shSl) <;> rfl
theorem kBT_ok {b : Bool} : KBT env (.ok e b) = .ok env b := rfl
def KBF (env : Ev) : Rs (List D) → Rs (List D)
  | .ok _ ds => if immA ds = true then .ok env ds else .no
  | .er _ C fl d => if imm d = true then .er env C fl d else .no
  | .no => .no
theorem x_borF {f : Ev → Rs (List D)} : fBorF f env = KBF env (f (env.map shSl)) := by
  unfold fBorF KBF
  cases f (env.map shSl) <;> rfl
theorem kBF_ok : KBF env (.ok e ds) = if immA ds = true then .ok env ds else .no := rfl
theorem sh_ow : shSl (.ow (.lst ds)) = .sh (.lst ds) := rfl
theorem sh_rf : shSl (.rf (.lst ds)) = .sh (.lst ds) := rfl
theorem sh_sh : shSl (.sh d) = .sh d := rfl
theorem sh_un : shSl .un = .un := rfl
theorem imm_i {j : Int} : imm (.int j) = true := rfl
theorem imm_b {b : Bool} : imm (.bl b) = true := rfl
theorem imm_s {s : Str} : imm (.str s) = true := rfl
theorem ixN_ok {n k : Nat} (h : k < n) : ixN n (k : Int) = some k := by simp [ixN, h]
theorem atI_ok {k : Nat} (h : ds[k]? = some d) : atI ds (k : Int) = some d := by
  obtain ⟨hl, h⟩ := List.getElem?_eq_some_iff.mp h
  simp [atI, ixN, hl, h]
end
end DL

end

section
set_option Elab.async false
set_option linter.all false
set_option maxRecDepth 100000
set_option maxHeartbeats 2000000
/-! TA: words, keys, jobs as plain data. -/
namespace LP
open PySem L2 DL LW
inductive Wd where
  | check | clear | confirm | free | hold | look | next | once | put | work
  deriving DecidableEq
def Wd.s : Wd → Str
  | .check => "check" | .clear => "clear" | .confirm => "confirm" | .free => "free" | .hold => "hold" | .look => "look" | .next => "next" | .once => "once" | .put => "put" | .work => "work"
def Wd.d (w : Wd) : D := .str w.s
theorem wd_of {x : D} (h : x ∈ words10) : ∃ w : Wd, x = w.d := by
  simp only [List.mem_cons, List.not_mem_nil, or_false] at h
  rcases h with rfl | rfl | rfl | rfl | rfl | rfl | rfl | rfl | rfl | rfl
  · exact ⟨.check, rfl⟩
  · exact ⟨.clear, rfl⟩
  · exact ⟨.confirm, rfl⟩
  · exact ⟨.free, rfl⟩
  · exact ⟨.hold, rfl⟩
  · exact ⟨.look, rfl⟩
  · exact ⟨.next, rfl⟩
  · exact ⟨.once, rfl⟩
  · exact ⟨.put, rfl⟩
  · exact ⟨.work, rfl⟩
theorem wds_of : ∀ {l : List D}, (∀ x ∈ l, x ∈ words10) → ∃ ws : List Wd, l = ws.map Wd.d
  | [], _ => ⟨[], rfl⟩
  | x :: r, h => by
    obtain ⟨w, rfl⟩ := wd_of (h x List.mem_cons_self)
    obtain ⟨ws, rfl⟩ := wds_of (l := r) fun y hy => h y (List.mem_cons_of_mem _ hy)
    exact ⟨w :: ws, rfl⟩
section
variable (w : Wd)
theorem w_check : dEq w.d (.str "check") = some (.bl (decide (w = .check))) := by cases w <;> kernel_rfl
theorem w_clear : dEq w.d (.str "clear") = some (.bl (decide (w = .clear))) := by cases w <;> kernel_rfl
theorem w_confirm : dEq w.d (.str "confirm") = some (.bl (decide (w = .confirm))) := by cases w <;> kernel_rfl
theorem w_free : dEq w.d (.str "free") = some (.bl (decide (w = .free))) := by cases w <;> kernel_rfl
theorem w_hold : dEq w.d (.str "hold") = some (.bl (decide (w = .hold))) := by cases w <;> kernel_rfl
theorem w_look : dEq w.d (.str "look") = some (.bl (decide (w = .look))) := by cases w <;> kernel_rfl
theorem w_next : dEq w.d (.str "next") = some (.bl (decide (w = .next))) := by cases w <;> kernel_rfl
theorem w_once : dEq w.d (.str "once") = some (.bl (decide (w = .once))) := by cases w <;> kernel_rfl
theorem w_put : dEq w.d (.str "put") = some (.bl (decide (w = .put))) := by cases w <;> kernel_rfl
theorem w_work : dEq w.d (.str "work") = some (.bl (decide (w = .work))) := by cases w <;> kernel_rfl
theorem w_none : dEq w.d (.str "") = some (.bl false) := by cases w <;> kernel_rfl
end
inductive Ky where
  | free | held | lost
  deriving DecidableEq
def Ky.s : Ky → Str
  | .free => "free" | .held => "held" | .lost => "lost"
def swS : Bool → Str
  | true => "on"
  | false => "off"
section
variable (k : Ky) (s : Bool)
theorem k_free : dEq (.str k.s) (.str "free") = some (.bl (decide (k = .free))) := by cases k <;> kernel_rfl
theorem k_held : dEq (.str k.s) (.str "held") = some (.bl (decide (k = .held))) := by cases k <;> kernel_rfl
theorem k_lost : dEq (.str k.s) (.str "lost") = some (.bl (decide (k = .lost))) := by cases k <;> kernel_rfl
theorem k_nfree : dNe (.str k.s) (.str "free") = some (.bl (!decide (k = .free))) := by cases k <;> kernel_rfl
theorem s_on : dEq (.str (swS s)) (.str "on") = some (.bl s) := by cases s <;> kernel_rfl
theorem s_off : dEq (.str (swS s)) (.str "off") = some (.bl (!s)) := by cases s <;> kernel_rfl
theorem Ky.is : k.s = "free" ∨ k.s = "held" ∨ k.s = "lost" := by cases k <;> simp [Ky.s]
end
section
variable (b e f k : Bool)
theorem f_b : dIn (.str "b") (.str (flS b e f k)) = some (.bl b) := by cases b <;> cases e <;> cases f <;> cases k <;> kernel_rfl
theorem f_e : dIn (.str "e") (.str (flS b e f k)) = some (.bl e) := by cases b <;> cases e <;> cases f <;> cases k <;> kernel_rfl
theorem f_f : dIn (.str "f") (.str (flS b e f k)) = some (.bl f) := by cases b <;> cases e <;> cases f <;> cases k <;> kernel_rfl
theorem f_k : dIn (.str "k") (.str (flS b e f k)) = some (.bl k) := by cases b <;> cases e <;> cases f <;> cases k <;> kernel_rfl
theorem f_nb : dNotIn (.str "b") (.str (flS b e f k)) = some (.bl (!b)) := by cases b <;> cases e <;> cases f <;> cases k <;> kernel_rfl
theorem f_ne : dNotIn (.str "e") (.str (flS b e f k)) = some (.bl (!e)) := by cases b <;> cases e <;> cases f <;> cases k <;> kernel_rfl
theorem f_nk : dNotIn (.str "k") (.str (flS b e f k)) = some (.bl (!k)) := by cases b <;> cases e <;> cases f <;> cases k <;> kernel_rfl
theorem f_sz : szS (flS b e f k) = true := by cases b <;> cases e <;> cases f <;> cases k <;> kernel_rfl
theorem r_k : Txt.replace (flS b e f k) "k" "" = flS b e f false := by cases b <;> cases e <;> cases f <;> cases k <;> kernel_rfl
theorem r_f : Txt.replace (flS b e f k) "f" "" = flS b e false k := by cases b <;> cases e <;> cases f <;> cases k <;> kernel_rfl
end
inductive Wt where
  | no | always | nothing | present | waiting
  deriving DecidableEq
def Wt.d : Wt → D
  | .no => .non | .always => .str "always" | .nothing => .str "nothing" | .present => .str "present" | .waiting => .str "waiting"
inductive La where
  | no | any | lost
  deriving DecidableEq
def La.d : La → D
  | .no => .non | .any => .str "any" | .lost => .str "lost"
def stL : Bool → Bool → List D
  | false, false => [] | true, false => [.str "once"] | false, true => [.str "raise"] | true, true => [.str "once", .str "raise"]
section
variable (t : Wt) (l : La) (o r : Bool)
theorem t_always : dEq t.d (.str "always") = some (.bl (decide (t = .always))) := by cases t <;> kernel_rfl
theorem t_nothing : dEq t.d (.str "nothing") = some (.bl (decide (t = .nothing))) := by cases t <;> kernel_rfl
theorem t_present : dEq t.d (.str "present") = some (.bl (decide (t = .present))) := by cases t <;> kernel_rfl
theorem t_waiting : dEq t.d (.str "waiting") = some (.bl (decide (t = .waiting))) := by cases t <;> kernel_rfl
theorem l_any : dEq l.d (.str "any") = some (.bl (decide (l = .any))) := by cases l <;> kernel_rfl
theorem l_lost : dEq l.d (.str "lost") = some (.bl (decide (l = .lost))) := by cases l <;> kernel_rfl
theorem st_once : dIn (.str "once") (.tup (stL o r)) = some (.bl o) := by cases o <;> cases r <;> kernel_rfl
theorem st_raise : dIn (.str "raise") (.tup (stL o r)) = some (.bl r) := by cases o <;> cases r <;> kernel_rfl
theorem sl_once : dIn (.str "once") (.lst (stL o r)) = some (.bl o) := by cases o <;> cases r <;> kernel_rfl
theorem sl_raise : dIn (.str "raise") (.lst (stL o r)) = some (.bl r) := by cases o <;> cases r <;> kernel_rfl
end
/-- a job -/
structure Jb where
  rows : List Wd
  last : List Wd
  once : Bool
  rais : Bool
  wt : Wt
  la : La
namespace Jb
variable (j : Jb)
def words : List Wd := j.rows ++ j.last
def d : D := jobD (j.rows.map Wd.d) (j.last.map Wd.d) (stL j.once j.rais) j.wt.d j.la.d
def pts : D := .lst [.lst (j.rows.map Wd.d), .lst (j.last.map Wd.d), .lst (stL j.once j.rais), j.wt.d, j.la.d]
theorem l_words : lookC ["Job"] "words" j.d = some (.tup (j.words.map Wd.d)) := by
  show some (D.tup (j.rows.map Wd.d ++ j.last.map Wd.d)) = _
  rw [← List.map_append]
  rfl
theorem l_rows : lookC ["Job"] "rows" j.d = some (.tup (j.rows.map Wd.d)) := rfl
theorem l_last : lookC ["Job"] "last" j.d = some (.tup (j.last.map Wd.d)) := rfl
theorem l_start : lookC ["Job"] "start" j.d = some (.tup (stL j.once j.rais)) := rfl
theorem l_watch : lookC ["Job"] "watch" j.d = some j.wt.d := rfl
theorem l_lapse : lookC ["Job"] "lapse" j.d = some j.la.d := rfl
/-- right -/
structure Ok (n : Nat) : Prop where
  r1 : 1 ≤ j.rows.length
  r2 : j.rows.length ≤ n
  l1 : j.last.length ≤ 3
end Jb
theorem jb_of {n : Nat} {rows last start : List D} {w l : D} (p : Parts n rows last start w l) : ∃ j : Jb, j.Ok n ∧ rows = j.rows.map Wd.d ∧ last = j.last.map Wd.d ∧ start = stL j.once j.rais ∧ w = j.wt.d ∧ l = j.la.d := by
  obtain ⟨rs, rfl⟩ := wds_of p.rw
  obtain ⟨ls, rfl⟩ := wds_of (l := last) fun x hx => by
    have := p.lw x hx
    simp only [List.mem_cons, List.not_mem_nil, or_false] at this ⊢
    rcases this with h | h | h | h | h | h | h | h | h <;> simp [h]
  have h1 : ∃ o r, start = stL o r := by
    have := p.st
    simp only [List.mem_cons, List.not_mem_nil, or_false, D.lst.injEq] at this
    rcases this with rfl | rfl | rfl | rfl | rfl
    · exact ⟨false, false, rfl⟩
    · exact ⟨false, false, rfl⟩
    · exact ⟨true, false, rfl⟩
    · exact ⟨false, true, rfl⟩
    · exact ⟨true, true, rfl⟩
  have h2 : ∃ t : Wt, w = t.d := by
    have := p.wa
    simp only [List.mem_cons, List.not_mem_nil, or_false] at this
    rcases this with rfl | rfl | rfl | rfl | rfl | rfl
    · exact ⟨.no, rfl⟩
    · exact ⟨.no, rfl⟩
    · exact ⟨.always, rfl⟩
    · exact ⟨.nothing, rfl⟩
    · exact ⟨.present, rfl⟩
    · exact ⟨.waiting, rfl⟩
  have h3 : ∃ t : La, l = t.d := by
    have := p.la
    simp only [List.mem_cons, List.not_mem_nil, or_false] at this
    rcases this with rfl | rfl | rfl | rfl
    · exact ⟨.no, rfl⟩
    · exact ⟨.no, rfl⟩
    · exact ⟨.any, rfl⟩
    · exact ⟨.lost, rfl⟩
  obtain ⟨o, r, rfl⟩ := h1
  obtain ⟨t, rfl⟩ := h2
  obtain ⟨a, rfl⟩ := h3
  exact ⟨⟨rs, ls, o, r, t, a⟩, ⟨by simpa using p.r1, by simpa using p.r2, by simpa using p.l1⟩, rfl, rfl, rfl, rfl, rfl⟩
/-- the word at a place -/
def wordAt (ws : List Wd) (p : Int) : Option Wd := if 1 ≤ p then ws[(p - 1).toNat]? else none
theorem wordAt_some {ws : List Wd} {p : Int} {w : Wd} (h : wordAt ws p = some w) : 1 ≤ p ∧ p ≤ ws.length ∧ dIx (.tup (ws.map Wd.d)) (.int (p - 1)) = some w.d ∧ dIx (.lst (ws.map Wd.d)) (.int (p - 1)) = some w.d := by
  unfold wordAt at h
  split at h
  · rename_i h1
    have hl := (List.getElem?_eq_some_iff.mp h).1
    refine ⟨h1, by omega, ?_⟩
    have e : p - 1 = ((p - 1).toNat : Int) := by omega
    rw [e]
    have hm : (ws.map Wd.d)[(p - 1).toNat]? = some w.d := by rw [List.getElem?_map, h]; rfl
    exact ⟨ix_t hm, ix_l hm⟩
  · cases h
theorem wordAt_none {ws : List Wd} {p : Int} (h : wordAt ws p = none) (h1 : 1 ≤ p) : (ws.length : Int) < p := by
  unfold wordAt at h
  rw [if_pos h1, List.getElem?_eq_none_iff] at h
  omega
end LP

end

section
set_option Elab.async false
set_option linter.all false
set_option maxRecDepth 100000
set_option maxHeartbeats 2000000
/-! TB: the program's steps, as functions of plain data. -/
namespace LP
open PySem L2 DL LW
def otk : Option Tk → D
  | none => .non
  | some t => t.d
def putW (w : Wd) (ky : Ky) (t : Tk) : Bool := match w with
  | .once => decide (ky = .free) || t.k
  | .put => true
  | .next => !t.e
  | _ => false
def isPut (ws : List Wd) (ky : Ky) (t : Tk) : Bool := match wordAt ws t.p with
  | none => false
  | some w => putW w ky t
theorem is_put_ok (j : Jb) (ky : Ky) (t : Tk) : pv g_is_put [j.d, .str ky.s, t.d] = .val (.bl (isPut j.words ky t)) := by
  unfold g_is_put isPut
  rw [pv_gOf]
  unfold f_is_put Tk.d tokD
  cases hw : wordAt j.words t.p with
  | none =>
    by_cases h1 : 1 ≤ t.p
    · have h2 := wordAt_none hw h1
      simp -implicitDefEqProofs only [x_ixO, KIx, kIx2_l, x_setIx, KSx1, KSx2, kSx3_l, kSx4_s, x_bor, kBo_ok, x_borT, kBT_ok, sh_ow, sh_rf, sh_sh, sh_un, imm_i, imm_b, imm_s, pwFl_rt, pwFl_nx, x_callA, KCA, x_aNo, x_aPl, KPl, x_aKw, KKa, KKb, pa_pl, x_lc, unAt_0, unAt_s, b_ok, b_er, b_no, b_if, lift_s, lift_n, lift_if, unpv_val, unpv_new, unpv_err, unpv_if, pvFl_rt, pvFl_fr, pvFl_nx, pvFl_er, pvFl_if, unpw_val, x_var, rdV_sh, x_c, K1, x_f1, K2b, K2a, x_f2, x_nil, KCb, KCa, x_cons, KStb, KStar, x_star, ksta_s, KN, x_n, x_test, kTe_bl, KAn, x_and, KOr, x_or, KNo, x_not, KIe, x_if, x_andV, kAV_bl, x_orV, kOV_bl, x_notV, kNV_bl, x_sNil, x_seq, kSq_nx, kSq_rt, kSq_bk, kSq_ct, KRt, x_ret, KEx, x_exp, KIs, x_ifS, optR_s, KSe, x_set, KSO, x_setO, put, free_un, free_sh, free_ow, KSh, x_sh, KLs, x_lst, x_nm, x_gnil, x_gcons, x_gtp, x_gls, KAs, x_asg, KQ, x_q, x_iS, kiS_s, x_r1, x_for, KFo, KCl, x_call, x_shR, kSR_sh, kSR_fr, x_frR, kFR_fr, kCRb_s, KCR, x_callR, ob_ow, ob_rf, putOb, reob_ow, reob_rf, x_fld, KCh2, KCh1, x_chain, kCh3_b, KM2, x_m1, isStr_s, KNw, x_new, x_noP, x_p, kP_i, KCt2, KCt1, KCt0, x_cutT, kCt3_t, KPb, KPa, x_par2, x_rep, kRp_s, x_wo, KRs, x_raise, ok_and, ok_or, okb_and, okb_or, List.getElem?_cons_zero, List.getElem?_cons_succ, List.set_cons_zero, List.set_cons_succ, List.map_cons, List.map_nil, List.append_nil, List.nil_append, List.cons_append, List.length_cons, List.length_nil, List.replicate_succ, List.replicate_zero, Option.isSome_some, Option.isSome_none, Option.bind_some, Option.bind_none, Nat.reduceAdd, Nat.reduceSub, Nat.reduceMul, Nat.reduceLeDiff, Nat.reduceLT, Nat.reduceBEq, Nat.reduceEqDiff, Nat.beq_refl, if_true, if_false, reduceIte, Bool.false_eq_true, Bool.not_true, Bool.not_false, Bool.not_not, decide_eq_true_eq, decide_true, decide_false, Bool.and_true, Bool.true_and, Bool.and_false, Bool.false_and, Bool.or_true, Bool.true_or, Bool.or_false, Bool.false_or, Bool.not_eq_true', decide_eq_false_iff_not, dLe_i, dLt_i, dGt_i, dGe_i, dAdd_i, dSub_i, gLen_t, gLen_l, gTup_2, gTup_3, gTup_1, gTup_0, gTup_4, isN_n, notN_n, isN_t, notN_t, items_t, items_l, j.l_words, h1, Int.not_le.mpr h2, List.length_map]
    · simp -implicitDefEqProofs only [x_ixO, KIx, kIx2_l, x_setIx, KSx1, KSx2, kSx3_l, kSx4_s, x_bor, kBo_ok, x_borT, kBT_ok, sh_ow, sh_rf, sh_sh, sh_un, imm_i, imm_b, imm_s, pwFl_rt, pwFl_nx, x_callA, KCA, x_aNo, x_aPl, KPl, x_aKw, KKa, KKb, pa_pl, x_lc, unAt_0, unAt_s, b_ok, b_er, b_no, b_if, lift_s, lift_n, lift_if, unpv_val, unpv_new, unpv_err, unpv_if, pvFl_rt, pvFl_fr, pvFl_nx, pvFl_er, pvFl_if, unpw_val, x_var, rdV_sh, x_c, K1, x_f1, K2b, K2a, x_f2, x_nil, KCb, KCa, x_cons, KStb, KStar, x_star, ksta_s, KN, x_n, x_test, kTe_bl, KAn, x_and, KOr, x_or, KNo, x_not, KIe, x_if, x_andV, kAV_bl, x_orV, kOV_bl, x_notV, kNV_bl, x_sNil, x_seq, kSq_nx, kSq_rt, kSq_bk, kSq_ct, KRt, x_ret, KEx, x_exp, KIs, x_ifS, optR_s, KSe, x_set, KSO, x_setO, put, free_un, free_sh, free_ow, KSh, x_sh, KLs, x_lst, x_nm, x_gnil, x_gcons, x_gtp, x_gls, KAs, x_asg, KQ, x_q, x_iS, kiS_s, x_r1, x_for, KFo, KCl, x_call, x_shR, kSR_sh, kSR_fr, x_frR, kFR_fr, kCRb_s, KCR, x_callR, ob_ow, ob_rf, putOb, reob_ow, reob_rf, x_fld, KCh2, KCh1, x_chain, kCh3_b, KM2, x_m1, isStr_s, KNw, x_new, x_noP, x_p, kP_i, KCt2, KCt1, KCt0, x_cutT, kCt3_t, KPb, KPa, x_par2, x_rep, kRp_s, x_wo, KRs, x_raise, ok_and, ok_or, okb_and, okb_or, List.getElem?_cons_zero, List.getElem?_cons_succ, List.set_cons_zero, List.set_cons_succ, List.map_cons, List.map_nil, List.append_nil, List.nil_append, List.cons_append, List.length_cons, List.length_nil, List.replicate_succ, List.replicate_zero, Option.isSome_some, Option.isSome_none, Option.bind_some, Option.bind_none, Nat.reduceAdd, Nat.reduceSub, Nat.reduceMul, Nat.reduceLeDiff, Nat.reduceLT, Nat.reduceBEq, Nat.reduceEqDiff, Nat.beq_refl, if_true, if_false, reduceIte, Bool.false_eq_true, Bool.not_true, Bool.not_false, Bool.not_not, decide_eq_true_eq, decide_true, decide_false, Bool.and_true, Bool.true_and, Bool.and_false, Bool.false_and, Bool.or_true, Bool.true_or, Bool.or_false, Bool.false_or, Bool.not_eq_true', decide_eq_false_iff_not, dLe_i, dLt_i, dGt_i, dGe_i, dAdd_i, dSub_i, gLen_t, gLen_l, gTup_2, gTup_3, gTup_1, gTup_0, gTup_4, isN_n, notN_n, isN_t, notN_t, items_t, items_l, j.l_words, h1, List.length_map]
  | some w =>
    obtain ⟨h1, h2, h3, _⟩ := wordAt_some hw
    simp -implicitDefEqProofs only [x_ixO, KIx, kIx2_l, x_setIx, KSx1, KSx2, kSx3_l, kSx4_s, x_bor, kBo_ok, x_borT, kBT_ok, sh_ow, sh_rf, sh_sh, sh_un, imm_i, imm_b, imm_s, pwFl_rt, pwFl_nx, x_callA, KCA, x_aNo, x_aPl, KPl, x_aKw, KKa, KKb, pa_pl, x_lc, unAt_0, unAt_s, b_ok, b_er, b_no, b_if, lift_s, lift_n, lift_if, unpv_val, unpv_new, unpv_err, unpv_if, pvFl_rt, pvFl_fr, pvFl_nx, pvFl_er, pvFl_if, unpw_val, x_var, rdV_sh, x_c, K1, x_f1, K2b, K2a, x_f2, x_nil, KCb, KCa, x_cons, KStb, KStar, x_star, ksta_s, KN, x_n, x_test, kTe_bl, KAn, x_and, KOr, x_or, KNo, x_not, KIe, x_if, x_andV, kAV_bl, x_orV, kOV_bl, x_notV, kNV_bl, x_sNil, x_seq, kSq_nx, kSq_rt, kSq_bk, kSq_ct, KRt, x_ret, KEx, x_exp, KIs, x_ifS, optR_s, KSe, x_set, KSO, x_setO, put, free_un, free_sh, free_ow, KSh, x_sh, KLs, x_lst, x_nm, x_gnil, x_gcons, x_gtp, x_gls, KAs, x_asg, KQ, x_q, x_iS, kiS_s, x_r1, x_for, KFo, KCl, x_call, x_shR, kSR_sh, kSR_fr, x_frR, kFR_fr, kCRb_s, KCR, x_callR, ob_ow, ob_rf, putOb, reob_ow, reob_rf, x_fld, KCh2, KCh1, x_chain, kCh3_b, KM2, x_m1, isStr_s, KNw, x_new, x_noP, x_p, kP_i, KCt2, KCt1, KCt0, x_cutT, kCt3_t, KPb, KPa, x_par2, x_rep, kRp_s, x_wo, KRs, x_raise, ok_and, ok_or, okb_and, okb_or, List.getElem?_cons_zero, List.getElem?_cons_succ, List.set_cons_zero, List.set_cons_succ, List.map_cons, List.map_nil, List.append_nil, List.nil_append, List.cons_append, List.length_cons, List.length_nil, List.replicate_succ, List.replicate_zero, Option.isSome_some, Option.isSome_none, Option.bind_some, Option.bind_none, Nat.reduceAdd, Nat.reduceSub, Nat.reduceMul, Nat.reduceLeDiff, Nat.reduceLT, Nat.reduceBEq, Nat.reduceEqDiff, Nat.beq_refl, if_true, if_false, reduceIte, Bool.false_eq_true, Bool.not_true, Bool.not_false, Bool.not_not, decide_eq_true_eq, decide_true, decide_false, Bool.and_true, Bool.true_and, Bool.and_false, Bool.false_and, Bool.or_true, Bool.true_or, Bool.or_false, Bool.false_or, Bool.not_eq_true', decide_eq_false_iff_not, dLe_i, dLt_i, dGt_i, dGe_i, dAdd_i, dSub_i, gLen_t, gLen_l, gTup_2, gTup_3, gTup_1, gTup_0, gTup_4, isN_n, notN_n, isN_t, notN_t, items_t, items_l, j.l_words, h1, h2, h3, List.length_map, w_once, w_put, w_next, k_free, f_k, f_ne]
    cases w <;> simp [putW]
def brokenT (ky : Ky) (t : Tk) : Option Tk × Ky := if t.b then (none, if t.k then .lost else ky) else (some { t with p := 0, f := false }, ky)
theorem broken_ok (ky : Ky) (t : Tk) : pv g_broken [.str ky.s, t.d] = .val (.tup [otk (brokenT ky t).1, .str (brokenT ky t).2.s]) := by
  unfold g_broken
  rw [pv_gOf]
  unfold f_broken Tk.d tokD
  obtain ⟨p, b, e, f, k⟩ := t
  simp -implicitDefEqProofs only [x_ixO, KIx, kIx2_l, x_setIx, KSx1, KSx2, kSx3_l, kSx4_s, x_bor, kBo_ok, x_borT, kBT_ok, sh_ow, sh_rf, sh_sh, sh_un, imm_i, imm_b, imm_s, pwFl_rt, pwFl_nx, x_callA, KCA, x_aNo, x_aPl, KPl, x_aKw, KKa, KKb, pa_pl, x_lc, unAt_0, unAt_s, b_ok, b_er, b_no, b_if, lift_s, lift_n, lift_if, unpv_val, unpv_new, unpv_err, unpv_if, pvFl_rt, pvFl_fr, pvFl_nx, pvFl_er, pvFl_if, unpw_val, x_var, rdV_sh, x_c, K1, x_f1, K2b, K2a, x_f2, x_nil, KCb, KCa, x_cons, KStb, KStar, x_star, ksta_s, KN, x_n, x_test, kTe_bl, KAn, x_and, KOr, x_or, KNo, x_not, KIe, x_if, x_andV, kAV_bl, x_orV, kOV_bl, x_notV, kNV_bl, x_sNil, x_seq, kSq_nx, kSq_rt, kSq_bk, kSq_ct, KRt, x_ret, KEx, x_exp, KIs, x_ifS, optR_s, KSe, x_set, KSO, x_setO, put, free_un, free_sh, free_ow, KSh, x_sh, KLs, x_lst, x_nm, x_gnil, x_gcons, x_gtp, x_gls, KAs, x_asg, KQ, x_q, x_iS, kiS_s, x_r1, x_for, KFo, KCl, x_call, x_shR, kSR_sh, kSR_fr, x_frR, kFR_fr, kCRb_s, KCR, x_callR, ob_ow, ob_rf, putOb, reob_ow, reob_rf, x_fld, KCh2, KCh1, x_chain, kCh3_b, KM2, x_m1, isStr_s, KNw, x_new, x_noP, x_p, kP_i, KCt2, KCt1, KCt0, x_cutT, kCt3_t, KPb, KPa, x_par2, x_rep, kRp_s, x_wo, KRs, x_raise, ok_and, ok_or, okb_and, okb_or, List.getElem?_cons_zero, List.getElem?_cons_succ, List.set_cons_zero, List.set_cons_succ, List.map_cons, List.map_nil, List.append_nil, List.nil_append, List.cons_append, List.length_cons, List.length_nil, List.replicate_succ, List.replicate_zero, Option.isSome_some, Option.isSome_none, Option.bind_some, Option.bind_none, Nat.reduceAdd, Nat.reduceSub, Nat.reduceMul, Nat.reduceLeDiff, Nat.reduceLT, Nat.reduceBEq, Nat.reduceEqDiff, Nat.beq_refl, if_true, if_false, reduceIte, Bool.false_eq_true, Bool.not_true, Bool.not_false, Bool.not_not, decide_eq_true_eq, decide_true, decide_false, Bool.and_true, Bool.true_and, Bool.and_false, Bool.false_and, Bool.or_true, Bool.true_or, Bool.or_false, Bool.false_or, Bool.not_eq_true', decide_eq_false_iff_not, dLe_i, dLt_i, dGt_i, dGe_i, dAdd_i, dSub_i, gLen_t, gLen_l, gTup_2, gTup_3, gTup_1, gTup_0, gTup_4, isN_n, notN_n, isN_t, notN_t, items_t, items_l, f_b, f_k, f_sz, r_f, KWo]
  cases b <;> cases k <;> simp [brokenT, otk, Tk.d, tokD, Ky.s]
def goneT (ky : Ky) (t : Tk) : Ky := if t.k then .free else ky
theorem gone_ok (ky : Ky) (t : Tk) : pv g_gone [.str ky.s, t.d] = .val (.str (goneT ky t).s) := by
  unfold g_gone
  rw [pv_gOf]
  unfold f_gone Tk.d tokD
  simp -implicitDefEqProofs only [x_ixO, KIx, kIx2_l, x_setIx, KSx1, KSx2, kSx3_l, kSx4_s, x_bor, kBo_ok, x_borT, kBT_ok, sh_ow, sh_rf, sh_sh, sh_un, imm_i, imm_b, imm_s, pwFl_rt, pwFl_nx, x_callA, KCA, x_aNo, x_aPl, KPl, x_aKw, KKa, KKb, pa_pl, x_lc, unAt_0, unAt_s, b_ok, b_er, b_no, b_if, lift_s, lift_n, lift_if, unpv_val, unpv_new, unpv_err, unpv_if, pvFl_rt, pvFl_fr, pvFl_nx, pvFl_er, pvFl_if, unpw_val, x_var, rdV_sh, x_c, K1, x_f1, K2b, K2a, x_f2, x_nil, KCb, KCa, x_cons, KStb, KStar, x_star, ksta_s, KN, x_n, x_test, kTe_bl, KAn, x_and, KOr, x_or, KNo, x_not, KIe, x_if, x_andV, kAV_bl, x_orV, kOV_bl, x_notV, kNV_bl, x_sNil, x_seq, kSq_nx, kSq_rt, kSq_bk, kSq_ct, KRt, x_ret, KEx, x_exp, KIs, x_ifS, optR_s, KSe, x_set, KSO, x_setO, put, free_un, free_sh, free_ow, KSh, x_sh, KLs, x_lst, x_nm, x_gnil, x_gcons, x_gtp, x_gls, KAs, x_asg, KQ, x_q, x_iS, kiS_s, x_r1, x_for, KFo, KCl, x_call, x_shR, kSR_sh, kSR_fr, x_frR, kFR_fr, kCRb_s, KCR, x_callR, ob_ow, ob_rf, putOb, reob_ow, reob_rf, x_fld, KCh2, KCh1, x_chain, kCh3_b, KM2, x_m1, isStr_s, KNw, x_new, x_noP, x_p, kP_i, KCt2, KCt1, KCt0, x_cutT, kCt3_t, KPb, KPa, x_par2, x_rep, kRp_s, x_wo, KRs, x_raise, ok_and, ok_or, okb_and, okb_or, List.getElem?_cons_zero, List.getElem?_cons_succ, List.set_cons_zero, List.set_cons_succ, List.map_cons, List.map_nil, List.append_nil, List.nil_append, List.cons_append, List.length_cons, List.length_nil, List.replicate_succ, List.replicate_zero, Option.isSome_some, Option.isSome_none, Option.bind_some, Option.bind_none, Nat.reduceAdd, Nat.reduceSub, Nat.reduceMul, Nat.reduceLeDiff, Nat.reduceLT, Nat.reduceBEq, Nat.reduceEqDiff, Nat.beq_refl, if_true, if_false, reduceIte, Bool.false_eq_true, Bool.not_true, Bool.not_false, Bool.not_not, decide_eq_true_eq, decide_true, decide_false, Bool.and_true, Bool.true_and, Bool.and_false, Bool.false_and, Bool.or_true, Bool.true_or, Bool.or_false, Bool.false_or, Bool.not_eq_true', decide_eq_false_iff_not, dLe_i, dLt_i, dGt_i, dGe_i, dAdd_i, dSub_i, gLen_t, gLen_l, gTup_2, gTup_3, gTup_1, gTup_0, gTup_4, isN_n, notN_n, isN_t, notN_t, items_t, items_l, f_k, ix_t1]
  cases h : t.k <;> simp [goneT, h, Ky.s]
def stoppedT (w : Wd) (sw : Bool) (ky : Ky) (t : Tk) : Bool := match w with
  | .look => !sw
  | .check => t.e
  | .hold => !decide (ky = .free) && !t.k
  | _ => false
theorem is_stopped_ok (w : Wd) (sw : Bool) (ky : Ky) (t : Tk) : pv g_is_stopped [w.d, .str (swS sw), .str ky.s, .str (flS t.b t.e t.f t.k)] = .val (.bl (stoppedT w sw ky t)) := by
  unfold g_is_stopped
  rw [pv_gOf]
  unfold f_is_stopped
  simp -implicitDefEqProofs only [x_ixO, KIx, kIx2_l, x_setIx, KSx1, KSx2, kSx3_l, kSx4_s, x_bor, kBo_ok, x_borT, kBT_ok, sh_ow, sh_rf, sh_sh, sh_un, imm_i, imm_b, imm_s, pwFl_rt, pwFl_nx, x_callA, KCA, x_aNo, x_aPl, KPl, x_aKw, KKa, KKb, pa_pl, x_lc, unAt_0, unAt_s, b_ok, b_er, b_no, b_if, lift_s, lift_n, lift_if, unpv_val, unpv_new, unpv_err, unpv_if, pvFl_rt, pvFl_fr, pvFl_nx, pvFl_er, pvFl_if, unpw_val, x_var, rdV_sh, x_c, K1, x_f1, K2b, K2a, x_f2, x_nil, KCb, KCa, x_cons, KStb, KStar, x_star, ksta_s, KN, x_n, x_test, kTe_bl, KAn, x_and, KOr, x_or, KNo, x_not, KIe, x_if, x_andV, kAV_bl, x_orV, kOV_bl, x_notV, kNV_bl, x_sNil, x_seq, kSq_nx, kSq_rt, kSq_bk, kSq_ct, KRt, x_ret, KEx, x_exp, KIs, x_ifS, optR_s, KSe, x_set, KSO, x_setO, put, free_un, free_sh, free_ow, KSh, x_sh, KLs, x_lst, x_nm, x_gnil, x_gcons, x_gtp, x_gls, KAs, x_asg, KQ, x_q, x_iS, kiS_s, x_r1, x_for, KFo, KCl, x_call, x_shR, kSR_sh, kSR_fr, x_frR, kFR_fr, kCRb_s, KCR, x_callR, ob_ow, ob_rf, putOb, reob_ow, reob_rf, x_fld, KCh2, KCh1, x_chain, kCh3_b, KM2, x_m1, isStr_s, KNw, x_new, x_noP, x_p, kP_i, KCt2, KCt1, KCt0, x_cutT, kCt3_t, KPb, KPa, x_par2, x_rep, kRp_s, x_wo, KRs, x_raise, ok_and, ok_or, okb_and, okb_or, List.getElem?_cons_zero, List.getElem?_cons_succ, List.set_cons_zero, List.set_cons_succ, List.map_cons, List.map_nil, List.append_nil, List.nil_append, List.cons_append, List.length_cons, List.length_nil, List.replicate_succ, List.replicate_zero, Option.isSome_some, Option.isSome_none, Option.bind_some, Option.bind_none, Nat.reduceAdd, Nat.reduceSub, Nat.reduceMul, Nat.reduceLeDiff, Nat.reduceLT, Nat.reduceBEq, Nat.reduceEqDiff, Nat.beq_refl, if_true, if_false, reduceIte, Bool.false_eq_true, Bool.not_true, Bool.not_false, Bool.not_not, decide_eq_true_eq, decide_true, decide_false, Bool.and_true, Bool.true_and, Bool.and_false, Bool.false_and, Bool.or_true, Bool.true_or, Bool.or_false, Bool.false_or, Bool.not_eq_true', decide_eq_false_iff_not, dLe_i, dLt_i, dGt_i, dGe_i, dAdd_i, dSub_i, gLen_t, gLen_l, gTup_2, gTup_3, gTup_1, gTup_0, gTup_4, isN_n, notN_n, isN_t, notN_t, items_t, items_l, w_look, w_check, w_hold, s_off, f_e, f_nk, k_nfree]
  cases w <;> simp [stoppedT]
def msgT (w : Wd) (t : Tk) : Tk := ⟨0, false, t.e, false, decide (w = .once)⟩
theorem add_ek : dAdd (.str "e") (.str "k") = some (.str "ek") := by kernel_rfl
theorem add_k : dAdd (.str "") (.str "k") = some (.str "k") := by kernel_rfl
theorem put_by_ok (w : Wd) (t : Tk) : pv g_put_by [w.d, t.d] = .val (msgT w t).d := by
  unfold g_put_by
  rw [pv_gOf]
  unfold f_put_by Tk.d tokD
  obtain ⟨p, b, e, f, k⟩ := t
  cases e <;> (simp -implicitDefEqProofs only [x_ixO, KIx, kIx2_l, x_setIx, KSx1, KSx2, kSx3_l, kSx4_s, x_bor, kBo_ok, x_borT, kBT_ok, sh_ow, sh_rf, sh_sh, sh_un, imm_i, imm_b, imm_s, pwFl_rt, pwFl_nx, x_callA, KCA, x_aNo, x_aPl, KPl, x_aKw, KKa, KKb, pa_pl, x_lc, unAt_0, unAt_s, b_ok, b_er, b_no, b_if, lift_s, lift_n, lift_if, unpv_val, unpv_new, unpv_err, unpv_if, pvFl_rt, pvFl_fr, pvFl_nx, pvFl_er, pvFl_if, unpw_val, x_var, rdV_sh, x_c, K1, x_f1, K2b, K2a, x_f2, x_nil, KCb, KCa, x_cons, KStb, KStar, x_star, ksta_s, KN, x_n, x_test, kTe_bl, KAn, x_and, KOr, x_or, KNo, x_not, KIe, x_if, x_andV, kAV_bl, x_orV, kOV_bl, x_notV, kNV_bl, x_sNil, x_seq, kSq_nx, kSq_rt, kSq_bk, kSq_ct, KRt, x_ret, KEx, x_exp, KIs, x_ifS, optR_s, KSe, x_set, KSO, x_setO, put, free_un, free_sh, free_ow, KSh, x_sh, KLs, x_lst, x_nm, x_gnil, x_gcons, x_gtp, x_gls, KAs, x_asg, KQ, x_q, x_iS, kiS_s, x_r1, x_for, KFo, KCl, x_call, x_shR, kSR_sh, kSR_fr, x_frR, kFR_fr, kCRb_s, KCR, x_callR, ob_ow, ob_rf, putOb, reob_ow, reob_rf, x_fld, KCh2, KCh1, x_chain, kCh3_b, KM2, x_m1, isStr_s, KNw, x_new, x_noP, x_p, kP_i, KCt2, KCt1, KCt0, x_cutT, kCt3_t, KPb, KPa, x_par2, x_rep, kRp_s, x_wo, KRs, x_raise, ok_and, ok_or, okb_and, okb_or, List.getElem?_cons_zero, List.getElem?_cons_succ, List.set_cons_zero, List.set_cons_succ, List.map_cons, List.map_nil, List.append_nil, List.nil_append, List.cons_append, List.length_cons, List.length_nil, List.replicate_succ, List.replicate_zero, Option.isSome_some, Option.isSome_none, Option.bind_some, Option.bind_none, Nat.reduceAdd, Nat.reduceSub, Nat.reduceMul, Nat.reduceLeDiff, Nat.reduceLT, Nat.reduceBEq, Nat.reduceEqDiff, Nat.beq_refl, if_true, if_false, reduceIte, Bool.false_eq_true, Bool.not_true, Bool.not_false, Bool.not_not, decide_eq_true_eq, decide_true, decide_false, Bool.and_true, Bool.true_and, Bool.and_false, Bool.false_and, Bool.or_true, Bool.true_or, Bool.or_false, Bool.false_or, Bool.not_eq_true', decide_eq_false_iff_not, dLe_i, dLt_i, dGt_i, dGe_i, dAdd_i, dSub_i, gLen_t, gLen_l, gTup_2, gTup_3, gTup_1, gTup_0, gTup_4, isN_n, notN_n, isN_t, notN_t, items_t, items_l, f_e, ix_t1, w_once, add_ek, add_k]; cases w <;> rfl)
def wordedT (w : Wd) (ky : Ky) (t : Tk) : Tk × Ky := match w with
  | .confirm => (t.onB, ky)
  | .hold => (t.onK, .held)
  | .clear => (t.noK, .free)
  | .free => if t.k then (t.noK, .free) else (t, ky)
  | _ => (t, ky)
theorem wf_b (t : Tk) : pv g_with_flag [t.d, .str "b"] = .val t.onB.d := pv_of (with_flag_ok t).1
theorem wf_e (t : Tk) : pv g_with_flag [t.d, .str "e"] = .val t.onE.d := pv_of (with_flag_ok t).2.1
theorem wf_f (t : Tk) : pv g_with_flag [t.d, .str "f"] = .val t.onF.d := pv_of (with_flag_ok t).2.2.1
theorem wf_k (t : Tk) : pv g_with_flag [t.d, .str "k"] = .val t.onK.d := pv_of (with_flag_ok t).2.2.2
theorem kWo_k {e : Ev} (t : Tk) : KWo "k" e t.d = .ok e t.noK.d := by
  show (if szS (flS t.b t.e t.f t.k) = true then _ else _) = _
  rw [if_pos (f_sz ..), r_k]
  rfl
theorem kWo_f {e : Ev} (t : Tk) : KWo "f" e t.d = .ok e t.noF.d := by
  show (if szS (flS t.b t.e t.f t.k) = true then _ else _) = _
  rw [if_pos (f_sz ..), r_f]
  rfl
theorem tk_1 (t : Tk) : dIx t.d (.int 1) = some (.str (flS t.b t.e t.f t.k)) := ix_t1
theorem tk_0 (t : Tk) : dIx t.d (.int 0) = some (.int t.p) := ix_t0
theorem worded_ok (w : Wd) (ky : Ky) (t : Tk) : pv g_worded [w.d, .str ky.s, t.d] = .val (.tup [(wordedT w ky t).1.d, .str (wordedT w ky t).2.s]) := by
  unfold g_worded
  rw [pv_gOf]
  unfold f_worded
  simp -implicitDefEqProofs only [x_ixO, KIx, kIx2_l, x_setIx, KSx1, KSx2, kSx3_l, kSx4_s, x_bor, kBo_ok, x_borT, kBT_ok, sh_ow, sh_rf, sh_sh, sh_un, imm_i, imm_b, imm_s, pwFl_rt, pwFl_nx, x_callA, KCA, x_aNo, x_aPl, KPl, x_aKw, KKa, KKb, pa_pl, x_lc, unAt_0, unAt_s, b_ok, b_er, b_no, b_if, lift_s, lift_n, lift_if, unpv_val, unpv_new, unpv_err, unpv_if, pvFl_rt, pvFl_fr, pvFl_nx, pvFl_er, pvFl_if, unpw_val, x_var, rdV_sh, x_c, K1, x_f1, K2b, K2a, x_f2, x_nil, KCb, KCa, x_cons, KStb, KStar, x_star, ksta_s, KN, x_n, x_test, kTe_bl, KAn, x_and, KOr, x_or, KNo, x_not, KIe, x_if, x_andV, kAV_bl, x_orV, kOV_bl, x_notV, kNV_bl, x_sNil, x_seq, kSq_nx, kSq_rt, kSq_bk, kSq_ct, KRt, x_ret, KEx, x_exp, KIs, x_ifS, optR_s, KSe, x_set, KSO, x_setO, put, free_un, free_sh, free_ow, KSh, x_sh, KLs, x_lst, x_nm, x_gnil, x_gcons, x_gtp, x_gls, KAs, x_asg, KQ, x_q, x_iS, kiS_s, x_r1, x_for, KFo, KCl, x_call, x_shR, kSR_sh, kSR_fr, x_frR, kFR_fr, kCRb_s, KCR, x_callR, ob_ow, ob_rf, putOb, reob_ow, reob_rf, x_fld, KCh2, KCh1, x_chain, kCh3_b, KM2, x_m1, isStr_s, KNw, x_new, x_noP, x_p, kP_i, KCt2, KCt1, KCt0, x_cutT, kCt3_t, KPb, KPa, x_par2, x_rep, kRp_s, x_wo, KRs, x_raise, ok_and, ok_or, okb_and, okb_or, List.getElem?_cons_zero, List.getElem?_cons_succ, List.set_cons_zero, List.set_cons_succ, List.map_cons, List.map_nil, List.append_nil, List.nil_append, List.cons_append, List.length_cons, List.length_nil, List.replicate_succ, List.replicate_zero, Option.isSome_some, Option.isSome_none, Option.bind_some, Option.bind_none, Nat.reduceAdd, Nat.reduceSub, Nat.reduceMul, Nat.reduceLeDiff, Nat.reduceLT, Nat.reduceBEq, Nat.reduceEqDiff, Nat.beq_refl, if_true, if_false, reduceIte, Bool.false_eq_true, Bool.not_true, Bool.not_false, Bool.not_not, decide_eq_true_eq, decide_true, decide_false, Bool.and_true, Bool.true_and, Bool.and_false, Bool.false_and, Bool.or_true, Bool.true_or, Bool.or_false, Bool.false_or, Bool.not_eq_true', decide_eq_false_iff_not, dLe_i, dLt_i, dGt_i, dGe_i, dAdd_i, dSub_i, gLen_t, gLen_l, gTup_2, gTup_3, gTup_1, gTup_0, gTup_4, isN_n, notN_n, isN_t, notN_t, items_t, items_l, tk_1, w_confirm, w_hold, w_clear, w_free, f_k, wf_b, wf_k, kWo_k]
  cases hk : t.k <;> cases w <;> simp [wordedT, Ky.s, hk]
def Tk.at (t : Tk) (p : Int) : Tk := { t with p := p }
def actedT (ws : List Wd) (sw : Bool) (ky : Ky) (t : Tk) : Option Tk × Option Tk × Ky × Bool :=
  if t.p = 0 then (some (t.at 1), none, ky, false) else
  match wordAt ws t.p with
  | none => if t.f then ((brokenT ky t).1, none, (brokenT ky t).2, false) else (none, none, goneT ky t, false)
  | some w => if stoppedT w sw ky t then (none, none, goneT ky t, false) else
    if putW w ky t then (match w with
      | .once => (some (t.at (t.p + 1)).noK, some (msgT w t), .held, false)
      | .next => (some (t.at (t.p + 1)).onE, some (msgT w t), ky, true)
      | _ => (some (t.at (t.p + 1)), some (msgT w t), ky, false))
    else (some (wordedT w ky (t.at (t.p + 1))).1, none, (wordedT w ky (t.at (t.p + 1))).2, false)
def actD (r : Option Tk × Option Tk × Ky × Bool) : D := .tup [otk r.1, otk r.2.1, .str r.2.2.1.s, .bl r.2.2.2]
theorem at_fold (t : Tk) (p : Int) : D.tup [.int p, .str (flS t.b t.e t.f t.k)] = (t.at p).d := rfl
theorem acted_ok (j : Jb) (sw : Bool) (ky : Ky) (t : Tk) (h0 : 0 ≤ t.p) : pv g_acted [j.d, .str (swS sw), .str ky.s, t.d] = .val (actD (actedT j.words sw ky t)) := by
  unfold g_acted
  rw [pv_gOf]
  unfold f_acted
  have tt : ∀ gs e, gTp gs t.d e = gs [.int t.p, .str (flS t.b t.e t.f t.k)] e := fun _ _ => rfl
  by_cases hp : t.p = 0
  · simp -implicitDefEqProofs only [x_ixO, KIx, kIx2_l, x_setIx, KSx1, KSx2, kSx3_l, kSx4_s, x_bor, kBo_ok, x_borT, kBT_ok, sh_ow, sh_rf, sh_sh, sh_un, imm_i, imm_b, imm_s, pwFl_rt, pwFl_nx, x_callA, KCA, x_aNo, x_aPl, KPl, x_aKw, KKa, KKb, pa_pl, x_lc, unAt_0, unAt_s, b_ok, b_er, b_no, b_if, lift_s, lift_n, lift_if, unpv_val, unpv_new, unpv_err, unpv_if, pvFl_rt, pvFl_fr, pvFl_nx, pvFl_er, pvFl_if, unpw_val, x_var, rdV_sh, x_c, K1, x_f1, K2b, K2a, x_f2, x_nil, KCb, KCa, x_cons, KStb, KStar, x_star, ksta_s, KN, x_n, x_test, kTe_bl, KAn, x_and, KOr, x_or, KNo, x_not, KIe, x_if, x_andV, kAV_bl, x_orV, kOV_bl, x_notV, kNV_bl, x_sNil, x_seq, kSq_nx, kSq_rt, kSq_bk, kSq_ct, KRt, x_ret, KEx, x_exp, KIs, x_ifS, optR_s, KSe, x_set, KSO, x_setO, put, free_un, free_sh, free_ow, KSh, x_sh, KLs, x_lst, x_nm, x_gnil, x_gcons, x_gtp, x_gls, KAs, x_asg, KQ, x_q, x_iS, kiS_s, x_r1, x_for, KFo, KCl, x_call, x_shR, kSR_sh, kSR_fr, x_frR, kFR_fr, kCRb_s, KCR, x_callR, ob_ow, ob_rf, putOb, reob_ow, reob_rf, x_fld, KCh2, KCh1, x_chain, kCh3_b, KM2, x_m1, isStr_s, KNw, x_new, x_noP, x_p, kP_i, KCt2, KCt1, KCt0, x_cutT, kCt3_t, KPb, KPa, x_par2, x_rep, kRp_s, x_wo, KRs, x_raise, ok_and, ok_or, okb_and, okb_or, List.getElem?_cons_zero, List.getElem?_cons_succ, List.set_cons_zero, List.set_cons_succ, List.map_cons, List.map_nil, List.append_nil, List.nil_append, List.cons_append, List.length_cons, List.length_nil, List.replicate_succ, List.replicate_zero, Option.isSome_some, Option.isSome_none, Option.bind_some, Option.bind_none, Nat.reduceAdd, Nat.reduceSub, Nat.reduceMul, Nat.reduceLeDiff, Nat.reduceLT, Nat.reduceBEq, Nat.reduceEqDiff, Nat.beq_refl, if_true, if_false, reduceIte, Bool.false_eq_true, Bool.not_true, Bool.not_false, Bool.not_not, decide_eq_true_eq, decide_true, decide_false, Bool.and_true, Bool.true_and, Bool.and_false, Bool.false_and, Bool.or_true, Bool.true_or, Bool.or_false, Bool.false_or, Bool.not_eq_true', decide_eq_false_iff_not, dLe_i, dLt_i, dGt_i, dGe_i, dAdd_i, dSub_i, gLen_t, gLen_l, gTup_2, gTup_3, gTup_1, gTup_0, gTup_4, isN_n, notN_n, isN_t, notN_t, items_t, items_l, tt, dEq_i, hp, at_fold]
    unfold actedT
    rw [if_pos hp]
    rfl
  · unfold actedT
    rw [if_neg hp]
    cases hw : wordAt j.words t.p with
    | none =>
      have h2 := wordAt_none hw (by omega)
      simp -implicitDefEqProofs only [x_ixO, KIx, kIx2_l, x_setIx, KSx1, KSx2, kSx3_l, kSx4_s, x_bor, kBo_ok, x_borT, kBT_ok, sh_ow, sh_rf, sh_sh, sh_un, imm_i, imm_b, imm_s, pwFl_rt, pwFl_nx, x_callA, KCA, x_aNo, x_aPl, KPl, x_aKw, KKa, KKb, pa_pl, x_lc, unAt_0, unAt_s, b_ok, b_er, b_no, b_if, lift_s, lift_n, lift_if, unpv_val, unpv_new, unpv_err, unpv_if, pvFl_rt, pvFl_fr, pvFl_nx, pvFl_er, pvFl_if, unpw_val, x_var, rdV_sh, x_c, K1, x_f1, K2b, K2a, x_f2, x_nil, KCb, KCa, x_cons, KStb, KStar, x_star, ksta_s, KN, x_n, x_test, kTe_bl, KAn, x_and, KOr, x_or, KNo, x_not, KIe, x_if, x_andV, kAV_bl, x_orV, kOV_bl, x_notV, kNV_bl, x_sNil, x_seq, kSq_nx, kSq_rt, kSq_bk, kSq_ct, KRt, x_ret, KEx, x_exp, KIs, x_ifS, optR_s, KSe, x_set, KSO, x_setO, put, free_un, free_sh, free_ow, KSh, x_sh, KLs, x_lst, x_nm, x_gnil, x_gcons, x_gtp, x_gls, KAs, x_asg, KQ, x_q, x_iS, kiS_s, x_r1, x_for, KFo, KCl, x_call, x_shR, kSR_sh, kSR_fr, x_frR, kFR_fr, kCRb_s, KCR, x_callR, ob_ow, ob_rf, putOb, reob_ow, reob_rf, x_fld, KCh2, KCh1, x_chain, kCh3_b, KM2, x_m1, isStr_s, KNw, x_new, x_noP, x_p, kP_i, KCt2, KCt1, KCt0, x_cutT, kCt3_t, KPb, KPa, x_par2, x_rep, kRp_s, x_wo, KRs, x_raise, ok_and, ok_or, okb_and, okb_or, List.getElem?_cons_zero, List.getElem?_cons_succ, List.set_cons_zero, List.set_cons_succ, List.map_cons, List.map_nil, List.append_nil, List.nil_append, List.cons_append, List.length_cons, List.length_nil, List.replicate_succ, List.replicate_zero, Option.isSome_some, Option.isSome_none, Option.bind_some, Option.bind_none, Nat.reduceAdd, Nat.reduceSub, Nat.reduceMul, Nat.reduceLeDiff, Nat.reduceLT, Nat.reduceBEq, Nat.reduceEqDiff, Nat.beq_refl, if_true, if_false, reduceIte, Bool.false_eq_true, Bool.not_true, Bool.not_false, Bool.not_not, decide_eq_true_eq, decide_true, decide_false, Bool.and_true, Bool.true_and, Bool.and_false, Bool.false_and, Bool.or_true, Bool.true_or, Bool.or_false, Bool.false_or, Bool.not_eq_true', decide_eq_false_iff_not, dLe_i, dLt_i, dGt_i, dGe_i, dAdd_i, dSub_i, gLen_t, gLen_l, gTup_2, gTup_3, gTup_1, gTup_0, gTup_4, isN_n, notN_n, isN_t, notN_t, items_t, items_l, tt, dEq_i, hp, at_fold, j.l_words, List.length_map, h2, f_f, broken_ok, gone_ok]
      cases t.f <;> rfl
    | some w =>
      obtain ⟨h1, h2, h3, _⟩ := wordAt_some hw
      have hpt : isPut j.words ky t = putW w ky t := by unfold isPut; rw [hw]
      simp -implicitDefEqProofs only [x_ixO, KIx, kIx2_l, x_setIx, KSx1, KSx2, kSx3_l, kSx4_s, x_bor, kBo_ok, x_borT, kBT_ok, sh_ow, sh_rf, sh_sh, sh_un, imm_i, imm_b, imm_s, pwFl_rt, pwFl_nx, x_callA, KCA, x_aNo, x_aPl, KPl, x_aKw, KKa, KKb, pa_pl, x_lc, unAt_0, unAt_s, b_ok, b_er, b_no, b_if, lift_s, lift_n, lift_if, unpv_val, unpv_new, unpv_err, unpv_if, pvFl_rt, pvFl_fr, pvFl_nx, pvFl_er, pvFl_if, unpw_val, x_var, rdV_sh, x_c, K1, x_f1, K2b, K2a, x_f2, x_nil, KCb, KCa, x_cons, KStb, KStar, x_star, ksta_s, KN, x_n, x_test, kTe_bl, KAn, x_and, KOr, x_or, KNo, x_not, KIe, x_if, x_andV, kAV_bl, x_orV, kOV_bl, x_notV, kNV_bl, x_sNil, x_seq, kSq_nx, kSq_rt, kSq_bk, kSq_ct, KRt, x_ret, KEx, x_exp, KIs, x_ifS, optR_s, KSe, x_set, KSO, x_setO, put, free_un, free_sh, free_ow, KSh, x_sh, KLs, x_lst, x_nm, x_gnil, x_gcons, x_gtp, x_gls, KAs, x_asg, KQ, x_q, x_iS, kiS_s, x_r1, x_for, KFo, KCl, x_call, x_shR, kSR_sh, kSR_fr, x_frR, kFR_fr, kCRb_s, KCR, x_callR, ob_ow, ob_rf, putOb, reob_ow, reob_rf, x_fld, KCh2, KCh1, x_chain, kCh3_b, KM2, x_m1, isStr_s, KNw, x_new, x_noP, x_p, kP_i, KCt2, KCt1, KCt0, x_cutT, kCt3_t, KPb, KPa, x_par2, x_rep, kRp_s, x_wo, KRs, x_raise, ok_and, ok_or, okb_and, okb_or, List.getElem?_cons_zero, List.getElem?_cons_succ, List.set_cons_zero, List.set_cons_succ, List.map_cons, List.map_nil, List.append_nil, List.nil_append, List.cons_append, List.length_cons, List.length_nil, List.replicate_succ, List.replicate_zero, Option.isSome_some, Option.isSome_none, Option.bind_some, Option.bind_none, Nat.reduceAdd, Nat.reduceSub, Nat.reduceMul, Nat.reduceLeDiff, Nat.reduceLT, Nat.reduceBEq, Nat.reduceEqDiff, Nat.beq_refl, if_true, if_false, reduceIte, Bool.false_eq_true, Bool.not_true, Bool.not_false, Bool.not_not, decide_eq_true_eq, decide_true, decide_false, Bool.and_true, Bool.true_and, Bool.and_false, Bool.false_and, Bool.or_true, Bool.true_or, Bool.or_false, Bool.false_or, Bool.not_eq_true', decide_eq_false_iff_not, dLe_i, dLt_i, dGt_i, dGe_i, dAdd_i, dSub_i, gLen_t, gLen_l, gTup_2, gTup_3, gTup_1, gTup_0, gTup_4, isN_n, notN_n, isN_t, notN_t, items_t, items_l, tt, dEq_i, hp, at_fold, j.l_words, List.length_map, Int.not_lt.mpr h2, h3, f_f, broken_ok, gone_ok, is_stopped_ok, is_put_ok, hpt, worded_ok, put_by_ok, w_once, w_next, kWo_k, wf_e]
      cases h4 : stoppedT w sw ky t
      · cases h5 : putW w ky t
        · simp [actD, otk]
        · cases w <;> first | (simp [putW] at h5; done) | simp [actD, otk, Ky.s]
      · simp [actD, otk]
end LP

end

section
set_option Elab.async false
set_option linter.all false
set_option maxRecDepth 100000
set_option maxHeartbeats 2000000
/-! TC: standings, made. -/
namespace LP
open PySem L2 DL LW
structure Sg where
  sw : Bool
  ky : Ky
  ts : List Tk
def Sg.d (s : Sg) : D := .tup [.str (swS s.sw), .str s.ky.s, .tup (s.ts.map Tk.d)]
section
variable (s : Sg)
theorem sg_0 : dIx s.d (.int 0) = some (.str (swS s.sw)) := ix_t0
theorem sg_1 : dIx s.d (.int 1) = some (.str s.ky.s) := ix_t1
theorem sg_2 : dIx s.d (.int 2) = some (.tup (s.ts.map Tk.d)) := ix_t2
theorem sg_tp {gs : List D → Ev → Option Ev} {e : Ev} : gTp gs s.d e = gs [.str (swS s.sw), .str s.ky.s, .tup (s.ts.map Tk.d)] e := rfl
theorem tk_tp (t : Tk) {gs : List D → Ev → Option Ev} {e : Ev} : gTp gs t.d e = gs [.int t.p, .str (flS t.b t.e t.f t.k)] e := rfl
theorem isN_s : dIsN s.d .non = some (.bl false) := rfl
theorem notN_s : dNotN s.d .non = some (.bl true) := rfl
theorem isN_k (t : Tk) : dIsN t.d .non = some (.bl false) := rfl
theorem notN_k (t : Tk) : dNotN t.d .non = some (.bl true) := rfl
end
def leT (a b : Tk) : Bool := leD a.d b.d
theorem ins_map (x : Tk) : ∀ l : List Tk, insB leD x.d (l.map Tk.d) = (insB leT x l).map Tk.d
  | [] => rfl
  | y :: r => by
    show (if leD x.d y.d = true then _ else _) = (if leT x y = true then _ else _ : List Tk).map Tk.d
    unfold leT
    split
    · rfl
    · rw [ins_map x r]; rfl
theorem isort_map : ∀ l : List Tk, isort leD (l.map Tk.d) = (isort leT l).map Tk.d
  | [] => rfl
  | x :: r => by
    show insB leD x.d (isort leD (r.map Tk.d)) = (insB leT x (isort leT r)).map Tk.d
    rw [isort_map r, ins_map]
def keyT (ky : Ky) (ts : List Tk) : List Tk := if ky = .free then ts.map Tk.noK else ts
def madeT (sw : Bool) (ky : Ky) (ts : List Tk) : Sg := ⟨sw, ky, isort leT (keyT ky ts)⟩
theorem madeT_d (sw : Bool) (ky : Ky) (ts : List Tk) : (madeT sw ky ts).d = madeD (swS sw) ky.s ts := by
  have : keyed ky.s ts = keyT ky ts := by
    cases ky
    · rfl
    · exact if_neg (by decide)
    · exact if_neg (by decide)
  unfold madeD Sg.d madeT
  rw [this, isort_map]
theorem made_pv {sw : Bool} {ky : Ky} {X : D} {ts : List Tk} (hX : itemsD X = some (ts.map Tk.d)) (hl : ts.length ≤ 900) : pv g_made [.str (swS sw), .str ky.s, X] = .val (madeT sw ky ts).d := by
  rw [madeT_d]
  exact pv_of (made_ok hX ky.is hl)
theorem law_made_pv {sw : Bool} {ky : Ky} {X : D} {ts : List Tk} (hX : itemsD X = some (ts.map Tk.d)) (hl : ts.length ≤ 900) : pv g__law_made [.str (swS sw), .str ky.s, X] = .val (madeT sw ky ts).d := by
  rw [madeT_d]
  exact pv_of (law_made_ok hX ky.is hl)
theorem mk_kt {sw : Bool} {ky : Ky} {ts : List Tk} (h : ts.length ≤ 800) : pv g_made [.str (swS sw), .str ky.s, .tup (ts.map Tk.d)] = .val (madeT sw ky ts).d := made_pv (ky := ky) (by simp [itemsD]) (by first | omega | (simp; omega))
theorem mk_kl {sw : Bool} {ky : Ky} {ts : List Tk} (h : ts.length ≤ 800) : pv g_made [.str (swS sw), .str ky.s, .lst (ts.map Tk.d)] = .val (madeT sw ky ts).d := made_pv (ky := ky) (by simp [itemsD]) (by first | omega | (simp; omega))
theorem mk_kl1 {sw : Bool} {ky : Ky} {ts : List Tk} {a : Tk} (h : ts.length ≤ 800) : pv g_made [.str (swS sw), .str ky.s, .lst (ts.map Tk.d ++ [a.d])] = .val (madeT sw ky (ts ++ [a])).d := made_pv (ky := ky) (by simp [itemsD]) (by first | omega | (simp; omega))
theorem mk_kl2 {sw : Bool} {ky : Ky} {ts : List Tk} {a b : Tk} (h : ts.length ≤ 800) : pv g_made [.str (swS sw), .str ky.s, .lst (ts.map Tk.d ++ [a.d, b.d])] = .val (madeT sw ky (ts ++ [a, b])).d := made_pv (ky := ky) (by simp [itemsD]) (by first | omega | (simp; omega))
theorem mk_ft {sw : Bool} {ts : List Tk} (h : ts.length ≤ 800) : pv g_made [.str (swS sw), .str "free", .tup (ts.map Tk.d)] = .val (madeT sw .free ts).d := made_pv (ky := .free) (by simp [itemsD]) (by first | omega | (simp; omega))
theorem mk_fl {sw : Bool} {ts : List Tk} (h : ts.length ≤ 800) : pv g_made [.str (swS sw), .str "free", .lst (ts.map Tk.d)] = .val (madeT sw .free ts).d := made_pv (ky := .free) (by simp [itemsD]) (by first | omega | (simp; omega))
theorem mk_fl1 {sw : Bool} {ts : List Tk} {a : Tk} (h : ts.length ≤ 800) : pv g_made [.str (swS sw), .str "free", .lst (ts.map Tk.d ++ [a.d])] = .val (madeT sw .free (ts ++ [a])).d := made_pv (ky := .free) (by simp [itemsD]) (by first | omega | (simp; omega))
theorem mk_fl2 {sw : Bool} {ts : List Tk} {a b : Tk} (h : ts.length ≤ 800) : pv g_made [.str (swS sw), .str "free", .lst (ts.map Tk.d ++ [a.d, b.d])] = .val (madeT sw .free (ts ++ [a, b])).d := made_pv (ky := .free) (by simp [itemsD]) (by first | omega | (simp; omega))
theorem mk_ht {sw : Bool} {ts : List Tk} (h : ts.length ≤ 800) : pv g_made [.str (swS sw), .str "held", .tup (ts.map Tk.d)] = .val (madeT sw .held ts).d := made_pv (ky := .held) (by simp [itemsD]) (by first | omega | (simp; omega))
theorem mk_hl {sw : Bool} {ts : List Tk} (h : ts.length ≤ 800) : pv g_made [.str (swS sw), .str "held", .lst (ts.map Tk.d)] = .val (madeT sw .held ts).d := made_pv (ky := .held) (by simp [itemsD]) (by first | omega | (simp; omega))
theorem mk_hl1 {sw : Bool} {ts : List Tk} {a : Tk} (h : ts.length ≤ 800) : pv g_made [.str (swS sw), .str "held", .lst (ts.map Tk.d ++ [a.d])] = .val (madeT sw .held (ts ++ [a])).d := made_pv (ky := .held) (by simp [itemsD]) (by first | omega | (simp; omega))
theorem mk_hl2 {sw : Bool} {ts : List Tk} {a b : Tk} (h : ts.length ≤ 800) : pv g_made [.str (swS sw), .str "held", .lst (ts.map Tk.d ++ [a.d, b.d])] = .val (madeT sw .held (ts ++ [a, b])).d := made_pv (ky := .held) (by simp [itemsD]) (by first | omega | (simp; omega))
theorem mk_lt {sw : Bool} {ts : List Tk} (h : ts.length ≤ 800) : pv g_made [.str (swS sw), .str "lost", .tup (ts.map Tk.d)] = .val (madeT sw .lost ts).d := made_pv (ky := .lost) (by simp [itemsD]) (by first | omega | (simp; omega))
theorem mk_ll {sw : Bool} {ts : List Tk} (h : ts.length ≤ 800) : pv g_made [.str (swS sw), .str "lost", .lst (ts.map Tk.d)] = .val (madeT sw .lost ts).d := made_pv (ky := .lost) (by simp [itemsD]) (by first | omega | (simp; omega))
theorem mk_ll1 {sw : Bool} {ts : List Tk} {a : Tk} (h : ts.length ≤ 800) : pv g_made [.str (swS sw), .str "lost", .lst (ts.map Tk.d ++ [a.d])] = .val (madeT sw .lost (ts ++ [a])).d := made_pv (ky := .lost) (by simp [itemsD]) (by first | omega | (simp; omega))
theorem mk_ll2 {sw : Bool} {ts : List Tk} {a b : Tk} (h : ts.length ≤ 800) : pv g_made [.str (swS sw), .str "lost", .lst (ts.map Tk.d ++ [a.d, b.d])] = .val (madeT sw .lost (ts ++ [a, b])).d := made_pv (ky := .lost) (by simp [itemsD]) (by first | omega | (simp; omega))
theorem lm_kt {sw : Bool} {ky : Ky} {ts : List Tk} (h : ts.length ≤ 800) : pv g__law_made [.str (swS sw), .str ky.s, .tup (ts.map Tk.d)] = .val (madeT sw ky ts).d := law_made_pv (ky := ky) (by simp [itemsD]) (by first | omega | (simp; omega))
theorem lm_kl {sw : Bool} {ky : Ky} {ts : List Tk} (h : ts.length ≤ 800) : pv g__law_made [.str (swS sw), .str ky.s, .lst (ts.map Tk.d)] = .val (madeT sw ky ts).d := law_made_pv (ky := ky) (by simp [itemsD]) (by first | omega | (simp; omega))
theorem lm_kl1 {sw : Bool} {ky : Ky} {ts : List Tk} {a : Tk} (h : ts.length ≤ 800) : pv g__law_made [.str (swS sw), .str ky.s, .lst (ts.map Tk.d ++ [a.d])] = .val (madeT sw ky (ts ++ [a])).d := law_made_pv (ky := ky) (by simp [itemsD]) (by first | omega | (simp; omega))
theorem lm_kl2 {sw : Bool} {ky : Ky} {ts : List Tk} {a b : Tk} (h : ts.length ≤ 800) : pv g__law_made [.str (swS sw), .str ky.s, .lst (ts.map Tk.d ++ [a.d, b.d])] = .val (madeT sw ky (ts ++ [a, b])).d := law_made_pv (ky := ky) (by simp [itemsD]) (by first | omega | (simp; omega))
theorem lm_ft {sw : Bool} {ts : List Tk} (h : ts.length ≤ 800) : pv g__law_made [.str (swS sw), .str "free", .tup (ts.map Tk.d)] = .val (madeT sw .free ts).d := law_made_pv (ky := .free) (by simp [itemsD]) (by first | omega | (simp; omega))
theorem lm_fl {sw : Bool} {ts : List Tk} (h : ts.length ≤ 800) : pv g__law_made [.str (swS sw), .str "free", .lst (ts.map Tk.d)] = .val (madeT sw .free ts).d := law_made_pv (ky := .free) (by simp [itemsD]) (by first | omega | (simp; omega))
theorem lm_fl1 {sw : Bool} {ts : List Tk} {a : Tk} (h : ts.length ≤ 800) : pv g__law_made [.str (swS sw), .str "free", .lst (ts.map Tk.d ++ [a.d])] = .val (madeT sw .free (ts ++ [a])).d := law_made_pv (ky := .free) (by simp [itemsD]) (by first | omega | (simp; omega))
theorem lm_fl2 {sw : Bool} {ts : List Tk} {a b : Tk} (h : ts.length ≤ 800) : pv g__law_made [.str (swS sw), .str "free", .lst (ts.map Tk.d ++ [a.d, b.d])] = .val (madeT sw .free (ts ++ [a, b])).d := law_made_pv (ky := .free) (by simp [itemsD]) (by first | omega | (simp; omega))
theorem lm_ht {sw : Bool} {ts : List Tk} (h : ts.length ≤ 800) : pv g__law_made [.str (swS sw), .str "held", .tup (ts.map Tk.d)] = .val (madeT sw .held ts).d := law_made_pv (ky := .held) (by simp [itemsD]) (by first | omega | (simp; omega))
theorem lm_hl {sw : Bool} {ts : List Tk} (h : ts.length ≤ 800) : pv g__law_made [.str (swS sw), .str "held", .lst (ts.map Tk.d)] = .val (madeT sw .held ts).d := law_made_pv (ky := .held) (by simp [itemsD]) (by first | omega | (simp; omega))
theorem lm_hl1 {sw : Bool} {ts : List Tk} {a : Tk} (h : ts.length ≤ 800) : pv g__law_made [.str (swS sw), .str "held", .lst (ts.map Tk.d ++ [a.d])] = .val (madeT sw .held (ts ++ [a])).d := law_made_pv (ky := .held) (by simp [itemsD]) (by first | omega | (simp; omega))
theorem lm_hl2 {sw : Bool} {ts : List Tk} {a b : Tk} (h : ts.length ≤ 800) : pv g__law_made [.str (swS sw), .str "held", .lst (ts.map Tk.d ++ [a.d, b.d])] = .val (madeT sw .held (ts ++ [a, b])).d := law_made_pv (ky := .held) (by simp [itemsD]) (by first | omega | (simp; omega))
theorem lm_lt {sw : Bool} {ts : List Tk} (h : ts.length ≤ 800) : pv g__law_made [.str (swS sw), .str "lost", .tup (ts.map Tk.d)] = .val (madeT sw .lost ts).d := law_made_pv (ky := .lost) (by simp [itemsD]) (by first | omega | (simp; omega))
theorem lm_ll {sw : Bool} {ts : List Tk} (h : ts.length ≤ 800) : pv g__law_made [.str (swS sw), .str "lost", .lst (ts.map Tk.d)] = .val (madeT sw .lost ts).d := law_made_pv (ky := .lost) (by simp [itemsD]) (by first | omega | (simp; omega))
theorem lm_ll1 {sw : Bool} {ts : List Tk} {a : Tk} (h : ts.length ≤ 800) : pv g__law_made [.str (swS sw), .str "lost", .lst (ts.map Tk.d ++ [a.d])] = .val (madeT sw .lost (ts ++ [a])).d := law_made_pv (ky := .lost) (by simp [itemsD]) (by first | omega | (simp; omega))
theorem lm_ll2 {sw : Bool} {ts : List Tk} {a b : Tk} (h : ts.length ≤ 800) : pv g__law_made [.str (swS sw), .str "lost", .lst (ts.map Tk.d ++ [a.d, b.d])] = .val (madeT sw .lost (ts ++ [a, b])).d := law_made_pv (ky := .lost) (by simp [itemsD]) (by first | omega | (simp; omega))
section
variable {ts : List Tk} {x y : D}
theorem add_m0 (h : ts.length ≤ 800) : dAdd (.lst (ts.map Tk.d)) (.lst []) = some (.lst (ts.map Tk.d)) := by
  rw [dAdd_l (by simp; omega), List.append_nil]
theorem add_m1 (h : ts.length ≤ 800) : dAdd (.lst (ts.map Tk.d)) (.lst [x]) = some (.lst (ts.map Tk.d ++ [x])) := dAdd_l (by simp; omega)
theorem add_m2 (h : ts.length ≤ 800) : dAdd (.lst (ts.map Tk.d)) (.lst [x, y]) = some (.lst (ts.map Tk.d ++ [x, y])) := dAdd_l (by simp; omega)
theorem lst_m0 (h : ts.length ≤ 800) : DL.gLst (ts.map Tk.d) = some (.lst (ts.map Tk.d)) := gLst_s (by simp; omega)
theorem lst_m1 (h : ts.length ≤ 800) : DL.gLst (ts.map Tk.d ++ [x]) = some (.lst (ts.map Tk.d ++ [x])) := gLst_s (by simp; omega)
theorem lst_m2 (h : ts.length ≤ 800) : DL.gLst (ts.map Tk.d ++ [x, y]) = some (.lst (ts.map Tk.d ++ [x, y])) := gLst_s (by simp; omega)
theorem lst_0 : DL.gLst [] = some (.lst []) := rfl
theorem lst_1 : DL.gLst [x] = some (.lst [x]) := rfl
theorem lst_2 : DL.gLst [x, y] = some (.lst [x, y]) := rfl
end
theorem tk_00 : D.tup [.int 0, .str ""] = (⟨0, false, false, false, false⟩ : Tk).d := rfl
theorem tk_0k : D.tup [.int 0, .str "k"] = (⟨0, false, false, false, true⟩ : Tk).d := rfl
/-! ### one token taken out -/
theorem taken_out_ok (s : Sg) (k : Nat) (hl : s.ts.length ≤ 800) : pv g_taken_out [s.d, .int (k : Int)] = .val (.lst ((s.ts.eraseIdx k).map Tk.d)) := by
  unfold g_taken_out
  rw [pv_gOf]
  unfold f_taken_out
  have e1 : ((k : Int) + 1) = ((k + 1 : Nat) : Int) := by omega
  have e2 : DL.gLst ((s.ts.map Tk.d).take k ++ (s.ts.map Tk.d).drop (k + 1)) = some (.lst ((s.ts.eraseIdx k).map Tk.d)) := by
    rw [← List.map_take, ← List.map_drop, ← List.map_append, ← List.eraseIdx_eq_take_drop_succ]
    exact lst_m0 (Nat.le_trans (List.length_eraseIdx_le ..) hl)
  simp -implicitDefEqProofs only [x_ixO, KIx, kIx2_l, x_setIx, KSx1, KSx2, kSx3_l, kSx4_s, x_bor, kBo_ok, x_borT, kBT_ok, sh_ow, sh_rf, sh_sh, sh_un, imm_i, imm_b, imm_s, pwFl_rt, pwFl_nx, x_callA, KCA, x_aNo, x_aPl, KPl, x_aKw, KKa, KKb, pa_pl, x_lc, unAt_0, unAt_s, b_ok, b_er, b_no, b_if, lift_s, lift_n, lift_if, unpv_val, unpv_new, unpv_err, unpv_if, pvFl_rt, pvFl_fr, pvFl_nx, pvFl_er, pvFl_if, unpw_val, x_var, rdV_sh, x_c, K1, x_f1, K2b, K2a, x_f2, x_nil, KCb, KCa, x_cons, KStb, KStar, x_star, ksta_s, KN, x_n, x_test, kTe_bl, KAn, x_and, KOr, x_or, KNo, x_not, KIe, x_if, x_andV, kAV_bl, x_orV, kOV_bl, x_notV, kNV_bl, x_sNil, x_seq, kSq_nx, kSq_rt, kSq_bk, kSq_ct, KRt, x_ret, KEx, x_exp, KIs, x_ifS, optR_s, KSe, x_set, KSO, x_setO, put, free_un, free_sh, free_ow, KSh, x_sh, KLs, x_lst, x_nm, x_gnil, x_gcons, x_gtp, x_gls, KAs, x_asg, KQ, x_q, x_iS, kiS_s, x_r1, x_for, KFo, KCl, x_call, x_shR, kSR_sh, kSR_fr, x_frR, kFR_fr, kCRb_s, KCR, x_callR, ob_ow, ob_rf, putOb, reob_ow, reob_rf, x_fld, KCh2, KCh1, x_chain, kCh3_b, KM2, x_m1, isStr_s, KNw, x_new, x_noP, x_p, kP_i, KCt2, KCt1, KCt0, x_cutT, kCt3_t, KPb, KPa, x_par2, x_rep, kRp_s, x_wo, KRs, x_raise, ok_and, ok_or, okb_and, okb_or, List.getElem?_cons_zero, List.getElem?_cons_succ, List.set_cons_zero, List.set_cons_succ, List.map_cons, List.map_nil, List.append_nil, List.nil_append, List.cons_append, List.length_cons, List.length_nil, List.replicate_succ, List.replicate_zero, Option.isSome_some, Option.isSome_none, Option.bind_some, Option.bind_none, Nat.reduceAdd, Nat.reduceSub, Nat.reduceMul, Nat.reduceLeDiff, Nat.reduceLT, Nat.reduceBEq, Nat.reduceEqDiff, Nat.beq_refl, if_true, if_false, reduceIte, Bool.false_eq_true, Bool.not_true, Bool.not_false, Bool.not_not, decide_eq_true_eq, decide_true, decide_false, Bool.and_true, Bool.true_and, Bool.and_false, Bool.false_and, Bool.or_true, Bool.true_or, Bool.or_false, Bool.false_or, Bool.not_eq_true', decide_eq_false_iff_not, dLe_i, dLt_i, dGt_i, dGe_i, dAdd_i, dSub_i, gLen_t, gLen_l, gTup_2, gTup_3, gTup_1, gTup_0, gTup_4, isN_n, notN_n, isN_t, notN_t, items_t, items_l, sg_2, cut_hi, e1, cut_lo, e2]
/-! ### marks -/
theorem onE_10 {env : Ev} {ts : List Tk} (hu : unAt env 10 = true) (hl : ts.length ≤ 800) : KLc [10] (gNm 10) fYes f_stepped_e1 env (ts.map Tk.d) = .ok env ((ts.map Tk.onE).map Tk.d) := by
  rw [List.map_map]
  refine kLc1 hu (by omega) fun t _ => ?_
  unfold f_stepped_e1
  simp -implicitDefEqProofs only [x_ixO, KIx, kIx2_l, x_setIx, KSx1, KSx2, kSx3_l, kSx4_s, x_bor, kBo_ok, x_borT, kBT_ok, sh_ow, sh_rf, sh_sh, sh_un, imm_i, imm_b, imm_s, pwFl_rt, pwFl_nx, x_callA, KCA, x_aNo, x_aPl, KPl, x_aKw, KKa, KKb, pa_pl, x_lc, unAt_0, unAt_s, b_ok, b_er, b_no, b_if, lift_s, lift_n, lift_if, unpv_val, unpv_new, unpv_err, unpv_if, pvFl_rt, pvFl_fr, pvFl_nx, pvFl_er, pvFl_if, unpw_val, x_var, rdV_sh, x_c, K1, x_f1, K2b, K2a, x_f2, x_nil, KCb, KCa, x_cons, KStb, KStar, x_star, ksta_s, KN, x_n, x_test, kTe_bl, KAn, x_and, KOr, x_or, KNo, x_not, KIe, x_if, x_andV, kAV_bl, x_orV, kOV_bl, x_notV, kNV_bl, x_sNil, x_seq, kSq_nx, kSq_rt, kSq_bk, kSq_ct, KRt, x_ret, KEx, x_exp, KIs, x_ifS, optR_s, KSe, x_set, KSO, x_setO, put, free_un, free_sh, free_ow, KSh, x_sh, KLs, x_lst, x_nm, x_gnil, x_gcons, x_gtp, x_gls, KAs, x_asg, KQ, x_q, x_iS, kiS_s, x_r1, x_for, KFo, KCl, x_call, x_shR, kSR_sh, kSR_fr, x_frR, kFR_fr, kCRb_s, KCR, x_callR, ob_ow, ob_rf, putOb, reob_ow, reob_rf, x_fld, KCh2, KCh1, x_chain, kCh3_b, KM2, x_m1, isStr_s, KNw, x_new, x_noP, x_p, kP_i, KCt2, KCt1, KCt0, x_cutT, kCt3_t, KPb, KPa, x_par2, x_rep, kRp_s, x_wo, KRs, x_raise, ok_and, ok_or, okb_and, okb_or, List.getElem?_cons_zero, List.getElem?_cons_succ, List.set_cons_zero, List.set_cons_succ, List.map_cons, List.map_nil, List.append_nil, List.nil_append, List.cons_append, List.length_cons, List.length_nil, List.replicate_succ, List.replicate_zero, Option.isSome_some, Option.isSome_none, Option.bind_some, Option.bind_none, Nat.reduceAdd, Nat.reduceSub, Nat.reduceMul, Nat.reduceLeDiff, Nat.reduceLT, Nat.reduceBEq, Nat.reduceEqDiff, Nat.beq_refl, if_true, if_false, reduceIte, Bool.false_eq_true, Bool.not_true, Bool.not_false, Bool.not_not, decide_eq_true_eq, decide_true, decide_false, Bool.and_true, Bool.true_and, Bool.and_false, Bool.false_and, Bool.or_true, Bool.true_or, Bool.or_false, Bool.false_or, Bool.not_eq_true', decide_eq_false_iff_not, dLe_i, dLt_i, dGt_i, dGe_i, dAdd_i, dSub_i, gLen_t, gLen_l, gTup_2, gTup_3, gTup_1, gTup_0, gTup_4, isN_n, notN_n, isN_t, notN_t, items_t, items_l, gt_set hu, wf_e]
  rfl
theorem onE_6 {env : Ev} {ts : List Tk} (hu : unAt env 6 = true) (hl : ts.length ≤ 800) : KLc [6] (gNm 6) fYes f_started_e1 env (ts.map Tk.d) = .ok env ((ts.map Tk.onE).map Tk.d) := by
  rw [List.map_map]
  refine kLc1 hu (by omega) fun t _ => ?_
  unfold f_started_e1
  simp -implicitDefEqProofs only [x_ixO, KIx, kIx2_l, x_setIx, KSx1, KSx2, kSx3_l, kSx4_s, x_bor, kBo_ok, x_borT, kBT_ok, sh_ow, sh_rf, sh_sh, sh_un, imm_i, imm_b, imm_s, pwFl_rt, pwFl_nx, x_callA, KCA, x_aNo, x_aPl, KPl, x_aKw, KKa, KKb, pa_pl, x_lc, unAt_0, unAt_s, b_ok, b_er, b_no, b_if, lift_s, lift_n, lift_if, unpv_val, unpv_new, unpv_err, unpv_if, pvFl_rt, pvFl_fr, pvFl_nx, pvFl_er, pvFl_if, unpw_val, x_var, rdV_sh, x_c, K1, x_f1, K2b, K2a, x_f2, x_nil, KCb, KCa, x_cons, KStb, KStar, x_star, ksta_s, KN, x_n, x_test, kTe_bl, KAn, x_and, KOr, x_or, KNo, x_not, KIe, x_if, x_andV, kAV_bl, x_orV, kOV_bl, x_notV, kNV_bl, x_sNil, x_seq, kSq_nx, kSq_rt, kSq_bk, kSq_ct, KRt, x_ret, KEx, x_exp, KIs, x_ifS, optR_s, KSe, x_set, KSO, x_setO, put, free_un, free_sh, free_ow, KSh, x_sh, KLs, x_lst, x_nm, x_gnil, x_gcons, x_gtp, x_gls, KAs, x_asg, KQ, x_q, x_iS, kiS_s, x_r1, x_for, KFo, KCl, x_call, x_shR, kSR_sh, kSR_fr, x_frR, kFR_fr, kCRb_s, KCR, x_callR, ob_ow, ob_rf, putOb, reob_ow, reob_rf, x_fld, KCh2, KCh1, x_chain, kCh3_b, KM2, x_m1, isStr_s, KNw, x_new, x_noP, x_p, kP_i, KCt2, KCt1, KCt0, x_cutT, kCt3_t, KPb, KPa, x_par2, x_rep, kRp_s, x_wo, KRs, x_raise, ok_and, ok_or, okb_and, okb_or, List.getElem?_cons_zero, List.getElem?_cons_succ, List.set_cons_zero, List.set_cons_succ, List.map_cons, List.map_nil, List.append_nil, List.nil_append, List.cons_append, List.length_cons, List.length_nil, List.replicate_succ, List.replicate_zero, Option.isSome_some, Option.isSome_none, Option.bind_some, Option.bind_none, Nat.reduceAdd, Nat.reduceSub, Nat.reduceMul, Nat.reduceLeDiff, Nat.reduceLT, Nat.reduceBEq, Nat.reduceEqDiff, Nat.beq_refl, if_true, if_false, reduceIte, Bool.false_eq_true, Bool.not_true, Bool.not_false, Bool.not_not, decide_eq_true_eq, decide_true, decide_false, Bool.and_true, Bool.true_and, Bool.and_false, Bool.false_and, Bool.or_true, Bool.true_or, Bool.or_false, Bool.false_or, Bool.not_eq_true', decide_eq_false_iff_not, dLe_i, dLt_i, dGt_i, dGe_i, dAdd_i, dSub_i, gLen_t, gLen_l, gTup_2, gTup_3, gTup_1, gTup_0, gTup_4, isN_n, notN_n, isN_t, notN_t, items_t, items_l, gt_set hu, wf_e]
  rfl
end LP

end

section
set_option Elab.async false
set_option linter.all false
set_option maxRecDepth 100000
set_option maxHeartbeats 2000000
/-! TD: what the moves leave. -/
namespace LP
open PySem L2 DL LW
theorem ix_tk {ts : List Tk} {k : Nat} {t : Tk} (h : ts[k]? = some t) : dIx (.tup (ts.map Tk.d)) (.int (k : Int)) = some t.d := ix_t (by rw [List.getElem?_map, h]; rfl)
def killedT (s : Sg) (k : Nat) (t : Tk) : Sg := madeT s.sw (brokenT s.ky t).2 (s.ts.eraseIdx k ++ (brokenT s.ky t).1.toList)
theorem killed_ok (j : Jb) (s : Sg) (k : Nat) (t : Tk) (hk : s.ts[k]? = some t) (hl : s.ts.length ≤ 700) : pv g_killed [j.d, s.d, .int k] = .val (killedT s k t).d := by
  have he : (s.ts.eraseIdx k).length ≤ 800 := Nat.le_trans (List.length_eraseIdx_le ..) (by omega)
  unfold g_killed killedT
  rw [pv_gOf]
  unfold f_killed
  rcases hb : brokenT s.ky t with ⟨l, ky⟩
  cases l with
  | none => simp -implicitDefEqProofs only [x_ixO, KIx, kIx2_l, x_setIx, KSx1, KSx2, kSx3_l, kSx4_s, x_bor, kBo_ok, x_borT, kBT_ok, sh_ow, sh_rf, sh_sh, sh_un, imm_i, imm_b, imm_s, pwFl_rt, pwFl_nx, x_callA, KCA, x_aNo, x_aPl, KPl, x_aKw, KKa, KKb, pa_pl, x_lc, unAt_0, unAt_s, b_ok, b_er, b_no, b_if, lift_s, lift_n, lift_if, unpv_val, unpv_new, unpv_err, unpv_if, pvFl_rt, pvFl_fr, pvFl_nx, pvFl_er, pvFl_if, unpw_val, x_var, rdV_sh, x_c, K1, x_f1, K2b, K2a, x_f2, x_nil, KCb, KCa, x_cons, KStb, KStar, x_star, ksta_s, KN, x_n, x_test, kTe_bl, KAn, x_and, KOr, x_or, KNo, x_not, KIe, x_if, x_andV, kAV_bl, x_orV, kOV_bl, x_notV, kNV_bl, x_sNil, x_seq, kSq_nx, kSq_rt, kSq_bk, kSq_ct, KRt, x_ret, KEx, x_exp, KIs, x_ifS, optR_s, KSe, x_set, KSO, x_setO, put, free_un, free_sh, free_ow, KSh, x_sh, KLs, x_lst, x_nm, x_gnil, x_gcons, x_gtp, x_gls, KAs, x_asg, KQ, x_q, x_iS, kiS_s, x_r1, x_for, KFo, KCl, x_call, x_shR, kSR_sh, kSR_fr, x_frR, kFR_fr, kCRb_s, KCR, x_callR, ob_ow, ob_rf, putOb, reob_ow, reob_rf, x_fld, KCh2, KCh1, x_chain, kCh3_b, KM2, x_m1, isStr_s, KNw, x_new, x_noP, x_p, kP_i, KCt2, KCt1, KCt0, x_cutT, kCt3_t, KPb, KPa, x_par2, x_rep, kRp_s, x_wo, KRs, x_raise, ok_and, ok_or, okb_and, okb_or, List.getElem?_cons_zero, List.getElem?_cons_succ, List.set_cons_zero, List.set_cons_succ, List.map_cons, List.map_nil, List.append_nil, List.nil_append, List.cons_append, List.length_cons, List.length_nil, List.replicate_succ, List.replicate_zero, Option.isSome_some, Option.isSome_none, Option.bind_some, Option.bind_none, Nat.reduceAdd, Nat.reduceSub, Nat.reduceMul, Nat.reduceLeDiff, Nat.reduceLT, Nat.reduceBEq, Nat.reduceEqDiff, Nat.beq_refl, if_true, if_false, reduceIte, Bool.false_eq_true, Bool.not_true, Bool.not_false, Bool.not_not, decide_eq_true_eq, decide_true, decide_false, Bool.and_true, Bool.true_and, Bool.and_false, Bool.false_and, Bool.or_true, Bool.true_or, Bool.or_false, Bool.false_or, Bool.not_eq_true', decide_eq_false_iff_not, dLe_i, dLt_i, dGt_i, dGe_i, dAdd_i, dSub_i, gLen_t, gLen_l, gTup_2, gTup_3, gTup_1, gTup_0, gTup_4, isN_n, notN_n, isN_t, notN_t, items_t, items_l, sg_0, sg_1, sg_2, sg_tp, tk_tp, isN_s, notN_s, isN_k, notN_k, tk_0, tk_1, ix_tk hk, broken_ok, hb, otk, taken_out_ok s k (by omega), he, mk_kt, mk_kl, mk_kl1, mk_kl2, mk_ft, mk_fl, mk_fl1, mk_fl2, mk_ht, mk_hl, mk_hl1, mk_hl2, mk_lt, mk_ll, mk_ll1, mk_ll2, add_m0, add_m1, add_m2, lst_m0, lst_m1, lst_m2, lst_0, lst_1, lst_2, List.length_map, Option.toList]
  | some l => simp -implicitDefEqProofs only [x_ixO, KIx, kIx2_l, x_setIx, KSx1, KSx2, kSx3_l, kSx4_s, x_bor, kBo_ok, x_borT, kBT_ok, sh_ow, sh_rf, sh_sh, sh_un, imm_i, imm_b, imm_s, pwFl_rt, pwFl_nx, x_callA, KCA, x_aNo, x_aPl, KPl, x_aKw, KKa, KKb, pa_pl, x_lc, unAt_0, unAt_s, b_ok, b_er, b_no, b_if, lift_s, lift_n, lift_if, unpv_val, unpv_new, unpv_err, unpv_if, pvFl_rt, pvFl_fr, pvFl_nx, pvFl_er, pvFl_if, unpw_val, x_var, rdV_sh, x_c, K1, x_f1, K2b, K2a, x_f2, x_nil, KCb, KCa, x_cons, KStb, KStar, x_star, ksta_s, KN, x_n, x_test, kTe_bl, KAn, x_and, KOr, x_or, KNo, x_not, KIe, x_if, x_andV, kAV_bl, x_orV, kOV_bl, x_notV, kNV_bl, x_sNil, x_seq, kSq_nx, kSq_rt, kSq_bk, kSq_ct, KRt, x_ret, KEx, x_exp, KIs, x_ifS, optR_s, KSe, x_set, KSO, x_setO, put, free_un, free_sh, free_ow, KSh, x_sh, KLs, x_lst, x_nm, x_gnil, x_gcons, x_gtp, x_gls, KAs, x_asg, KQ, x_q, x_iS, kiS_s, x_r1, x_for, KFo, KCl, x_call, x_shR, kSR_sh, kSR_fr, x_frR, kFR_fr, kCRb_s, KCR, x_callR, ob_ow, ob_rf, putOb, reob_ow, reob_rf, x_fld, KCh2, KCh1, x_chain, kCh3_b, KM2, x_m1, isStr_s, KNw, x_new, x_noP, x_p, kP_i, KCt2, KCt1, KCt0, x_cutT, kCt3_t, KPb, KPa, x_par2, x_rep, kRp_s, x_wo, KRs, x_raise, ok_and, ok_or, okb_and, okb_or, List.getElem?_cons_zero, List.getElem?_cons_succ, List.set_cons_zero, List.set_cons_succ, List.map_cons, List.map_nil, List.append_nil, List.nil_append, List.cons_append, List.length_cons, List.length_nil, List.replicate_succ, List.replicate_zero, Option.isSome_some, Option.isSome_none, Option.bind_some, Option.bind_none, Nat.reduceAdd, Nat.reduceSub, Nat.reduceMul, Nat.reduceLeDiff, Nat.reduceLT, Nat.reduceBEq, Nat.reduceEqDiff, Nat.beq_refl, if_true, if_false, reduceIte, Bool.false_eq_true, Bool.not_true, Bool.not_false, Bool.not_not, decide_eq_true_eq, decide_true, decide_false, Bool.and_true, Bool.true_and, Bool.and_false, Bool.false_and, Bool.or_true, Bool.true_or, Bool.or_false, Bool.false_or, Bool.not_eq_true', decide_eq_false_iff_not, dLe_i, dLt_i, dGt_i, dGe_i, dAdd_i, dSub_i, gLen_t, gLen_l, gTup_2, gTup_3, gTup_1, gTup_0, gTup_4, isN_n, notN_n, isN_t, notN_t, items_t, items_l, sg_0, sg_1, sg_2, sg_tp, tk_tp, isN_s, notN_s, isN_k, notN_k, tk_0, tk_1, ix_tk hk, broken_ok, hb, otk, taken_out_ok s k (by omega), he, mk_kt, mk_kl, mk_kl1, mk_kl2, mk_ft, mk_fl, mk_fl1, mk_fl2, mk_ht, mk_hl, mk_hl1, mk_hl2, mk_lt, mk_ll, mk_ll1, mk_ll2, add_m0, add_m1, add_m2, lst_m0, lst_m1, lst_m2, lst_0, lst_1, lst_2, List.length_map, Option.toList]
def failedT (j : Jb) (s : Sg) (k : Nat) (t : Tk) : Sg := if j.last = [] then killedT s k t else madeT s.sw s.ky (s.ts.eraseIdx k ++ [(t.at (j.rows.length + 1)).onF])
theorem failed_ok (j : Jb) (s : Sg) (k : Nat) (t : Tk) (hk : s.ts[k]? = some t) (hl : s.ts.length ≤ 700) : pv g_failed [j.d, s.d, .int k] = .val (failedT j s k t).d := by
  have he : (s.ts.eraseIdx k).length ≤ 800 := Nat.le_trans (List.length_eraseIdx_le ..) (by omega)
  unfold g_failed failedT
  rw [pv_gOf]
  unfold f_failed
  by_cases h : j.last = []
  · have h2 : (j.last.length : Int) = 0 := by simp [h]
    rw [if_pos h]
    simp -implicitDefEqProofs only [x_ixO, KIx, kIx2_l, x_setIx, KSx1, KSx2, kSx3_l, kSx4_s, x_bor, kBo_ok, x_borT, kBT_ok, sh_ow, sh_rf, sh_sh, sh_un, imm_i, imm_b, imm_s, pwFl_rt, pwFl_nx, x_callA, KCA, x_aNo, x_aPl, KPl, x_aKw, KKa, KKb, pa_pl, x_lc, unAt_0, unAt_s, b_ok, b_er, b_no, b_if, lift_s, lift_n, lift_if, unpv_val, unpv_new, unpv_err, unpv_if, pvFl_rt, pvFl_fr, pvFl_nx, pvFl_er, pvFl_if, unpw_val, x_var, rdV_sh, x_c, K1, x_f1, K2b, K2a, x_f2, x_nil, KCb, KCa, x_cons, KStb, KStar, x_star, ksta_s, KN, x_n, x_test, kTe_bl, KAn, x_and, KOr, x_or, KNo, x_not, KIe, x_if, x_andV, kAV_bl, x_orV, kOV_bl, x_notV, kNV_bl, x_sNil, x_seq, kSq_nx, kSq_rt, kSq_bk, kSq_ct, KRt, x_ret, KEx, x_exp, KIs, x_ifS, optR_s, KSe, x_set, KSO, x_setO, put, free_un, free_sh, free_ow, KSh, x_sh, KLs, x_lst, x_nm, x_gnil, x_gcons, x_gtp, x_gls, KAs, x_asg, KQ, x_q, x_iS, kiS_s, x_r1, x_for, KFo, KCl, x_call, x_shR, kSR_sh, kSR_fr, x_frR, kFR_fr, kCRb_s, KCR, x_callR, ob_ow, ob_rf, putOb, reob_ow, reob_rf, x_fld, KCh2, KCh1, x_chain, kCh3_b, KM2, x_m1, isStr_s, KNw, x_new, x_noP, x_p, kP_i, KCt2, KCt1, KCt0, x_cutT, kCt3_t, KPb, KPa, x_par2, x_rep, kRp_s, x_wo, KRs, x_raise, ok_and, ok_or, okb_and, okb_or, List.getElem?_cons_zero, List.getElem?_cons_succ, List.set_cons_zero, List.set_cons_succ, List.map_cons, List.map_nil, List.append_nil, List.nil_append, List.cons_append, List.length_cons, List.length_nil, List.replicate_succ, List.replicate_zero, Option.isSome_some, Option.isSome_none, Option.bind_some, Option.bind_none, Nat.reduceAdd, Nat.reduceSub, Nat.reduceMul, Nat.reduceLeDiff, Nat.reduceLT, Nat.reduceBEq, Nat.reduceEqDiff, Nat.beq_refl, if_true, if_false, reduceIte, Bool.false_eq_true, Bool.not_true, Bool.not_false, Bool.not_not, decide_eq_true_eq, decide_true, decide_false, Bool.and_true, Bool.true_and, Bool.and_false, Bool.false_and, Bool.or_true, Bool.true_or, Bool.or_false, Bool.false_or, Bool.not_eq_true', decide_eq_false_iff_not, dLe_i, dLt_i, dGt_i, dGe_i, dAdd_i, dSub_i, gLen_t, gLen_l, gTup_2, gTup_3, gTup_1, gTup_0, gTup_4, isN_n, notN_n, isN_t, notN_t, items_t, items_l, sg_0, sg_1, sg_2, sg_tp, tk_tp, isN_s, notN_s, isN_k, notN_k, tk_0, tk_1, j.l_last, gLen_t, List.length_map, h2, dEq_i, killed_ok j s k t hk hl]
  · have h2 : ¬ ((j.last.length : Int) = 0) := by
      intro q
      exact h (List.length_eq_zero_iff.mp (by omega))
    rw [if_neg h]
    simp -implicitDefEqProofs only [x_ixO, KIx, kIx2_l, x_setIx, KSx1, KSx2, kSx3_l, kSx4_s, x_bor, kBo_ok, x_borT, kBT_ok, sh_ow, sh_rf, sh_sh, sh_un, imm_i, imm_b, imm_s, pwFl_rt, pwFl_nx, x_callA, KCA, x_aNo, x_aPl, KPl, x_aKw, KKa, KKb, pa_pl, x_lc, unAt_0, unAt_s, b_ok, b_er, b_no, b_if, lift_s, lift_n, lift_if, unpv_val, unpv_new, unpv_err, unpv_if, pvFl_rt, pvFl_fr, pvFl_nx, pvFl_er, pvFl_if, unpw_val, x_var, rdV_sh, x_c, K1, x_f1, K2b, K2a, x_f2, x_nil, KCb, KCa, x_cons, KStb, KStar, x_star, ksta_s, KN, x_n, x_test, kTe_bl, KAn, x_and, KOr, x_or, KNo, x_not, KIe, x_if, x_andV, kAV_bl, x_orV, kOV_bl, x_notV, kNV_bl, x_sNil, x_seq, kSq_nx, kSq_rt, kSq_bk, kSq_ct, KRt, x_ret, KEx, x_exp, KIs, x_ifS, optR_s, KSe, x_set, KSO, x_setO, put, free_un, free_sh, free_ow, KSh, x_sh, KLs, x_lst, x_nm, x_gnil, x_gcons, x_gtp, x_gls, KAs, x_asg, KQ, x_q, x_iS, kiS_s, x_r1, x_for, KFo, KCl, x_call, x_shR, kSR_sh, kSR_fr, x_frR, kFR_fr, kCRb_s, KCR, x_callR, ob_ow, ob_rf, putOb, reob_ow, reob_rf, x_fld, KCh2, KCh1, x_chain, kCh3_b, KM2, x_m1, isStr_s, KNw, x_new, x_noP, x_p, kP_i, KCt2, KCt1, KCt0, x_cutT, kCt3_t, KPb, KPa, x_par2, x_rep, kRp_s, x_wo, KRs, x_raise, ok_and, ok_or, okb_and, okb_or, List.getElem?_cons_zero, List.getElem?_cons_succ, List.set_cons_zero, List.set_cons_succ, List.map_cons, List.map_nil, List.append_nil, List.nil_append, List.cons_append, List.length_cons, List.length_nil, List.replicate_succ, List.replicate_zero, Option.isSome_some, Option.isSome_none, Option.bind_some, Option.bind_none, Nat.reduceAdd, Nat.reduceSub, Nat.reduceMul, Nat.reduceLeDiff, Nat.reduceLT, Nat.reduceBEq, Nat.reduceEqDiff, Nat.beq_refl, if_true, if_false, reduceIte, Bool.false_eq_true, Bool.not_true, Bool.not_false, Bool.not_not, decide_eq_true_eq, decide_true, decide_false, Bool.and_true, Bool.true_and, Bool.and_false, Bool.false_and, Bool.or_true, Bool.true_or, Bool.or_false, Bool.false_or, Bool.not_eq_true', decide_eq_false_iff_not, dLe_i, dLt_i, dGt_i, dGe_i, dAdd_i, dSub_i, gLen_t, gLen_l, gTup_2, gTup_3, gTup_1, gTup_0, gTup_4, isN_n, notN_n, isN_t, notN_t, items_t, items_l, sg_0, sg_1, sg_2, sg_tp, tk_tp, isN_s, notN_s, isN_k, notN_k, tk_0, tk_1, j.l_last, j.l_rows, gLen_t, h2, dEq_i, ix_tk hk, at_fold, wf_f, taken_out_ok s k (by omega), he, mk_kt, mk_kl, mk_kl1, mk_kl2, mk_ft, mk_fl, mk_fl1, mk_fl2, mk_ht, mk_hl, mk_hl1, mk_hl2, mk_lt, mk_ll, mk_ll1, mk_ll2, add_m0, add_m1, add_m2, lst_m0, lst_m1, lst_m2, lst_0, lst_1, lst_2, List.length_map]
def repeatedT (s : Sg) (k : Nat) (t : Tk) : Sg := madeT s.sw s.ky (s.ts.eraseIdx k ++ [t.noK.onB, t.noF.at 0])
theorem repeated_ok (j : Jb) (s : Sg) (k : Nat) (t : Tk) (hk : s.ts[k]? = some t) (hl : s.ts.length ≤ 700) : pv g_repeated [j.d, s.d, .int k] = .val (repeatedT s k t).d := by
  have he : (s.ts.eraseIdx k).length ≤ 800 := Nat.le_trans (List.length_eraseIdx_le ..) (by omega)
  unfold g_repeated repeatedT
  rw [pv_gOf]
  unfold f_repeated
  simp -implicitDefEqProofs only [x_ixO, KIx, kIx2_l, x_setIx, KSx1, KSx2, kSx3_l, kSx4_s, x_bor, kBo_ok, x_borT, kBT_ok, sh_ow, sh_rf, sh_sh, sh_un, imm_i, imm_b, imm_s, pwFl_rt, pwFl_nx, x_callA, KCA, x_aNo, x_aPl, KPl, x_aKw, KKa, KKb, pa_pl, x_lc, unAt_0, unAt_s, b_ok, b_er, b_no, b_if, lift_s, lift_n, lift_if, unpv_val, unpv_new, unpv_err, unpv_if, pvFl_rt, pvFl_fr, pvFl_nx, pvFl_er, pvFl_if, unpw_val, x_var, rdV_sh, x_c, K1, x_f1, K2b, K2a, x_f2, x_nil, KCb, KCa, x_cons, KStb, KStar, x_star, ksta_s, KN, x_n, x_test, kTe_bl, KAn, x_and, KOr, x_or, KNo, x_not, KIe, x_if, x_andV, kAV_bl, x_orV, kOV_bl, x_notV, kNV_bl, x_sNil, x_seq, kSq_nx, kSq_rt, kSq_bk, kSq_ct, KRt, x_ret, KEx, x_exp, KIs, x_ifS, optR_s, KSe, x_set, KSO, x_setO, put, free_un, free_sh, free_ow, KSh, x_sh, KLs, x_lst, x_nm, x_gnil, x_gcons, x_gtp, x_gls, KAs, x_asg, KQ, x_q, x_iS, kiS_s, x_r1, x_for, KFo, KCl, x_call, x_shR, kSR_sh, kSR_fr, x_frR, kFR_fr, kCRb_s, KCR, x_callR, ob_ow, ob_rf, putOb, reob_ow, reob_rf, x_fld, KCh2, KCh1, x_chain, kCh3_b, KM2, x_m1, isStr_s, KNw, x_new, x_noP, x_p, kP_i, KCt2, KCt1, KCt0, x_cutT, kCt3_t, KPb, KPa, x_par2, x_rep, kRp_s, x_wo, KRs, x_raise, ok_and, ok_or, okb_and, okb_or, List.getElem?_cons_zero, List.getElem?_cons_succ, List.set_cons_zero, List.set_cons_succ, List.map_cons, List.map_nil, List.append_nil, List.nil_append, List.cons_append, List.length_cons, List.length_nil, List.replicate_succ, List.replicate_zero, Option.isSome_some, Option.isSome_none, Option.bind_some, Option.bind_none, Nat.reduceAdd, Nat.reduceSub, Nat.reduceMul, Nat.reduceLeDiff, Nat.reduceLT, Nat.reduceBEq, Nat.reduceEqDiff, Nat.beq_refl, if_true, if_false, reduceIte, Bool.false_eq_true, Bool.not_true, Bool.not_false, Bool.not_not, decide_eq_true_eq, decide_true, decide_false, Bool.and_true, Bool.true_and, Bool.and_false, Bool.false_and, Bool.or_true, Bool.true_or, Bool.or_false, Bool.false_or, Bool.not_eq_true', decide_eq_false_iff_not, dLe_i, dLt_i, dGt_i, dGe_i, dAdd_i, dSub_i, gLen_t, gLen_l, gTup_2, gTup_3, gTup_1, gTup_0, gTup_4, isN_n, notN_n, isN_t, notN_t, items_t, items_l, sg_0, sg_1, sg_2, sg_tp, tk_tp, isN_s, notN_s, isN_k, notN_k, tk_0, tk_1, ix_tk hk, kWo_f, kWo_k, at_fold, wf_b, taken_out_ok s k (by omega), he, mk_kt, mk_kl, mk_kl1, mk_kl2, mk_ft, mk_fl, mk_fl1, mk_fl2, mk_ht, mk_hl, mk_hl1, mk_hl2, mk_lt, mk_ll, mk_ll1, mk_ll2, add_m0, add_m1, add_m2, lst_m0, lst_m1, lst_m2, lst_0, lst_1, lst_2, List.length_map]
def missedT (s : Sg) (k : Nat) (t : Tk) : Sg := madeT s.sw (if t.k = true then .lost else s.ky) (s.ts.eraseIdx k)
theorem missed_ok (j : Jb) (s : Sg) (k : Nat) (t : Tk) (hk : s.ts[k]? = some t) (hl : s.ts.length ≤ 700) : pv g_missed [j.d, s.d, .int k] = .val (missedT s k t).d := by
  have he : (s.ts.eraseIdx k).length ≤ 800 := Nat.le_trans (List.length_eraseIdx_le ..) (by omega)
  unfold g_missed missedT
  rw [pv_gOf]
  unfold f_missed
  cases h : t.k
  · simp -implicitDefEqProofs only [x_ixO, KIx, kIx2_l, x_setIx, KSx1, KSx2, kSx3_l, kSx4_s, x_bor, kBo_ok, x_borT, kBT_ok, sh_ow, sh_rf, sh_sh, sh_un, imm_i, imm_b, imm_s, pwFl_rt, pwFl_nx, x_callA, KCA, x_aNo, x_aPl, KPl, x_aKw, KKa, KKb, pa_pl, x_lc, unAt_0, unAt_s, b_ok, b_er, b_no, b_if, lift_s, lift_n, lift_if, unpv_val, unpv_new, unpv_err, unpv_if, pvFl_rt, pvFl_fr, pvFl_nx, pvFl_er, pvFl_if, unpw_val, x_var, rdV_sh, x_c, K1, x_f1, K2b, K2a, x_f2, x_nil, KCb, KCa, x_cons, KStb, KStar, x_star, ksta_s, KN, x_n, x_test, kTe_bl, KAn, x_and, KOr, x_or, KNo, x_not, KIe, x_if, x_andV, kAV_bl, x_orV, kOV_bl, x_notV, kNV_bl, x_sNil, x_seq, kSq_nx, kSq_rt, kSq_bk, kSq_ct, KRt, x_ret, KEx, x_exp, KIs, x_ifS, optR_s, KSe, x_set, KSO, x_setO, put, free_un, free_sh, free_ow, KSh, x_sh, KLs, x_lst, x_nm, x_gnil, x_gcons, x_gtp, x_gls, KAs, x_asg, KQ, x_q, x_iS, kiS_s, x_r1, x_for, KFo, KCl, x_call, x_shR, kSR_sh, kSR_fr, x_frR, kFR_fr, kCRb_s, KCR, x_callR, ob_ow, ob_rf, putOb, reob_ow, reob_rf, x_fld, KCh2, KCh1, x_chain, kCh3_b, KM2, x_m1, isStr_s, KNw, x_new, x_noP, x_p, kP_i, KCt2, KCt1, KCt0, x_cutT, kCt3_t, KPb, KPa, x_par2, x_rep, kRp_s, x_wo, KRs, x_raise, ok_and, ok_or, okb_and, okb_or, List.getElem?_cons_zero, List.getElem?_cons_succ, List.set_cons_zero, List.set_cons_succ, List.map_cons, List.map_nil, List.append_nil, List.nil_append, List.cons_append, List.length_cons, List.length_nil, List.replicate_succ, List.replicate_zero, Option.isSome_some, Option.isSome_none, Option.bind_some, Option.bind_none, Nat.reduceAdd, Nat.reduceSub, Nat.reduceMul, Nat.reduceLeDiff, Nat.reduceLT, Nat.reduceBEq, Nat.reduceEqDiff, Nat.beq_refl, if_true, if_false, reduceIte, Bool.false_eq_true, Bool.not_true, Bool.not_false, Bool.not_not, decide_eq_true_eq, decide_true, decide_false, Bool.and_true, Bool.true_and, Bool.and_false, Bool.false_and, Bool.or_true, Bool.true_or, Bool.or_false, Bool.false_or, Bool.not_eq_true', decide_eq_false_iff_not, dLe_i, dLt_i, dGt_i, dGe_i, dAdd_i, dSub_i, gLen_t, gLen_l, gTup_2, gTup_3, gTup_1, gTup_0, gTup_4, isN_n, notN_n, isN_t, notN_t, items_t, items_l, sg_0, sg_1, sg_2, sg_tp, tk_tp, isN_s, notN_s, isN_k, notN_k, tk_0, tk_1, ix_tk hk, f_k, h, taken_out_ok s k (by omega), he, mk_kt, mk_kl, mk_kl1, mk_kl2, mk_ft, mk_fl, mk_fl1, mk_fl2, mk_ht, mk_hl, mk_hl1, mk_hl2, mk_lt, mk_ll, mk_ll1, mk_ll2, add_m0, add_m1, add_m2, lst_m0, lst_m1, lst_m2, lst_0, lst_1, lst_2, List.length_map]
  · simp -implicitDefEqProofs only [x_ixO, KIx, kIx2_l, x_setIx, KSx1, KSx2, kSx3_l, kSx4_s, x_bor, kBo_ok, x_borT, kBT_ok, sh_ow, sh_rf, sh_sh, sh_un, imm_i, imm_b, imm_s, pwFl_rt, pwFl_nx, x_callA, KCA, x_aNo, x_aPl, KPl, x_aKw, KKa, KKb, pa_pl, x_lc, unAt_0, unAt_s, b_ok, b_er, b_no, b_if, lift_s, lift_n, lift_if, unpv_val, unpv_new, unpv_err, unpv_if, pvFl_rt, pvFl_fr, pvFl_nx, pvFl_er, pvFl_if, unpw_val, x_var, rdV_sh, x_c, K1, x_f1, K2b, K2a, x_f2, x_nil, KCb, KCa, x_cons, KStb, KStar, x_star, ksta_s, KN, x_n, x_test, kTe_bl, KAn, x_and, KOr, x_or, KNo, x_not, KIe, x_if, x_andV, kAV_bl, x_orV, kOV_bl, x_notV, kNV_bl, x_sNil, x_seq, kSq_nx, kSq_rt, kSq_bk, kSq_ct, KRt, x_ret, KEx, x_exp, KIs, x_ifS, optR_s, KSe, x_set, KSO, x_setO, put, free_un, free_sh, free_ow, KSh, x_sh, KLs, x_lst, x_nm, x_gnil, x_gcons, x_gtp, x_gls, KAs, x_asg, KQ, x_q, x_iS, kiS_s, x_r1, x_for, KFo, KCl, x_call, x_shR, kSR_sh, kSR_fr, x_frR, kFR_fr, kCRb_s, KCR, x_callR, ob_ow, ob_rf, putOb, reob_ow, reob_rf, x_fld, KCh2, KCh1, x_chain, kCh3_b, KM2, x_m1, isStr_s, KNw, x_new, x_noP, x_p, kP_i, KCt2, KCt1, KCt0, x_cutT, kCt3_t, KPb, KPa, x_par2, x_rep, kRp_s, x_wo, KRs, x_raise, ok_and, ok_or, okb_and, okb_or, List.getElem?_cons_zero, List.getElem?_cons_succ, List.set_cons_zero, List.set_cons_succ, List.map_cons, List.map_nil, List.append_nil, List.nil_append, List.cons_append, List.length_cons, List.length_nil, List.replicate_succ, List.replicate_zero, Option.isSome_some, Option.isSome_none, Option.bind_some, Option.bind_none, Nat.reduceAdd, Nat.reduceSub, Nat.reduceMul, Nat.reduceLeDiff, Nat.reduceLT, Nat.reduceBEq, Nat.reduceEqDiff, Nat.beq_refl, if_true, if_false, reduceIte, Bool.false_eq_true, Bool.not_true, Bool.not_false, Bool.not_not, decide_eq_true_eq, decide_true, decide_false, Bool.and_true, Bool.true_and, Bool.and_false, Bool.false_and, Bool.or_true, Bool.true_or, Bool.or_false, Bool.false_or, Bool.not_eq_true', decide_eq_false_iff_not, dLe_i, dLt_i, dGt_i, dGe_i, dAdd_i, dSub_i, gLen_t, gLen_l, gTup_2, gTup_3, gTup_1, gTup_0, gTup_4, isN_n, notN_n, isN_t, notN_t, items_t, items_l, sg_0, sg_1, sg_2, sg_tp, tk_tp, isN_s, notN_s, isN_k, notN_k, tk_0, tk_1, ix_tk hk, f_k, h, taken_out_ok s k (by omega), he, mk_kt, mk_kl, mk_kl1, mk_kl2, mk_ft, mk_fl, mk_fl1, mk_fl2, mk_ht, mk_hl, mk_hl1, mk_hl2, mk_lt, mk_ll, mk_ll1, mk_ll2, add_m0, add_m1, add_m2, lst_m0, lst_m1, lst_m2, lst_0, lst_1, lst_2, List.length_map]
theorem lapsed_ok (j : Jb) (s : Sg) (i : D) (hl : s.ts.length ≤ 700) : pv g_lapsed [j.d, s.d, i] = .val (madeT s.sw .free s.ts).d := by
  have he : s.ts.length ≤ 800 := by omega
  unfold g_lapsed
  rw [pv_gOf]
  unfold f_lapsed
  simp -implicitDefEqProofs only [x_ixO, KIx, kIx2_l, x_setIx, KSx1, KSx2, kSx3_l, kSx4_s, x_bor, kBo_ok, x_borT, kBT_ok, sh_ow, sh_rf, sh_sh, sh_un, imm_i, imm_b, imm_s, pwFl_rt, pwFl_nx, x_callA, KCA, x_aNo, x_aPl, KPl, x_aKw, KKa, KKb, pa_pl, x_lc, unAt_0, unAt_s, b_ok, b_er, b_no, b_if, lift_s, lift_n, lift_if, unpv_val, unpv_new, unpv_err, unpv_if, pvFl_rt, pvFl_fr, pvFl_nx, pvFl_er, pvFl_if, unpw_val, x_var, rdV_sh, x_c, K1, x_f1, K2b, K2a, x_f2, x_nil, KCb, KCa, x_cons, KStb, KStar, x_star, ksta_s, KN, x_n, x_test, kTe_bl, KAn, x_and, KOr, x_or, KNo, x_not, KIe, x_if, x_andV, kAV_bl, x_orV, kOV_bl, x_notV, kNV_bl, x_sNil, x_seq, kSq_nx, kSq_rt, kSq_bk, kSq_ct, KRt, x_ret, KEx, x_exp, KIs, x_ifS, optR_s, KSe, x_set, KSO, x_setO, put, free_un, free_sh, free_ow, KSh, x_sh, KLs, x_lst, x_nm, x_gnil, x_gcons, x_gtp, x_gls, KAs, x_asg, KQ, x_q, x_iS, kiS_s, x_r1, x_for, KFo, KCl, x_call, x_shR, kSR_sh, kSR_fr, x_frR, kFR_fr, kCRb_s, KCR, x_callR, ob_ow, ob_rf, putOb, reob_ow, reob_rf, x_fld, KCh2, KCh1, x_chain, kCh3_b, KM2, x_m1, isStr_s, KNw, x_new, x_noP, x_p, kP_i, KCt2, KCt1, KCt0, x_cutT, kCt3_t, KPb, KPa, x_par2, x_rep, kRp_s, x_wo, KRs, x_raise, ok_and, ok_or, okb_and, okb_or, List.getElem?_cons_zero, List.getElem?_cons_succ, List.set_cons_zero, List.set_cons_succ, List.map_cons, List.map_nil, List.append_nil, List.nil_append, List.cons_append, List.length_cons, List.length_nil, List.replicate_succ, List.replicate_zero, Option.isSome_some, Option.isSome_none, Option.bind_some, Option.bind_none, Nat.reduceAdd, Nat.reduceSub, Nat.reduceMul, Nat.reduceLeDiff, Nat.reduceLT, Nat.reduceBEq, Nat.reduceEqDiff, Nat.beq_refl, if_true, if_false, reduceIte, Bool.false_eq_true, Bool.not_true, Bool.not_false, Bool.not_not, decide_eq_true_eq, decide_true, decide_false, Bool.and_true, Bool.true_and, Bool.and_false, Bool.false_and, Bool.or_true, Bool.true_or, Bool.or_false, Bool.false_or, Bool.not_eq_true', decide_eq_false_iff_not, dLe_i, dLt_i, dGt_i, dGe_i, dAdd_i, dSub_i, gLen_t, gLen_l, gTup_2, gTup_3, gTup_1, gTup_0, gTup_4, isN_n, notN_n, isN_t, notN_t, items_t, items_l, sg_0, sg_1, sg_2, sg_tp, tk_tp, isN_s, notN_s, isN_k, notN_k, tk_0, tk_1, he, mk_kt, mk_kl, mk_kl1, mk_kl2, mk_ft, mk_fl, mk_fl1, mk_fl2, mk_ht, mk_hl, mk_hl1, mk_hl2, mk_lt, mk_ll, mk_ll1, mk_ll2, add_m0, add_m1, add_m2, lst_m0, lst_m1, lst_m2, lst_0, lst_1, lst_2, List.length_map]
theorem both_10 {env : Ev} (a b : Option Tk) (hu : unAt env 10 = true) : KLc [10] (gNm 10) f_stepped_t2 f_stepped_e3 env [otk a, otk b] = .ok env ((a.toList ++ b.toList).map Tk.d) := by
  have := kLf1 (α := Option Tk) (v := 10) (ft := f_stepped_t2) (fe := f_stepped_e3) (env := env) (inp := otk) (out := otk) (p := fun o => o.isSome) (xs := [a, b]) hu (by simp) (fun x _ => by
      unfold f_stepped_t2
      cases x <;> simp -implicitDefEqProofs only [x_ixO, KIx, kIx2_l, x_setIx, KSx1, KSx2, kSx3_l, kSx4_s, x_bor, kBo_ok, x_borT, kBT_ok, sh_ow, sh_rf, sh_sh, sh_un, imm_i, imm_b, imm_s, pwFl_rt, pwFl_nx, x_callA, KCA, x_aNo, x_aPl, KPl, x_aKw, KKa, KKb, pa_pl, x_lc, unAt_0, unAt_s, b_ok, b_er, b_no, b_if, lift_s, lift_n, lift_if, unpv_val, unpv_new, unpv_err, unpv_if, pvFl_rt, pvFl_fr, pvFl_nx, pvFl_er, pvFl_if, unpw_val, x_var, rdV_sh, x_c, K1, x_f1, K2b, K2a, x_f2, x_nil, KCb, KCa, x_cons, KStb, KStar, x_star, ksta_s, KN, x_n, x_test, kTe_bl, KAn, x_and, KOr, x_or, KNo, x_not, KIe, x_if, x_andV, kAV_bl, x_orV, kOV_bl, x_notV, kNV_bl, x_sNil, x_seq, kSq_nx, kSq_rt, kSq_bk, kSq_ct, KRt, x_ret, KEx, x_exp, KIs, x_ifS, optR_s, KSe, x_set, KSO, x_setO, put, free_un, free_sh, free_ow, KSh, x_sh, KLs, x_lst, x_nm, x_gnil, x_gcons, x_gtp, x_gls, KAs, x_asg, KQ, x_q, x_iS, kiS_s, x_r1, x_for, KFo, KCl, x_call, x_shR, kSR_sh, kSR_fr, x_frR, kFR_fr, kCRb_s, KCR, x_callR, ob_ow, ob_rf, putOb, reob_ow, reob_rf, x_fld, KCh2, KCh1, x_chain, kCh3_b, KM2, x_m1, isStr_s, KNw, x_new, x_noP, x_p, kP_i, KCt2, KCt1, KCt0, x_cutT, kCt3_t, KPb, KPa, x_par2, x_rep, kRp_s, x_wo, KRs, x_raise, ok_and, ok_or, okb_and, okb_or, List.getElem?_cons_zero, List.getElem?_cons_succ, List.set_cons_zero, List.set_cons_succ, List.map_cons, List.map_nil, List.append_nil, List.nil_append, List.cons_append, List.length_cons, List.length_nil, List.replicate_succ, List.replicate_zero, Option.isSome_some, Option.isSome_none, Option.bind_some, Option.bind_none, Nat.reduceAdd, Nat.reduceSub, Nat.reduceMul, Nat.reduceLeDiff, Nat.reduceLT, Nat.reduceBEq, Nat.reduceEqDiff, Nat.beq_refl, if_true, if_false, reduceIte, Bool.false_eq_true, Bool.not_true, Bool.not_false, Bool.not_not, decide_eq_true_eq, decide_true, decide_false, Bool.and_true, Bool.true_and, Bool.and_false, Bool.false_and, Bool.or_true, Bool.true_or, Bool.or_false, Bool.false_or, Bool.not_eq_true', decide_eq_false_iff_not, dLe_i, dLt_i, dGt_i, dGe_i, dAdd_i, dSub_i, gLen_t, gLen_l, gTup_2, gTup_3, gTup_1, gTup_0, gTup_4, isN_n, notN_n, isN_t, notN_t, items_t, items_l, gt_set hu, otk, notN_k, Option.isSome_some, Option.isSome_none]) (fun x _ _ => by
      unfold f_stepped_e3
      simp -implicitDefEqProofs only [x_ixO, KIx, kIx2_l, x_setIx, KSx1, KSx2, kSx3_l, kSx4_s, x_bor, kBo_ok, x_borT, kBT_ok, sh_ow, sh_rf, sh_sh, sh_un, imm_i, imm_b, imm_s, pwFl_rt, pwFl_nx, x_callA, KCA, x_aNo, x_aPl, KPl, x_aKw, KKa, KKb, pa_pl, x_lc, unAt_0, unAt_s, b_ok, b_er, b_no, b_if, lift_s, lift_n, lift_if, unpv_val, unpv_new, unpv_err, unpv_if, pvFl_rt, pvFl_fr, pvFl_nx, pvFl_er, pvFl_if, unpw_val, x_var, rdV_sh, x_c, K1, x_f1, K2b, K2a, x_f2, x_nil, KCb, KCa, x_cons, KStb, KStar, x_star, ksta_s, KN, x_n, x_test, kTe_bl, KAn, x_and, KOr, x_or, KNo, x_not, KIe, x_if, x_andV, kAV_bl, x_orV, kOV_bl, x_notV, kNV_bl, x_sNil, x_seq, kSq_nx, kSq_rt, kSq_bk, kSq_ct, KRt, x_ret, KEx, x_exp, KIs, x_ifS, optR_s, KSe, x_set, KSO, x_setO, put, free_un, free_sh, free_ow, KSh, x_sh, KLs, x_lst, x_nm, x_gnil, x_gcons, x_gtp, x_gls, KAs, x_asg, KQ, x_q, x_iS, kiS_s, x_r1, x_for, KFo, KCl, x_call, x_shR, kSR_sh, kSR_fr, x_frR, kFR_fr, kCRb_s, KCR, x_callR, ob_ow, ob_rf, putOb, reob_ow, reob_rf, x_fld, KCh2, KCh1, x_chain, kCh3_b, KM2, x_m1, isStr_s, KNw, x_new, x_noP, x_p, kP_i, KCt2, KCt1, KCt0, x_cutT, kCt3_t, KPb, KPa, x_par2, x_rep, kRp_s, x_wo, KRs, x_raise, ok_and, ok_or, okb_and, okb_or, List.getElem?_cons_zero, List.getElem?_cons_succ, List.set_cons_zero, List.set_cons_succ, List.map_cons, List.map_nil, List.append_nil, List.nil_append, List.cons_append, List.length_cons, List.length_nil, List.replicate_succ, List.replicate_zero, Option.isSome_some, Option.isSome_none, Option.bind_some, Option.bind_none, Nat.reduceAdd, Nat.reduceSub, Nat.reduceMul, Nat.reduceLeDiff, Nat.reduceLT, Nat.reduceBEq, Nat.reduceEqDiff, Nat.beq_refl, if_true, if_false, reduceIte, Bool.false_eq_true, Bool.not_true, Bool.not_false, Bool.not_not, decide_eq_true_eq, decide_true, decide_false, Bool.and_true, Bool.true_and, Bool.and_false, Bool.false_and, Bool.or_true, Bool.true_or, Bool.or_false, Bool.false_or, Bool.not_eq_true', decide_eq_false_iff_not, dLe_i, dLt_i, dGt_i, dGe_i, dAdd_i, dSub_i, gLen_t, gLen_l, gTup_2, gTup_3, gTup_1, gTup_0, gTup_4, isN_n, notN_n, isN_t, notN_t, items_t, items_l, gt_set hu])
  refine this.trans ?_
  cases a <;> cases b <;> simp [otk]
def steppedT (ws : List Wd) (s : Sg) (k : Nat) (t : Tk) : Sg :=
  madeT s.sw (actedT ws s.sw s.ky t).2.2.1 ((if (actedT ws s.sw s.ky t).2.2.2 = true then (s.ts.eraseIdx k).map Tk.onE else s.ts.eraseIdx k) ++ ((actedT ws s.sw s.ky t).1.toList ++ (actedT ws s.sw s.ky t).2.1.toList))
theorem act_tp (a b : Option Tk) (ky : Ky) (r : Bool) {gs : List D → Ev → Option Ev} {e : Ev} : gTp gs (actD (a, b, ky, r)) e = gs [otk a, otk b, .str ky.s, .bl r] e := rfl
theorem add_mm {ts us : List Tk} (h : ts.length ≤ 800) (h2 : us.length ≤ 100) : dAdd (.lst (ts.map Tk.d)) (.lst (us.map Tk.d)) = some (.lst ((ts ++ us).map Tk.d)) := by
  rw [dAdd_l (by simp; omega), List.map_append]
theorem stepped_ok (j : Jb) (s : Sg) (k : Nat) (t : Tk) (hk : s.ts[k]? = some t) (h0 : 0 ≤ t.p) (hl : s.ts.length ≤ 600) : pv g_stepped [j.d, s.d, .int k] = .val (steppedT j.words s k t).d := by
  have he : (s.ts.eraseIdx k).length ≤ 700 := Nat.le_trans (List.length_eraseIdx_le ..) (by omega)
  have he' : (s.ts.eraseIdx k).length ≤ 800 := Nat.le_trans (List.length_eraseIdx_le ..) (by omega)
  unfold g_stepped steppedT
  rw [pv_gOf]
  unfold f_stepped
  rcases ha : actedT j.words s.sw s.ky t with ⟨a, b, ky, r⟩
  have h2 : (a.toList ++ b.toList).length ≤ 100 := by cases a <;> cases b <;> simp
  have h3 : ((s.ts.eraseIdx k) ++ (a.toList ++ b.toList)).length ≤ 800 := by simp only [List.length_append] at h2 ⊢; omega
  have h4 : ((s.ts.eraseIdx k).map Tk.onE ++ (a.toList ++ b.toList)).length ≤ 800 := by simp only [List.length_append, List.length_map] at h2 ⊢; omega
  cases r
  · simp -implicitDefEqProofs only [x_ixO, KIx, kIx2_l, x_setIx, KSx1, KSx2, kSx3_l, kSx4_s, x_bor, kBo_ok, x_borT, kBT_ok, sh_ow, sh_rf, sh_sh, sh_un, imm_i, imm_b, imm_s, pwFl_rt, pwFl_nx, x_callA, KCA, x_aNo, x_aPl, KPl, x_aKw, KKa, KKb, pa_pl, x_lc, unAt_0, unAt_s, b_ok, b_er, b_no, b_if, lift_s, lift_n, lift_if, unpv_val, unpv_new, unpv_err, unpv_if, pvFl_rt, pvFl_fr, pvFl_nx, pvFl_er, pvFl_if, unpw_val, x_var, rdV_sh, x_c, K1, x_f1, K2b, K2a, x_f2, x_nil, KCb, KCa, x_cons, KStb, KStar, x_star, ksta_s, KN, x_n, x_test, kTe_bl, KAn, x_and, KOr, x_or, KNo, x_not, KIe, x_if, x_andV, kAV_bl, x_orV, kOV_bl, x_notV, kNV_bl, x_sNil, x_seq, kSq_nx, kSq_rt, kSq_bk, kSq_ct, KRt, x_ret, KEx, x_exp, KIs, x_ifS, optR_s, KSe, x_set, KSO, x_setO, put, free_un, free_sh, free_ow, KSh, x_sh, KLs, x_lst, x_nm, x_gnil, x_gcons, x_gtp, x_gls, KAs, x_asg, KQ, x_q, x_iS, kiS_s, x_r1, x_for, KFo, KCl, x_call, x_shR, kSR_sh, kSR_fr, x_frR, kFR_fr, kCRb_s, KCR, x_callR, ob_ow, ob_rf, putOb, reob_ow, reob_rf, x_fld, KCh2, KCh1, x_chain, kCh3_b, KM2, x_m1, isStr_s, KNw, x_new, x_noP, x_p, kP_i, KCt2, KCt1, KCt0, x_cutT, kCt3_t, KPb, KPa, x_par2, x_rep, kRp_s, x_wo, KRs, x_raise, ok_and, ok_or, okb_and, okb_or, List.getElem?_cons_zero, List.getElem?_cons_succ, List.set_cons_zero, List.set_cons_succ, List.map_cons, List.map_nil, List.append_nil, List.nil_append, List.cons_append, List.length_cons, List.length_nil, List.replicate_succ, List.replicate_zero, Option.isSome_some, Option.isSome_none, Option.bind_some, Option.bind_none, Nat.reduceAdd, Nat.reduceSub, Nat.reduceMul, Nat.reduceLeDiff, Nat.reduceLT, Nat.reduceBEq, Nat.reduceEqDiff, Nat.beq_refl, if_true, if_false, reduceIte, Bool.false_eq_true, Bool.not_true, Bool.not_false, Bool.not_not, decide_eq_true_eq, decide_true, decide_false, Bool.and_true, Bool.true_and, Bool.and_false, Bool.false_and, Bool.or_true, Bool.true_or, Bool.or_false, Bool.false_or, Bool.not_eq_true', decide_eq_false_iff_not, dLe_i, dLt_i, dGt_i, dGe_i, dAdd_i, dSub_i, gLen_t, gLen_l, gTup_2, gTup_3, gTup_1, gTup_0, gTup_4, isN_n, notN_n, isN_t, notN_t, items_t, items_l, sg_0, sg_1, sg_2, sg_tp, tk_tp, isN_s, notN_s, isN_k, notN_k, tk_0, tk_1, ix_tk hk, acted_ok j s.sw s.ky t h0, ha, act_tp, taken_out_ok s k (by omega), both_10, add_mm he' h2, mk_kl h3]
  · have h5 : ((s.ts.eraseIdx k).map Tk.onE).length ≤ 800 := by simpa using he'
    simp -implicitDefEqProofs only [x_ixO, KIx, kIx2_l, x_setIx, KSx1, KSx2, kSx3_l, kSx4_s, x_bor, kBo_ok, x_borT, kBT_ok, sh_ow, sh_rf, sh_sh, sh_un, imm_i, imm_b, imm_s, pwFl_rt, pwFl_nx, x_callA, KCA, x_aNo, x_aPl, KPl, x_aKw, KKa, KKb, pa_pl, x_lc, unAt_0, unAt_s, b_ok, b_er, b_no, b_if, lift_s, lift_n, lift_if, unpv_val, unpv_new, unpv_err, unpv_if, pvFl_rt, pvFl_fr, pvFl_nx, pvFl_er, pvFl_if, unpw_val, x_var, rdV_sh, x_c, K1, x_f1, K2b, K2a, x_f2, x_nil, KCb, KCa, x_cons, KStb, KStar, x_star, ksta_s, KN, x_n, x_test, kTe_bl, KAn, x_and, KOr, x_or, KNo, x_not, KIe, x_if, x_andV, kAV_bl, x_orV, kOV_bl, x_notV, kNV_bl, x_sNil, x_seq, kSq_nx, kSq_rt, kSq_bk, kSq_ct, KRt, x_ret, KEx, x_exp, KIs, x_ifS, optR_s, KSe, x_set, KSO, x_setO, put, free_un, free_sh, free_ow, KSh, x_sh, KLs, x_lst, x_nm, x_gnil, x_gcons, x_gtp, x_gls, KAs, x_asg, KQ, x_q, x_iS, kiS_s, x_r1, x_for, KFo, KCl, x_call, x_shR, kSR_sh, kSR_fr, x_frR, kFR_fr, kCRb_s, KCR, x_callR, ob_ow, ob_rf, putOb, reob_ow, reob_rf, x_fld, KCh2, KCh1, x_chain, kCh3_b, KM2, x_m1, isStr_s, KNw, x_new, x_noP, x_p, kP_i, KCt2, KCt1, KCt0, x_cutT, kCt3_t, KPb, KPa, x_par2, x_rep, kRp_s, x_wo, KRs, x_raise, ok_and, ok_or, okb_and, okb_or, List.getElem?_cons_zero, List.getElem?_cons_succ, List.set_cons_zero, List.set_cons_succ, List.map_cons, List.map_nil, List.append_nil, List.nil_append, List.cons_append, List.length_cons, List.length_nil, List.replicate_succ, List.replicate_zero, Option.isSome_some, Option.isSome_none, Option.bind_some, Option.bind_none, Nat.reduceAdd, Nat.reduceSub, Nat.reduceMul, Nat.reduceLeDiff, Nat.reduceLT, Nat.reduceBEq, Nat.reduceEqDiff, Nat.beq_refl, if_true, if_false, reduceIte, Bool.false_eq_true, Bool.not_true, Bool.not_false, Bool.not_not, decide_eq_true_eq, decide_true, decide_false, Bool.and_true, Bool.true_and, Bool.and_false, Bool.false_and, Bool.or_true, Bool.true_or, Bool.or_false, Bool.false_or, Bool.not_eq_true', decide_eq_false_iff_not, dLe_i, dLt_i, dGt_i, dGe_i, dAdd_i, dSub_i, gLen_t, gLen_l, gTup_2, gTup_3, gTup_1, gTup_0, gTup_4, isN_n, notN_n, isN_t, notN_t, items_t, items_l, sg_0, sg_1, sg_2, sg_tp, tk_tp, isN_s, notN_s, isN_k, notN_k, tk_0, tk_1, ix_tk hk, acted_ok j s.sw s.ky t h0, ha, act_tp, taken_out_ok s k (by omega), onE_10, he', both_10, add_mm h5 h2, mk_kl h4]
def osg : Option Sg → D
  | none => .non
  | some s => s.d
def startedT (j : Jb) (s : Sg) : Option Sg := if j.once = true ∧ s.ky ≠ .free then none else
  if j.once = true then some (madeT s.sw .held ((if j.rais = true then s.ts.map Tk.onE else s.ts) ++ [⟨0, false, false, false, true⟩]))
  else some (madeT s.sw s.ky ((if j.rais = true then s.ts.map Tk.onE else s.ts) ++ [⟨0, false, false, false, false⟩]))
theorem started_ok (j : Jb) (s : Sg) (hl : s.ts.length ≤ 700) : pv g_started [j.d, s.d] = .val (osg (startedT j s)) := by
  have he : s.ts.length ≤ 800 := by omega
  unfold g_started startedT
  rw [pv_gOf]
  unfold f_started
  cases ho : j.once <;> cases hr : j.rais <;> by_cases hk : s.ky = .free <;> (simp -implicitDefEqProofs only [x_ixO, KIx, kIx2_l, x_setIx, KSx1, KSx2, kSx3_l, kSx4_s, x_bor, kBo_ok, x_borT, kBT_ok, sh_ow, sh_rf, sh_sh, sh_un, imm_i, imm_b, imm_s, pwFl_rt, pwFl_nx, x_callA, KCA, x_aNo, x_aPl, KPl, x_aKw, KKa, KKb, pa_pl, x_lc, unAt_0, unAt_s, b_ok, b_er, b_no, b_if, lift_s, lift_n, lift_if, unpv_val, unpv_new, unpv_err, unpv_if, pvFl_rt, pvFl_fr, pvFl_nx, pvFl_er, pvFl_if, unpw_val, x_var, rdV_sh, x_c, K1, x_f1, K2b, K2a, x_f2, x_nil, KCb, KCa, x_cons, KStb, KStar, x_star, ksta_s, KN, x_n, x_test, kTe_bl, KAn, x_and, KOr, x_or, KNo, x_not, KIe, x_if, x_andV, kAV_bl, x_orV, kOV_bl, x_notV, kNV_bl, x_sNil, x_seq, kSq_nx, kSq_rt, kSq_bk, kSq_ct, KRt, x_ret, KEx, x_exp, KIs, x_ifS, optR_s, KSe, x_set, KSO, x_setO, put, free_un, free_sh, free_ow, KSh, x_sh, KLs, x_lst, x_nm, x_gnil, x_gcons, x_gtp, x_gls, KAs, x_asg, KQ, x_q, x_iS, kiS_s, x_r1, x_for, KFo, KCl, x_call, x_shR, kSR_sh, kSR_fr, x_frR, kFR_fr, kCRb_s, KCR, x_callR, ob_ow, ob_rf, putOb, reob_ow, reob_rf, x_fld, KCh2, KCh1, x_chain, kCh3_b, KM2, x_m1, isStr_s, KNw, x_new, x_noP, x_p, kP_i, KCt2, KCt1, KCt0, x_cutT, kCt3_t, KPb, KPa, x_par2, x_rep, kRp_s, x_wo, KRs, x_raise, ok_and, ok_or, okb_and, okb_or, List.getElem?_cons_zero, List.getElem?_cons_succ, List.set_cons_zero, List.set_cons_succ, List.map_cons, List.map_nil, List.append_nil, List.nil_append, List.cons_append, List.length_cons, List.length_nil, List.replicate_succ, List.replicate_zero, Option.isSome_some, Option.isSome_none, Option.bind_some, Option.bind_none, Nat.reduceAdd, Nat.reduceSub, Nat.reduceMul, Nat.reduceLeDiff, Nat.reduceLT, Nat.reduceBEq, Nat.reduceEqDiff, Nat.beq_refl, if_true, if_false, reduceIte, Bool.false_eq_true, Bool.not_true, Bool.not_false, Bool.not_not, decide_eq_true_eq, decide_true, decide_false, Bool.and_true, Bool.true_and, Bool.and_false, Bool.false_and, Bool.or_true, Bool.true_or, Bool.or_false, Bool.false_or, Bool.not_eq_true', decide_eq_false_iff_not, dLe_i, dLt_i, dGt_i, dGe_i, dAdd_i, dSub_i, gLen_t, gLen_l, gTup_2, gTup_3, gTup_1, gTup_0, gTup_4, isN_n, notN_n, isN_t, notN_t, items_t, items_l, sg_0, sg_1, sg_2, sg_tp, tk_tp, isN_s, notN_s, isN_k, notN_k, tk_0, tk_1, j.l_start, st_once, st_raise, ho, hr, k_nfree, hk, onE_6, he, mk_kt, mk_kl, mk_kl1, mk_kl2, mk_ft, mk_fl, mk_fl1, mk_fl2, mk_ht, mk_hl, mk_hl1, mk_hl2, mk_lt, mk_ll, mk_ll1, mk_ll2, add_m0, add_m1, add_m2, lst_m0, lst_m1, lst_m2, lst_0, lst_1, lst_2, List.length_map, tk_00, tk_0k, osg, ne_eq, and_self, and_true, and_false, true_and, false_and, not_true_eq_false, not_false_eq_true])
theorem begun_ok (j : Jb) (s : Sg) (i : D) (hl : s.ts.length ≤ 700) : pv g_begun [j.d, s.d, i] = .val ((startedT j s).getD s).d := by
  unfold g_begun
  rw [pv_gOf]
  unfold f_begun
  cases h : startedT j s with
  | none => simp -implicitDefEqProofs only [x_ixO, KIx, kIx2_l, x_setIx, KSx1, KSx2, kSx3_l, kSx4_s, x_bor, kBo_ok, x_borT, kBT_ok, sh_ow, sh_rf, sh_sh, sh_un, imm_i, imm_b, imm_s, pwFl_rt, pwFl_nx, x_callA, KCA, x_aNo, x_aPl, KPl, x_aKw, KKa, KKb, pa_pl, x_lc, unAt_0, unAt_s, b_ok, b_er, b_no, b_if, lift_s, lift_n, lift_if, unpv_val, unpv_new, unpv_err, unpv_if, pvFl_rt, pvFl_fr, pvFl_nx, pvFl_er, pvFl_if, unpw_val, x_var, rdV_sh, x_c, K1, x_f1, K2b, K2a, x_f2, x_nil, KCb, KCa, x_cons, KStb, KStar, x_star, ksta_s, KN, x_n, x_test, kTe_bl, KAn, x_and, KOr, x_or, KNo, x_not, KIe, x_if, x_andV, kAV_bl, x_orV, kOV_bl, x_notV, kNV_bl, x_sNil, x_seq, kSq_nx, kSq_rt, kSq_bk, kSq_ct, KRt, x_ret, KEx, x_exp, KIs, x_ifS, optR_s, KSe, x_set, KSO, x_setO, put, free_un, free_sh, free_ow, KSh, x_sh, KLs, x_lst, x_nm, x_gnil, x_gcons, x_gtp, x_gls, KAs, x_asg, KQ, x_q, x_iS, kiS_s, x_r1, x_for, KFo, KCl, x_call, x_shR, kSR_sh, kSR_fr, x_frR, kFR_fr, kCRb_s, KCR, x_callR, ob_ow, ob_rf, putOb, reob_ow, reob_rf, x_fld, KCh2, KCh1, x_chain, kCh3_b, KM2, x_m1, isStr_s, KNw, x_new, x_noP, x_p, kP_i, KCt2, KCt1, KCt0, x_cutT, kCt3_t, KPb, KPa, x_par2, x_rep, kRp_s, x_wo, KRs, x_raise, ok_and, ok_or, okb_and, okb_or, List.getElem?_cons_zero, List.getElem?_cons_succ, List.set_cons_zero, List.set_cons_succ, List.map_cons, List.map_nil, List.append_nil, List.nil_append, List.cons_append, List.length_cons, List.length_nil, List.replicate_succ, List.replicate_zero, Option.isSome_some, Option.isSome_none, Option.bind_some, Option.bind_none, Nat.reduceAdd, Nat.reduceSub, Nat.reduceMul, Nat.reduceLeDiff, Nat.reduceLT, Nat.reduceBEq, Nat.reduceEqDiff, Nat.beq_refl, if_true, if_false, reduceIte, Bool.false_eq_true, Bool.not_true, Bool.not_false, Bool.not_not, decide_eq_true_eq, decide_true, decide_false, Bool.and_true, Bool.true_and, Bool.and_false, Bool.false_and, Bool.or_true, Bool.true_or, Bool.or_false, Bool.false_or, Bool.not_eq_true', decide_eq_false_iff_not, dLe_i, dLt_i, dGt_i, dGe_i, dAdd_i, dSub_i, gLen_t, gLen_l, gTup_2, gTup_3, gTup_1, gTup_0, gTup_4, isN_n, notN_n, isN_t, notN_t, items_t, items_l, started_ok j s hl, h, osg, Option.getD]
  | some r => simp -implicitDefEqProofs only [x_ixO, KIx, kIx2_l, x_setIx, KSx1, KSx2, kSx3_l, kSx4_s, x_bor, kBo_ok, x_borT, kBT_ok, sh_ow, sh_rf, sh_sh, sh_un, imm_i, imm_b, imm_s, pwFl_rt, pwFl_nx, x_callA, KCA, x_aNo, x_aPl, KPl, x_aKw, KKa, KKb, pa_pl, x_lc, unAt_0, unAt_s, b_ok, b_er, b_no, b_if, lift_s, lift_n, lift_if, unpv_val, unpv_new, unpv_err, unpv_if, pvFl_rt, pvFl_fr, pvFl_nx, pvFl_er, pvFl_if, unpw_val, x_var, rdV_sh, x_c, K1, x_f1, K2b, K2a, x_f2, x_nil, KCb, KCa, x_cons, KStb, KStar, x_star, ksta_s, KN, x_n, x_test, kTe_bl, KAn, x_and, KOr, x_or, KNo, x_not, KIe, x_if, x_andV, kAV_bl, x_orV, kOV_bl, x_notV, kNV_bl, x_sNil, x_seq, kSq_nx, kSq_rt, kSq_bk, kSq_ct, KRt, x_ret, KEx, x_exp, KIs, x_ifS, optR_s, KSe, x_set, KSO, x_setO, put, free_un, free_sh, free_ow, KSh, x_sh, KLs, x_lst, x_nm, x_gnil, x_gcons, x_gtp, x_gls, KAs, x_asg, KQ, x_q, x_iS, kiS_s, x_r1, x_for, KFo, KCl, x_call, x_shR, kSR_sh, kSR_fr, x_frR, kFR_fr, kCRb_s, KCR, x_callR, ob_ow, ob_rf, putOb, reob_ow, reob_rf, x_fld, KCh2, KCh1, x_chain, kCh3_b, KM2, x_m1, isStr_s, KNw, x_new, x_noP, x_p, kP_i, KCt2, KCt1, KCt0, x_cutT, kCt3_t, KPb, KPa, x_par2, x_rep, kRp_s, x_wo, KRs, x_raise, ok_and, ok_or, okb_and, okb_or, List.getElem?_cons_zero, List.getElem?_cons_succ, List.set_cons_zero, List.set_cons_succ, List.map_cons, List.map_nil, List.append_nil, List.nil_append, List.cons_append, List.length_cons, List.length_nil, List.replicate_succ, List.replicate_zero, Option.isSome_some, Option.isSome_none, Option.bind_some, Option.bind_none, Nat.reduceAdd, Nat.reduceSub, Nat.reduceMul, Nat.reduceLeDiff, Nat.reduceLT, Nat.reduceBEq, Nat.reduceEqDiff, Nat.beq_refl, if_true, if_false, reduceIte, Bool.false_eq_true, Bool.not_true, Bool.not_false, Bool.not_not, decide_eq_true_eq, decide_true, decide_false, Bool.and_true, Bool.true_and, Bool.and_false, Bool.false_and, Bool.or_true, Bool.true_or, Bool.or_false, Bool.false_or, Bool.not_eq_true', decide_eq_false_iff_not, dLe_i, dLt_i, dGt_i, dGe_i, dAdd_i, dSub_i, gLen_t, gLen_l, gTup_2, gTup_3, gTup_1, gTup_0, gTup_4, isN_n, notN_n, isN_t, notN_t, items_t, items_l, started_ok j s hl, h, osg, isN_s, Option.getD]
theorem turned_off_ok (j : Jb) (s : Sg) (i : D) : pv g_turned_off [j.d, s.d, i] = .val (Sg.mk false s.ky s.ts).d := by
  unfold g_turned_off
  rw [pv_gOf]
  unfold f_turned_off
  simp -implicitDefEqProofs only [x_ixO, KIx, kIx2_l, x_setIx, KSx1, KSx2, kSx3_l, kSx4_s, x_bor, kBo_ok, x_borT, kBT_ok, sh_ow, sh_rf, sh_sh, sh_un, imm_i, imm_b, imm_s, pwFl_rt, pwFl_nx, x_callA, KCA, x_aNo, x_aPl, KPl, x_aKw, KKa, KKb, pa_pl, x_lc, unAt_0, unAt_s, b_ok, b_er, b_no, b_if, lift_s, lift_n, lift_if, unpv_val, unpv_new, unpv_err, unpv_if, pvFl_rt, pvFl_fr, pvFl_nx, pvFl_er, pvFl_if, unpw_val, x_var, rdV_sh, x_c, K1, x_f1, K2b, K2a, x_f2, x_nil, KCb, KCa, x_cons, KStb, KStar, x_star, ksta_s, KN, x_n, x_test, kTe_bl, KAn, x_and, KOr, x_or, KNo, x_not, KIe, x_if, x_andV, kAV_bl, x_orV, kOV_bl, x_notV, kNV_bl, x_sNil, x_seq, kSq_nx, kSq_rt, kSq_bk, kSq_ct, KRt, x_ret, KEx, x_exp, KIs, x_ifS, optR_s, KSe, x_set, KSO, x_setO, put, free_un, free_sh, free_ow, KSh, x_sh, KLs, x_lst, x_nm, x_gnil, x_gcons, x_gtp, x_gls, KAs, x_asg, KQ, x_q, x_iS, kiS_s, x_r1, x_for, KFo, KCl, x_call, x_shR, kSR_sh, kSR_fr, x_frR, kFR_fr, kCRb_s, KCR, x_callR, ob_ow, ob_rf, putOb, reob_ow, reob_rf, x_fld, KCh2, KCh1, x_chain, kCh3_b, KM2, x_m1, isStr_s, KNw, x_new, x_noP, x_p, kP_i, KCt2, KCt1, KCt0, x_cutT, kCt3_t, KPb, KPa, x_par2, x_rep, kRp_s, x_wo, KRs, x_raise, ok_and, ok_or, okb_and, okb_or, List.getElem?_cons_zero, List.getElem?_cons_succ, List.set_cons_zero, List.set_cons_succ, List.map_cons, List.map_nil, List.append_nil, List.nil_append, List.cons_append, List.length_cons, List.length_nil, List.replicate_succ, List.replicate_zero, Option.isSome_some, Option.isSome_none, Option.bind_some, Option.bind_none, Nat.reduceAdd, Nat.reduceSub, Nat.reduceMul, Nat.reduceLeDiff, Nat.reduceLT, Nat.reduceBEq, Nat.reduceEqDiff, Nat.beq_refl, if_true, if_false, reduceIte, Bool.false_eq_true, Bool.not_true, Bool.not_false, Bool.not_not, decide_eq_true_eq, decide_true, decide_false, Bool.and_true, Bool.true_and, Bool.and_false, Bool.false_and, Bool.or_true, Bool.true_or, Bool.or_false, Bool.false_or, Bool.not_eq_true', decide_eq_false_iff_not, dLe_i, dLt_i, dGt_i, dGe_i, dAdd_i, dSub_i, gLen_t, gLen_l, gTup_2, gTup_3, gTup_1, gTup_0, gTup_4, isN_n, notN_n, isN_t, notN_t, items_t, items_l, sg_0, sg_1, sg_2, sg_tp, tk_tp, isN_s, notN_s, isN_k, notN_k, tk_0, tk_1]
  rfl
theorem on_fold (ky : Ky) (ts : List Tk) : D.tup [.str "on", .str ky.s, .tup (ts.map Tk.d)] = (Sg.mk true ky ts).d := rfl
theorem off_fold (ky : Ky) (ts : List Tk) : D.tup [.str "off", .str ky.s, .tup (ts.map Tk.d)] = (Sg.mk false ky ts).d := rfl
theorem turned_on_ok (j : Jb) (s : Sg) (i : D) (hl : s.ts.length ≤ 700) : pv g_turned_on [j.d, s.d, i] = .val ((startedT j ⟨true, s.ky, s.ts⟩).getD ⟨true, s.ky, s.ts⟩).d := by
  unfold g_turned_on
  rw [pv_gOf]
  unfold f_turned_on
  simp -implicitDefEqProofs only [x_ixO, KIx, kIx2_l, x_setIx, KSx1, KSx2, kSx3_l, kSx4_s, x_bor, kBo_ok, x_borT, kBT_ok, sh_ow, sh_rf, sh_sh, sh_un, imm_i, imm_b, imm_s, pwFl_rt, pwFl_nx, x_callA, KCA, x_aNo, x_aPl, KPl, x_aKw, KKa, KKb, pa_pl, x_lc, unAt_0, unAt_s, b_ok, b_er, b_no, b_if, lift_s, lift_n, lift_if, unpv_val, unpv_new, unpv_err, unpv_if, pvFl_rt, pvFl_fr, pvFl_nx, pvFl_er, pvFl_if, unpw_val, x_var, rdV_sh, x_c, K1, x_f1, K2b, K2a, x_f2, x_nil, KCb, KCa, x_cons, KStb, KStar, x_star, ksta_s, KN, x_n, x_test, kTe_bl, KAn, x_and, KOr, x_or, KNo, x_not, KIe, x_if, x_andV, kAV_bl, x_orV, kOV_bl, x_notV, kNV_bl, x_sNil, x_seq, kSq_nx, kSq_rt, kSq_bk, kSq_ct, KRt, x_ret, KEx, x_exp, KIs, x_ifS, optR_s, KSe, x_set, KSO, x_setO, put, free_un, free_sh, free_ow, KSh, x_sh, KLs, x_lst, x_nm, x_gnil, x_gcons, x_gtp, x_gls, KAs, x_asg, KQ, x_q, x_iS, kiS_s, x_r1, x_for, KFo, KCl, x_call, x_shR, kSR_sh, kSR_fr, x_frR, kFR_fr, kCRb_s, KCR, x_callR, ob_ow, ob_rf, putOb, reob_ow, reob_rf, x_fld, KCh2, KCh1, x_chain, kCh3_b, KM2, x_m1, isStr_s, KNw, x_new, x_noP, x_p, kP_i, KCt2, KCt1, KCt0, x_cutT, kCt3_t, KPb, KPa, x_par2, x_rep, kRp_s, x_wo, KRs, x_raise, ok_and, ok_or, okb_and, okb_or, List.getElem?_cons_zero, List.getElem?_cons_succ, List.set_cons_zero, List.set_cons_succ, List.map_cons, List.map_nil, List.append_nil, List.nil_append, List.cons_append, List.length_cons, List.length_nil, List.replicate_succ, List.replicate_zero, Option.isSome_some, Option.isSome_none, Option.bind_some, Option.bind_none, Nat.reduceAdd, Nat.reduceSub, Nat.reduceMul, Nat.reduceLeDiff, Nat.reduceLT, Nat.reduceBEq, Nat.reduceEqDiff, Nat.beq_refl, if_true, if_false, reduceIte, Bool.false_eq_true, Bool.not_true, Bool.not_false, Bool.not_not, decide_eq_true_eq, decide_true, decide_false, Bool.and_true, Bool.true_and, Bool.and_false, Bool.false_and, Bool.or_true, Bool.true_or, Bool.or_false, Bool.false_or, Bool.not_eq_true', decide_eq_false_iff_not, dLe_i, dLt_i, dGt_i, dGe_i, dAdd_i, dSub_i, gLen_t, gLen_l, gTup_2, gTup_3, gTup_1, gTup_0, gTup_4, isN_n, notN_n, isN_t, notN_t, items_t, items_l, sg_0, sg_1, sg_2, sg_tp, tk_tp, isN_s, notN_s, isN_k, notN_k, tk_0, tk_1, on_fold, begun_ok j ⟨true, s.ky, s.ts⟩ i hl]
end LP

end

section
set_option Elab.async false
set_option linter.all false
set_option maxRecDepth 100000
set_option maxHeartbeats 2000000
/-! TE: which moves are possible; after. -/
namespace LP
open PySem L2 DL LW
inductive Mp where
  | step | kill | fail | rept | lose
  deriving DecidableEq
def Mp.s : Mp → Str
  | .step => "step" | .kill => "kill" | .fail => "fail" | .rept => "repeat" | .lose => "lose"
section
variable (m : Mp)
theorem m_step : dEq (.str m.s) (.str "step") = some (.bl (decide (m = .step))) := by cases m <;> kernel_rfl
theorem m_lose : dEq (.str m.s) (.str "lose") = some (.bl (decide (m = .lose))) := by cases m <;> kernel_rfl
theorem m_fail : dEq (.str m.s) (.str "fail") = some (.bl (decide (m = .fail))) := by cases m <;> kernel_rfl
theorem m_rept : dEq (.str m.s) (.str "repeat") = some (.bl (decide (m = .rept))) := by cases m <;> kernel_rfl
theorem m_in : dIn (.str m.s) (.tup c_PLACED) = some (.bl true) := by cases m <;> kernel_rfl
end
theorem at_self (t : Tk) : t.at t.p = t := rfl
def canActT (j : Jb) (s : Sg) (m : Mp) (k : Nat) (room : Int) : Bool := match s.ts[k]? with
  | none => false
  | some t => match m with
    | .step => decide ((s.ts.length : Int) < room) || !isPut j.words s.ky t
    | .lose => decide (t.p = 0)
    | .fail => decide (wordAt j.rows t.p = some .work)
    | .rept => decide (0 < t.p) && (!t.b && decide ((s.ts.length : Int) < room))
    | .kill => decide (0 < t.p)
theorem can_act_ok (j : Jb) (s : Sg) (m : Mp) (k : Nat) (room : Int) : pv g_can_act [j.d, s.d, .tup [.str m.s, .int k], .int room] = .val (.bl (canActT j s m k room)) := by
  unfold g_can_act canActT
  rw [pv_gOf]
  unfold f_can_act
  cases hk : s.ts[k]? with
  | none =>
    have h : (s.ts.length : Int) ≤ (k : Int) := by rw [List.getElem?_eq_none_iff] at hk; omega
    simp -implicitDefEqProofs only [x_ixO, KIx, kIx2_l, x_setIx, KSx1, KSx2, kSx3_l, kSx4_s, x_bor, kBo_ok, x_borT, kBT_ok, sh_ow, sh_rf, sh_sh, sh_un, imm_i, imm_b, imm_s, pwFl_rt, pwFl_nx, x_callA, KCA, x_aNo, x_aPl, KPl, x_aKw, KKa, KKb, pa_pl, x_lc, unAt_0, unAt_s, b_ok, b_er, b_no, b_if, lift_s, lift_n, lift_if, unpv_val, unpv_new, unpv_err, unpv_if, pvFl_rt, pvFl_fr, pvFl_nx, pvFl_er, pvFl_if, unpw_val, x_var, rdV_sh, x_c, K1, x_f1, K2b, K2a, x_f2, x_nil, KCb, KCa, x_cons, KStb, KStar, x_star, ksta_s, KN, x_n, x_test, kTe_bl, KAn, x_and, KOr, x_or, KNo, x_not, KIe, x_if, x_andV, kAV_bl, x_orV, kOV_bl, x_notV, kNV_bl, x_sNil, x_seq, kSq_nx, kSq_rt, kSq_bk, kSq_ct, KRt, x_ret, KEx, x_exp, KIs, x_ifS, optR_s, KSe, x_set, KSO, x_setO, put, free_un, free_sh, free_ow, KSh, x_sh, KLs, x_lst, x_nm, x_gnil, x_gcons, x_gtp, x_gls, KAs, x_asg, KQ, x_q, x_iS, kiS_s, x_r1, x_for, KFo, KCl, x_call, x_shR, kSR_sh, kSR_fr, x_frR, kFR_fr, kCRb_s, KCR, x_callR, ob_ow, ob_rf, putOb, reob_ow, reob_rf, x_fld, KCh2, KCh1, x_chain, kCh3_b, KM2, x_m1, isStr_s, KNw, x_new, x_noP, x_p, kP_i, KCt2, KCt1, KCt0, x_cutT, kCt3_t, KPb, KPa, x_par2, x_rep, kRp_s, x_wo, KRs, x_raise, ok_and, ok_or, okb_and, okb_or, List.getElem?_cons_zero, List.getElem?_cons_succ, List.set_cons_zero, List.set_cons_succ, List.map_cons, List.map_nil, List.append_nil, List.nil_append, List.cons_append, List.length_cons, List.length_nil, List.replicate_succ, List.replicate_zero, Option.isSome_some, Option.isSome_none, Option.bind_some, Option.bind_none, Nat.reduceAdd, Nat.reduceSub, Nat.reduceMul, Nat.reduceLeDiff, Nat.reduceLT, Nat.reduceBEq, Nat.reduceEqDiff, Nat.beq_refl, if_true, if_false, reduceIte, Bool.false_eq_true, Bool.not_true, Bool.not_false, Bool.not_not, decide_eq_true_eq, decide_true, decide_false, Bool.and_true, Bool.true_and, Bool.and_false, Bool.false_and, Bool.or_true, Bool.true_or, Bool.or_false, Bool.false_or, Bool.not_eq_true', decide_eq_false_iff_not, dLe_i, dLt_i, dGt_i, dGe_i, dAdd_i, dSub_i, gLen_t, gLen_l, gTup_2, gTup_3, gTup_1, gTup_0, gTup_4, isN_n, notN_n, isN_t, notN_t, items_t, items_l, sg_0, sg_1, sg_2, sg_tp, tk_tp, isN_s, notN_s, isN_k, notN_k, tk_0, tk_1, List.length_map, h]
  | some t =>
    have h : ¬ (s.ts.length : Int) ≤ (k : Int) := by have := (List.getElem?_eq_some_iff.mp hk).1; omega
    cases hw : wordAt j.rows t.p with
    | none =>
      by_cases h1 : 1 ≤ t.p
      · have h2 := wordAt_none hw h1
        simp -implicitDefEqProofs only [x_ixO, KIx, kIx2_l, x_setIx, KSx1, KSx2, kSx3_l, kSx4_s, x_bor, kBo_ok, x_borT, kBT_ok, sh_ow, sh_rf, sh_sh, sh_un, imm_i, imm_b, imm_s, pwFl_rt, pwFl_nx, x_callA, KCA, x_aNo, x_aPl, KPl, x_aKw, KKa, KKb, pa_pl, x_lc, unAt_0, unAt_s, b_ok, b_er, b_no, b_if, lift_s, lift_n, lift_if, unpv_val, unpv_new, unpv_err, unpv_if, pvFl_rt, pvFl_fr, pvFl_nx, pvFl_er, pvFl_if, unpw_val, x_var, rdV_sh, x_c, K1, x_f1, K2b, K2a, x_f2, x_nil, KCb, KCa, x_cons, KStb, KStar, x_star, ksta_s, KN, x_n, x_test, kTe_bl, KAn, x_and, KOr, x_or, KNo, x_not, KIe, x_if, x_andV, kAV_bl, x_orV, kOV_bl, x_notV, kNV_bl, x_sNil, x_seq, kSq_nx, kSq_rt, kSq_bk, kSq_ct, KRt, x_ret, KEx, x_exp, KIs, x_ifS, optR_s, KSe, x_set, KSO, x_setO, put, free_un, free_sh, free_ow, KSh, x_sh, KLs, x_lst, x_nm, x_gnil, x_gcons, x_gtp, x_gls, KAs, x_asg, KQ, x_q, x_iS, kiS_s, x_r1, x_for, KFo, KCl, x_call, x_shR, kSR_sh, kSR_fr, x_frR, kFR_fr, kCRb_s, KCR, x_callR, ob_ow, ob_rf, putOb, reob_ow, reob_rf, x_fld, KCh2, KCh1, x_chain, kCh3_b, KM2, x_m1, isStr_s, KNw, x_new, x_noP, x_p, kP_i, KCt2, KCt1, KCt0, x_cutT, kCt3_t, KPb, KPa, x_par2, x_rep, kRp_s, x_wo, KRs, x_raise, ok_and, ok_or, okb_and, okb_or, List.getElem?_cons_zero, List.getElem?_cons_succ, List.set_cons_zero, List.set_cons_succ, List.map_cons, List.map_nil, List.append_nil, List.nil_append, List.cons_append, List.length_cons, List.length_nil, List.replicate_succ, List.replicate_zero, Option.isSome_some, Option.isSome_none, Option.bind_some, Option.bind_none, Nat.reduceAdd, Nat.reduceSub, Nat.reduceMul, Nat.reduceLeDiff, Nat.reduceLT, Nat.reduceBEq, Nat.reduceEqDiff, Nat.beq_refl, if_true, if_false, reduceIte, Bool.false_eq_true, Bool.not_true, Bool.not_false, Bool.not_not, decide_eq_true_eq, decide_true, decide_false, Bool.and_true, Bool.true_and, Bool.and_false, Bool.false_and, Bool.or_true, Bool.true_or, Bool.or_false, Bool.false_or, Bool.not_eq_true', decide_eq_false_iff_not, dLe_i, dLt_i, dGt_i, dGe_i, dAdd_i, dSub_i, gLen_t, gLen_l, gTup_2, gTup_3, gTup_1, gTup_0, gTup_4, isN_n, notN_n, isN_t, notN_t, items_t, items_l, sg_0, sg_1, sg_2, sg_tp, tk_tp, isN_s, notN_s, isN_k, notN_k, tk_0, tk_1, List.length_map, h, ix_tk hk, at_fold, at_self, m_step, m_lose, m_fail, m_rept, is_put_ok, dEq_i, j.l_rows, h1, Int.not_le.mpr h2, f_nb]
        cases m <;> simp [hw]
      · simp -implicitDefEqProofs only [x_ixO, KIx, kIx2_l, x_setIx, KSx1, KSx2, kSx3_l, kSx4_s, x_bor, kBo_ok, x_borT, kBT_ok, sh_ow, sh_rf, sh_sh, sh_un, imm_i, imm_b, imm_s, pwFl_rt, pwFl_nx, x_callA, KCA, x_aNo, x_aPl, KPl, x_aKw, KKa, KKb, pa_pl, x_lc, unAt_0, unAt_s, b_ok, b_er, b_no, b_if, lift_s, lift_n, lift_if, unpv_val, unpv_new, unpv_err, unpv_if, pvFl_rt, pvFl_fr, pvFl_nx, pvFl_er, pvFl_if, unpw_val, x_var, rdV_sh, x_c, K1, x_f1, K2b, K2a, x_f2, x_nil, KCb, KCa, x_cons, KStb, KStar, x_star, ksta_s, KN, x_n, x_test, kTe_bl, KAn, x_and, KOr, x_or, KNo, x_not, KIe, x_if, x_andV, kAV_bl, x_orV, kOV_bl, x_notV, kNV_bl, x_sNil, x_seq, kSq_nx, kSq_rt, kSq_bk, kSq_ct, KRt, x_ret, KEx, x_exp, KIs, x_ifS, optR_s, KSe, x_set, KSO, x_setO, put, free_un, free_sh, free_ow, KSh, x_sh, KLs, x_lst, x_nm, x_gnil, x_gcons, x_gtp, x_gls, KAs, x_asg, KQ, x_q, x_iS, kiS_s, x_r1, x_for, KFo, KCl, x_call, x_shR, kSR_sh, kSR_fr, x_frR, kFR_fr, kCRb_s, KCR, x_callR, ob_ow, ob_rf, putOb, reob_ow, reob_rf, x_fld, KCh2, KCh1, x_chain, kCh3_b, KM2, x_m1, isStr_s, KNw, x_new, x_noP, x_p, kP_i, KCt2, KCt1, KCt0, x_cutT, kCt3_t, KPb, KPa, x_par2, x_rep, kRp_s, x_wo, KRs, x_raise, ok_and, ok_or, okb_and, okb_or, List.getElem?_cons_zero, List.getElem?_cons_succ, List.set_cons_zero, List.set_cons_succ, List.map_cons, List.map_nil, List.append_nil, List.nil_append, List.cons_append, List.length_cons, List.length_nil, List.replicate_succ, List.replicate_zero, Option.isSome_some, Option.isSome_none, Option.bind_some, Option.bind_none, Nat.reduceAdd, Nat.reduceSub, Nat.reduceMul, Nat.reduceLeDiff, Nat.reduceLT, Nat.reduceBEq, Nat.reduceEqDiff, Nat.beq_refl, if_true, if_false, reduceIte, Bool.false_eq_true, Bool.not_true, Bool.not_false, Bool.not_not, decide_eq_true_eq, decide_true, decide_false, Bool.and_true, Bool.true_and, Bool.and_false, Bool.false_and, Bool.or_true, Bool.true_or, Bool.or_false, Bool.false_or, Bool.not_eq_true', decide_eq_false_iff_not, dLe_i, dLt_i, dGt_i, dGe_i, dAdd_i, dSub_i, gLen_t, gLen_l, gTup_2, gTup_3, gTup_1, gTup_0, gTup_4, isN_n, notN_n, isN_t, notN_t, items_t, items_l, sg_0, sg_1, sg_2, sg_tp, tk_tp, isN_s, notN_s, isN_k, notN_k, tk_0, tk_1, List.length_map, h, ix_tk hk, at_fold, at_self, m_step, m_lose, m_fail, m_rept, is_put_ok, dEq_i, j.l_rows, h1, f_nb]
        cases m <;> simp [hw]
    | some w =>
      obtain ⟨h1, h2, h3, _⟩ := wordAt_some hw
      simp -implicitDefEqProofs only [x_ixO, KIx, kIx2_l, x_setIx, KSx1, KSx2, kSx3_l, kSx4_s, x_bor, kBo_ok, x_borT, kBT_ok, sh_ow, sh_rf, sh_sh, sh_un, imm_i, imm_b, imm_s, pwFl_rt, pwFl_nx, x_callA, KCA, x_aNo, x_aPl, KPl, x_aKw, KKa, KKb, pa_pl, x_lc, unAt_0, unAt_s, b_ok, b_er, b_no, b_if, lift_s, lift_n, lift_if, unpv_val, unpv_new, unpv_err, unpv_if, pvFl_rt, pvFl_fr, pvFl_nx, pvFl_er, pvFl_if, unpw_val, x_var, rdV_sh, x_c, K1, x_f1, K2b, K2a, x_f2, x_nil, KCb, KCa, x_cons, KStb, KStar, x_star, ksta_s, KN, x_n, x_test, kTe_bl, KAn, x_and, KOr, x_or, KNo, x_not, KIe, x_if, x_andV, kAV_bl, x_orV, kOV_bl, x_notV, kNV_bl, x_sNil, x_seq, kSq_nx, kSq_rt, kSq_bk, kSq_ct, KRt, x_ret, KEx, x_exp, KIs, x_ifS, optR_s, KSe, x_set, KSO, x_setO, put, free_un, free_sh, free_ow, KSh, x_sh, KLs, x_lst, x_nm, x_gnil, x_gcons, x_gtp, x_gls, KAs, x_asg, KQ, x_q, x_iS, kiS_s, x_r1, x_for, KFo, KCl, x_call, x_shR, kSR_sh, kSR_fr, x_frR, kFR_fr, kCRb_s, KCR, x_callR, ob_ow, ob_rf, putOb, reob_ow, reob_rf, x_fld, KCh2, KCh1, x_chain, kCh3_b, KM2, x_m1, isStr_s, KNw, x_new, x_noP, x_p, kP_i, KCt2, KCt1, KCt0, x_cutT, kCt3_t, KPb, KPa, x_par2, x_rep, kRp_s, x_wo, KRs, x_raise, ok_and, ok_or, okb_and, okb_or, List.getElem?_cons_zero, List.getElem?_cons_succ, List.set_cons_zero, List.set_cons_succ, List.map_cons, List.map_nil, List.append_nil, List.nil_append, List.cons_append, List.length_cons, List.length_nil, List.replicate_succ, List.replicate_zero, Option.isSome_some, Option.isSome_none, Option.bind_some, Option.bind_none, Nat.reduceAdd, Nat.reduceSub, Nat.reduceMul, Nat.reduceLeDiff, Nat.reduceLT, Nat.reduceBEq, Nat.reduceEqDiff, Nat.beq_refl, if_true, if_false, reduceIte, Bool.false_eq_true, Bool.not_true, Bool.not_false, Bool.not_not, decide_eq_true_eq, decide_true, decide_false, Bool.and_true, Bool.true_and, Bool.and_false, Bool.false_and, Bool.or_true, Bool.true_or, Bool.or_false, Bool.false_or, Bool.not_eq_true', decide_eq_false_iff_not, dLe_i, dLt_i, dGt_i, dGe_i, dAdd_i, dSub_i, gLen_t, gLen_l, gTup_2, gTup_3, gTup_1, gTup_0, gTup_4, isN_n, notN_n, isN_t, notN_t, items_t, items_l, sg_0, sg_1, sg_2, sg_tp, tk_tp, isN_s, notN_s, isN_k, notN_k, tk_0, tk_1, List.length_map, h, ix_tk hk, at_fold, at_self, m_step, m_lose, m_fail, m_rept, is_put_ok, dEq_i, j.l_rows, h1, h2, h3, w_work, f_nb]
      cases m <;> simp [hw]
def isSeenT (j : Jb) (s : Sg) : Bool := match j.wt with
  | .waiting => s.ts.all fun t => decide (0 < t.p)
  | .present => s.ts.all fun t => t.e
  | .always => true
  | .nothing => decide (s.ts.length = 0)
  | .no => false
theorem seen_e1 {env : Ev} {ts : List Tk} (h3 : unAt env 3 = true) (h4 : unAt env 4 = true) (hl : ts.length ≤ 800) : KLc [3, 4] (gTp (gsCons (gNm 3) (gsCons (gNm 4) gsNil))) fYes f_is_seen_e1 env (ts.map Tk.d) = .ok env (ts.map fun t => .bl (decide (0 < t.p))) := by
  refine kLc2 (A := fun t : Tk => .int t.p) (B := fun t : Tk => .str (flS t.b t.e t.f t.k)) h3 h4 (by decide) (by omega) fun t _ => ?_
  unfold f_is_seen_e1
  simp -implicitDefEqProofs only [x_ixO, KIx, kIx2_l, x_setIx, KSx1, KSx2, kSx3_l, kSx4_s, x_bor, kBo_ok, x_borT, kBT_ok, sh_ow, sh_rf, sh_sh, sh_un, imm_i, imm_b, imm_s, pwFl_rt, pwFl_nx, x_callA, KCA, x_aNo, x_aPl, KPl, x_aKw, KKa, KKb, pa_pl, x_lc, unAt_0, unAt_s, b_ok, b_er, b_no, b_if, lift_s, lift_n, lift_if, unpv_val, unpv_new, unpv_err, unpv_if, pvFl_rt, pvFl_fr, pvFl_nx, pvFl_er, pvFl_if, unpw_val, x_var, rdV_sh, x_c, K1, x_f1, K2b, K2a, x_f2, x_nil, KCb, KCa, x_cons, KStb, KStar, x_star, ksta_s, KN, x_n, x_test, kTe_bl, KAn, x_and, KOr, x_or, KNo, x_not, KIe, x_if, x_andV, kAV_bl, x_orV, kOV_bl, x_notV, kNV_bl, x_sNil, x_seq, kSq_nx, kSq_rt, kSq_bk, kSq_ct, KRt, x_ret, KEx, x_exp, KIs, x_ifS, optR_s, KSe, x_set, KSO, x_setO, put, free_un, free_sh, free_ow, KSh, x_sh, KLs, x_lst, x_nm, x_gnil, x_gcons, x_gtp, x_gls, KAs, x_asg, KQ, x_q, x_iS, kiS_s, x_r1, x_for, KFo, KCl, x_call, x_shR, kSR_sh, kSR_fr, x_frR, kFR_fr, kCRb_s, KCR, x_callR, ob_ow, ob_rf, putOb, reob_ow, reob_rf, x_fld, KCh2, KCh1, x_chain, kCh3_b, KM2, x_m1, isStr_s, KNw, x_new, x_noP, x_p, kP_i, KCt2, KCt1, KCt0, x_cutT, kCt3_t, KPb, KPa, x_par2, x_rep, kRp_s, x_wo, KRs, x_raise, ok_and, ok_or, okb_and, okb_or, List.getElem?_cons_zero, List.getElem?_cons_succ, List.set_cons_zero, List.set_cons_succ, List.map_cons, List.map_nil, List.append_nil, List.nil_append, List.cons_append, List.length_cons, List.length_nil, List.replicate_succ, List.replicate_zero, Option.isSome_some, Option.isSome_none, Option.bind_some, Option.bind_none, Nat.reduceAdd, Nat.reduceSub, Nat.reduceMul, Nat.reduceLeDiff, Nat.reduceLT, Nat.reduceBEq, Nat.reduceEqDiff, Nat.beq_refl, if_true, if_false, reduceIte, Bool.false_eq_true, Bool.not_true, Bool.not_false, Bool.not_not, decide_eq_true_eq, decide_true, decide_false, Bool.and_true, Bool.true_and, Bool.and_false, Bool.false_and, Bool.or_true, Bool.true_or, Bool.or_false, Bool.false_or, Bool.not_eq_true', decide_eq_false_iff_not, dLe_i, dLt_i, dGt_i, dGe_i, dAdd_i, dSub_i, gLen_t, gLen_l, gTup_2, gTup_3, gTup_1, gTup_0, gTup_4, isN_n, notN_n, isN_t, notN_t, items_t, items_l, gt_set2 h3 (show (3 : Nat) ≠ 4 by decide)]
theorem seen_e2 {env : Ev} {ts : List Tk} (h3 : unAt env 3 = true) (h4 : unAt env 4 = true) (hl : ts.length ≤ 800) : KLc [3, 4] (gTp (gsCons (gNm 3) (gsCons (gNm 4) gsNil))) fYes f_is_seen_e2 env (ts.map Tk.d) = .ok env (ts.map fun t => .bl t.e) := by
  refine kLc2 (A := fun t : Tk => .int t.p) (B := fun t : Tk => .str (flS t.b t.e t.f t.k)) h3 h4 (by decide) (by omega) fun t _ => ?_
  unfold f_is_seen_e2
  simp -implicitDefEqProofs only [x_ixO, KIx, kIx2_l, x_setIx, KSx1, KSx2, kSx3_l, kSx4_s, x_bor, kBo_ok, x_borT, kBT_ok, sh_ow, sh_rf, sh_sh, sh_un, imm_i, imm_b, imm_s, pwFl_rt, pwFl_nx, x_callA, KCA, x_aNo, x_aPl, KPl, x_aKw, KKa, KKb, pa_pl, x_lc, unAt_0, unAt_s, b_ok, b_er, b_no, b_if, lift_s, lift_n, lift_if, unpv_val, unpv_new, unpv_err, unpv_if, pvFl_rt, pvFl_fr, pvFl_nx, pvFl_er, pvFl_if, unpw_val, x_var, rdV_sh, x_c, K1, x_f1, K2b, K2a, x_f2, x_nil, KCb, KCa, x_cons, KStb, KStar, x_star, ksta_s, KN, x_n, x_test, kTe_bl, KAn, x_and, KOr, x_or, KNo, x_not, KIe, x_if, x_andV, kAV_bl, x_orV, kOV_bl, x_notV, kNV_bl, x_sNil, x_seq, kSq_nx, kSq_rt, kSq_bk, kSq_ct, KRt, x_ret, KEx, x_exp, KIs, x_ifS, optR_s, KSe, x_set, KSO, x_setO, put, free_un, free_sh, free_ow, KSh, x_sh, KLs, x_lst, x_nm, x_gnil, x_gcons, x_gtp, x_gls, KAs, x_asg, KQ, x_q, x_iS, kiS_s, x_r1, x_for, KFo, KCl, x_call, x_shR, kSR_sh, kSR_fr, x_frR, kFR_fr, kCRb_s, KCR, x_callR, ob_ow, ob_rf, putOb, reob_ow, reob_rf, x_fld, KCh2, KCh1, x_chain, kCh3_b, KM2, x_m1, isStr_s, KNw, x_new, x_noP, x_p, kP_i, KCt2, KCt1, KCt0, x_cutT, kCt3_t, KPb, KPa, x_par2, x_rep, kRp_s, x_wo, KRs, x_raise, ok_and, ok_or, okb_and, okb_or, List.getElem?_cons_zero, List.getElem?_cons_succ, List.set_cons_zero, List.set_cons_succ, List.map_cons, List.map_nil, List.append_nil, List.nil_append, List.cons_append, List.length_cons, List.length_nil, List.replicate_succ, List.replicate_zero, Option.isSome_some, Option.isSome_none, Option.bind_some, Option.bind_none, Nat.reduceAdd, Nat.reduceSub, Nat.reduceMul, Nat.reduceLeDiff, Nat.reduceLT, Nat.reduceBEq, Nat.reduceEqDiff, Nat.beq_refl, if_true, if_false, reduceIte, Bool.false_eq_true, Bool.not_true, Bool.not_false, Bool.not_not, decide_eq_true_eq, decide_true, decide_false, Bool.and_true, Bool.true_and, Bool.and_false, Bool.false_and, Bool.or_true, Bool.true_or, Bool.or_false, Bool.false_or, Bool.not_eq_true', decide_eq_false_iff_not, dLe_i, dLt_i, dGt_i, dGe_i, dAdd_i, dSub_i, gLen_t, gLen_l, gTup_2, gTup_3, gTup_1, gTup_0, gTup_4, isN_n, notN_n, isN_t, notN_t, items_t, items_l, gt_set (unAt_set h4 (show (3 : Nat) ≠ 4 by decide)), f_e]
theorem is_seen_ok (j : Jb) (s : Sg) (hl : s.ts.length ≤ 700) : pv g_is_seen [j.d, s.d] = .val (.bl (isSeenT j s)) := by
  have he : s.ts.length ≤ 800 := by omega
  have hz : ((s.ts.length : Int) = 0) = (s.ts.length = 0) := by simp
  unfold g_is_seen isSeenT
  rw [pv_gOf]
  unfold f_is_seen
  simp -implicitDefEqProofs only [x_ixO, KIx, kIx2_l, x_setIx, KSx1, KSx2, kSx3_l, kSx4_s, x_bor, kBo_ok, x_borT, kBT_ok, sh_ow, sh_rf, sh_sh, sh_un, imm_i, imm_b, imm_s, pwFl_rt, pwFl_nx, x_callA, KCA, x_aNo, x_aPl, KPl, x_aKw, KKa, KKb, pa_pl, x_lc, unAt_0, unAt_s, b_ok, b_er, b_no, b_if, lift_s, lift_n, lift_if, unpv_val, unpv_new, unpv_err, unpv_if, pvFl_rt, pvFl_fr, pvFl_nx, pvFl_er, pvFl_if, unpw_val, x_var, rdV_sh, x_c, K1, x_f1, K2b, K2a, x_f2, x_nil, KCb, KCa, x_cons, KStb, KStar, x_star, ksta_s, KN, x_n, x_test, kTe_bl, KAn, x_and, KOr, x_or, KNo, x_not, KIe, x_if, x_andV, kAV_bl, x_orV, kOV_bl, x_notV, kNV_bl, x_sNil, x_seq, kSq_nx, kSq_rt, kSq_bk, kSq_ct, KRt, x_ret, KEx, x_exp, KIs, x_ifS, optR_s, KSe, x_set, KSO, x_setO, put, free_un, free_sh, free_ow, KSh, x_sh, KLs, x_lst, x_nm, x_gnil, x_gcons, x_gtp, x_gls, KAs, x_asg, KQ, x_q, x_iS, kiS_s, x_r1, x_for, KFo, KCl, x_call, x_shR, kSR_sh, kSR_fr, x_frR, kFR_fr, kCRb_s, KCR, x_callR, ob_ow, ob_rf, putOb, reob_ow, reob_rf, x_fld, KCh2, KCh1, x_chain, kCh3_b, KM2, x_m1, isStr_s, KNw, x_new, x_noP, x_p, kP_i, KCt2, KCt1, KCt0, x_cutT, kCt3_t, KPb, KPa, x_par2, x_rep, kRp_s, x_wo, KRs, x_raise, ok_and, ok_or, okb_and, okb_or, List.getElem?_cons_zero, List.getElem?_cons_succ, List.set_cons_zero, List.set_cons_succ, List.map_cons, List.map_nil, List.append_nil, List.nil_append, List.cons_append, List.length_cons, List.length_nil, List.replicate_succ, List.replicate_zero, Option.isSome_some, Option.isSome_none, Option.bind_some, Option.bind_none, Nat.reduceAdd, Nat.reduceSub, Nat.reduceMul, Nat.reduceLeDiff, Nat.reduceLT, Nat.reduceBEq, Nat.reduceEqDiff, Nat.beq_refl, if_true, if_false, reduceIte, Bool.false_eq_true, Bool.not_true, Bool.not_false, Bool.not_not, decide_eq_true_eq, decide_true, decide_false, Bool.and_true, Bool.true_and, Bool.and_false, Bool.false_and, Bool.or_true, Bool.true_or, Bool.or_false, Bool.false_or, Bool.not_eq_true', decide_eq_false_iff_not, dLe_i, dLt_i, dGt_i, dGe_i, dAdd_i, dSub_i, gLen_t, gLen_l, gTup_2, gTup_3, gTup_1, gTup_0, gTup_4, isN_n, notN_n, isN_t, notN_t, items_t, items_l, sg_0, sg_1, sg_2, sg_tp, tk_tp, isN_s, notN_s, isN_k, notN_k, tk_0, tk_1, j.l_watch, t_waiting, t_present, t_always, t_nothing, seen_e1, seen_e2, he, all_map, List.length_map, dEq_i, hz]
  cases j.wt <;> simp
theorem osg_notN (o : Option Sg) : dNotN (osg o) .non = some (.bl o.isSome) := by cases o <;> rfl
theorem osg_isN (o : Option Sg) : dIsN (osg o) .non = some (.bl o.isNone) := by cases o <;> rfl
def canBeginT (j : Jb) (s : Sg) (room : Int) : Bool := decide ((s.ts.length : Int) < room) && (startedT j s).isSome
theorem can_begin_ok (j : Jb) (s : Sg) (room : Int) (hl : s.ts.length ≤ 700) : pv g_can_begin [j.d, s.d, .int room] = .val (.bl (canBeginT j s room)) := by
  unfold g_can_begin canBeginT
  rw [pv_gOf]
  unfold f_can_begin
  simp -implicitDefEqProofs only [x_ixO, KIx, kIx2_l, x_setIx, KSx1, KSx2, kSx3_l, kSx4_s, x_bor, kBo_ok, x_borT, kBT_ok, sh_ow, sh_rf, sh_sh, sh_un, imm_i, imm_b, imm_s, pwFl_rt, pwFl_nx, x_callA, KCA, x_aNo, x_aPl, KPl, x_aKw, KKa, KKb, pa_pl, x_lc, unAt_0, unAt_s, b_ok, b_er, b_no, b_if, lift_s, lift_n, lift_if, unpv_val, unpv_new, unpv_err, unpv_if, pvFl_rt, pvFl_fr, pvFl_nx, pvFl_er, pvFl_if, unpw_val, x_var, rdV_sh, x_c, K1, x_f1, K2b, K2a, x_f2, x_nil, KCb, KCa, x_cons, KStb, KStar, x_star, ksta_s, KN, x_n, x_test, kTe_bl, KAn, x_and, KOr, x_or, KNo, x_not, KIe, x_if, x_andV, kAV_bl, x_orV, kOV_bl, x_notV, kNV_bl, x_sNil, x_seq, kSq_nx, kSq_rt, kSq_bk, kSq_ct, KRt, x_ret, KEx, x_exp, KIs, x_ifS, optR_s, KSe, x_set, KSO, x_setO, put, free_un, free_sh, free_ow, KSh, x_sh, KLs, x_lst, x_nm, x_gnil, x_gcons, x_gtp, x_gls, KAs, x_asg, KQ, x_q, x_iS, kiS_s, x_r1, x_for, KFo, KCl, x_call, x_shR, kSR_sh, kSR_fr, x_frR, kFR_fr, kCRb_s, KCR, x_callR, ob_ow, ob_rf, putOb, reob_ow, reob_rf, x_fld, KCh2, KCh1, x_chain, kCh3_b, KM2, x_m1, isStr_s, KNw, x_new, x_noP, x_p, kP_i, KCt2, KCt1, KCt0, x_cutT, kCt3_t, KPb, KPa, x_par2, x_rep, kRp_s, x_wo, KRs, x_raise, ok_and, ok_or, okb_and, okb_or, List.getElem?_cons_zero, List.getElem?_cons_succ, List.set_cons_zero, List.set_cons_succ, List.map_cons, List.map_nil, List.append_nil, List.nil_append, List.cons_append, List.length_cons, List.length_nil, List.replicate_succ, List.replicate_zero, Option.isSome_some, Option.isSome_none, Option.bind_some, Option.bind_none, Nat.reduceAdd, Nat.reduceSub, Nat.reduceMul, Nat.reduceLeDiff, Nat.reduceLT, Nat.reduceBEq, Nat.reduceEqDiff, Nat.beq_refl, if_true, if_false, reduceIte, Bool.false_eq_true, Bool.not_true, Bool.not_false, Bool.not_not, decide_eq_true_eq, decide_true, decide_false, Bool.and_true, Bool.true_and, Bool.and_false, Bool.false_and, Bool.or_true, Bool.true_or, Bool.or_false, Bool.false_or, Bool.not_eq_true', decide_eq_false_iff_not, dLe_i, dLt_i, dGt_i, dGe_i, dAdd_i, dSub_i, gLen_t, gLen_l, gTup_2, gTup_3, gTup_1, gTup_0, gTup_4, isN_n, notN_n, isN_t, notN_t, items_t, items_l, sg_0, sg_1, sg_2, sg_tp, tk_tp, isN_s, notN_s, isN_k, notN_k, tk_0, tk_1, List.length_map, started_ok j s hl, osg_notN]
inductive Mn where
  | lapse | watch | start | off | on
  deriving DecidableEq
def Mn.s : Mn → Str
  | .lapse => "lapse" | .watch => "watch" | .start => "start" | .off => "off" | .on => "on"
section
variable (m : Mn)
theorem n_lapse : dEq (.str m.s) (.str "lapse") = some (.bl (decide (m = .lapse))) := by cases m <;> kernel_rfl
theorem n_watch : dEq (.str m.s) (.str "watch") = some (.bl (decide (m = .watch))) := by cases m <;> kernel_rfl
theorem n_off : dEq (.str m.s) (.str "off") = some (.bl (decide (m = .off))) := by cases m <;> kernel_rfl
theorem n_on : dEq (.str m.s) (.str "on") = some (.bl (decide (m = .on))) := by cases m <;> kernel_rfl
theorem n_in : dIn (.str m.s) (.tup c_PLACED) = some (.bl false) := by cases m <;> kernel_rfl
end
def canLapseT (j : Jb) (ky : Ky) : Bool := match j.la with
  | .any => !decide (ky = .free)
  | .lost => decide (ky = .lost)
  | .no => false
def canNT (j : Jb) (s : Sg) (m : Mn) (room : Int) : Bool := match m with
  | .lapse => canLapseT j s.ky
  | .off => s.sw
  | .on => !s.sw && (decide ((s.ts.length : Int) < room) || (startedT j s).isNone)
  | .watch => isSeenT j s && (s.sw && canBeginT j s room)
  | .start => s.sw && canBeginT j s room
theorem can_moveP_ok (j : Jb) (s : Sg) (m : Mp) (k : Nat) (room : Int) : pv g_can_move [j.d, s.d, .tup [.str m.s, .int k], .int room] = .val (.bl (canActT j s m k room)) := by
  unfold g_can_move
  rw [pv_gOf]
  unfold f_can_move
  simp -implicitDefEqProofs only [x_ixO, KIx, kIx2_l, x_setIx, KSx1, KSx2, kSx3_l, kSx4_s, x_bor, kBo_ok, x_borT, kBT_ok, sh_ow, sh_rf, sh_sh, sh_un, imm_i, imm_b, imm_s, pwFl_rt, pwFl_nx, x_callA, KCA, x_aNo, x_aPl, KPl, x_aKw, KKa, KKb, pa_pl, x_lc, unAt_0, unAt_s, b_ok, b_er, b_no, b_if, lift_s, lift_n, lift_if, unpv_val, unpv_new, unpv_err, unpv_if, pvFl_rt, pvFl_fr, pvFl_nx, pvFl_er, pvFl_if, unpw_val, x_var, rdV_sh, x_c, K1, x_f1, K2b, K2a, x_f2, x_nil, KCb, KCa, x_cons, KStb, KStar, x_star, ksta_s, KN, x_n, x_test, kTe_bl, KAn, x_and, KOr, x_or, KNo, x_not, KIe, x_if, x_andV, kAV_bl, x_orV, kOV_bl, x_notV, kNV_bl, x_sNil, x_seq, kSq_nx, kSq_rt, kSq_bk, kSq_ct, KRt, x_ret, KEx, x_exp, KIs, x_ifS, optR_s, KSe, x_set, KSO, x_setO, put, free_un, free_sh, free_ow, KSh, x_sh, KLs, x_lst, x_nm, x_gnil, x_gcons, x_gtp, x_gls, KAs, x_asg, KQ, x_q, x_iS, kiS_s, x_r1, x_for, KFo, KCl, x_call, x_shR, kSR_sh, kSR_fr, x_frR, kFR_fr, kCRb_s, KCR, x_callR, ob_ow, ob_rf, putOb, reob_ow, reob_rf, x_fld, KCh2, KCh1, x_chain, kCh3_b, KM2, x_m1, isStr_s, KNw, x_new, x_noP, x_p, kP_i, KCt2, KCt1, KCt0, x_cutT, kCt3_t, KPb, KPa, x_par2, x_rep, kRp_s, x_wo, KRs, x_raise, ok_and, ok_or, okb_and, okb_or, List.getElem?_cons_zero, List.getElem?_cons_succ, List.set_cons_zero, List.set_cons_succ, List.map_cons, List.map_nil, List.append_nil, List.nil_append, List.cons_append, List.length_cons, List.length_nil, List.replicate_succ, List.replicate_zero, Option.isSome_some, Option.isSome_none, Option.bind_some, Option.bind_none, Nat.reduceAdd, Nat.reduceSub, Nat.reduceMul, Nat.reduceLeDiff, Nat.reduceLT, Nat.reduceBEq, Nat.reduceEqDiff, Nat.beq_refl, if_true, if_false, reduceIte, Bool.false_eq_true, Bool.not_true, Bool.not_false, Bool.not_not, decide_eq_true_eq, decide_true, decide_false, Bool.and_true, Bool.true_and, Bool.and_false, Bool.false_and, Bool.or_true, Bool.true_or, Bool.or_false, Bool.false_or, Bool.not_eq_true', decide_eq_false_iff_not, dLe_i, dLt_i, dGt_i, dGe_i, dAdd_i, dSub_i, gLen_t, gLen_l, gTup_2, gTup_3, gTup_1, gTup_0, gTup_4, isN_n, notN_n, isN_t, notN_t, items_t, items_l, ix_t0, m_in, can_act_ok]
theorem can_moveN_ok (j : Jb) (s : Sg) (m : Mn) (room : Int) (hl : s.ts.length ≤ 700) : pv g_can_move [j.d, s.d, .tup [.str m.s], .int room] = .val (.bl (canNT j s m room)) := by
  unfold g_can_move
  rw [pv_gOf]
  unfold f_can_move
  simp -implicitDefEqProofs only [x_ixO, KIx, kIx2_l, x_setIx, KSx1, KSx2, kSx3_l, kSx4_s, x_bor, kBo_ok, x_borT, kBT_ok, sh_ow, sh_rf, sh_sh, sh_un, imm_i, imm_b, imm_s, pwFl_rt, pwFl_nx, x_callA, KCA, x_aNo, x_aPl, KPl, x_aKw, KKa, KKb, pa_pl, x_lc, unAt_0, unAt_s, b_ok, b_er, b_no, b_if, lift_s, lift_n, lift_if, unpv_val, unpv_new, unpv_err, unpv_if, pvFl_rt, pvFl_fr, pvFl_nx, pvFl_er, pvFl_if, unpw_val, x_var, rdV_sh, x_c, K1, x_f1, K2b, K2a, x_f2, x_nil, KCb, KCa, x_cons, KStb, KStar, x_star, ksta_s, KN, x_n, x_test, kTe_bl, KAn, x_and, KOr, x_or, KNo, x_not, KIe, x_if, x_andV, kAV_bl, x_orV, kOV_bl, x_notV, kNV_bl, x_sNil, x_seq, kSq_nx, kSq_rt, kSq_bk, kSq_ct, KRt, x_ret, KEx, x_exp, KIs, x_ifS, optR_s, KSe, x_set, KSO, x_setO, put, free_un, free_sh, free_ow, KSh, x_sh, KLs, x_lst, x_nm, x_gnil, x_gcons, x_gtp, x_gls, KAs, x_asg, KQ, x_q, x_iS, kiS_s, x_r1, x_for, KFo, KCl, x_call, x_shR, kSR_sh, kSR_fr, x_frR, kFR_fr, kCRb_s, KCR, x_callR, ob_ow, ob_rf, putOb, reob_ow, reob_rf, x_fld, KCh2, KCh1, x_chain, kCh3_b, KM2, x_m1, isStr_s, KNw, x_new, x_noP, x_p, kP_i, KCt2, KCt1, KCt0, x_cutT, kCt3_t, KPb, KPa, x_par2, x_rep, kRp_s, x_wo, KRs, x_raise, ok_and, ok_or, okb_and, okb_or, List.getElem?_cons_zero, List.getElem?_cons_succ, List.set_cons_zero, List.set_cons_succ, List.map_cons, List.map_nil, List.append_nil, List.nil_append, List.cons_append, List.length_cons, List.length_nil, List.replicate_succ, List.replicate_zero, Option.isSome_some, Option.isSome_none, Option.bind_some, Option.bind_none, Nat.reduceAdd, Nat.reduceSub, Nat.reduceMul, Nat.reduceLeDiff, Nat.reduceLT, Nat.reduceBEq, Nat.reduceEqDiff, Nat.beq_refl, if_true, if_false, reduceIte, Bool.false_eq_true, Bool.not_true, Bool.not_false, Bool.not_not, decide_eq_true_eq, decide_true, decide_false, Bool.and_true, Bool.true_and, Bool.and_false, Bool.false_and, Bool.or_true, Bool.true_or, Bool.or_false, Bool.false_or, Bool.not_eq_true', decide_eq_false_iff_not, dLe_i, dLt_i, dGt_i, dGe_i, dAdd_i, dSub_i, gLen_t, gLen_l, gTup_2, gTup_3, gTup_1, gTup_0, gTup_4, isN_n, notN_n, isN_t, notN_t, items_t, items_l, sg_0, sg_1, sg_2, sg_tp, tk_tp, isN_s, notN_s, isN_k, notN_k, tk_0, tk_1, ix_t0, n_in, n_lapse, n_watch, n_off, n_on, j.l_lapse, l_any, l_lost, k_nfree, k_lost, s_on, s_off, List.length_map, started_ok j s hl, osg_isN, is_seen_ok j s hl, can_begin_ok j s room hl]
  cases m
  · cases h : j.la <;> simp [canNT, canLapseT, h]
  · cases h : isSeenT j s <;> simp [canNT, h]
  · simp [canNT]
  · simp [canNT]
  · simp [canNT]
end LP

end

section
set_option Elab.async false
set_option linter.all false
set_option maxRecDepth 100000
set_option maxHeartbeats 2000000
/-! TF: moved, after, and the laws' word for it. -/
namespace LP
open PySem L2 DL LW
theorem neg_1 : dNeg (.int 1) = some (.int (-1)) := rfl
abbrev tDone : List (Str × GA) := [("stepped", gPl 3 [] g_stepped), ("killed", gPl 3 [] g_killed), ("failed", gPl 3 [] g_failed), ("repeated", gPl 3 [] g_repeated), ("missed", gPl 3 [] g_missed), ("lapsed", gPl 3 [] g_lapsed), ("begun", gPl 3 [] g_begun), ("turned_off", gPl 3 [] g_turned_off), ("turned_on", gPl 3 [] g_turned_on)]
theorem td_stepped : List.lookup ("stepped" : Str) tDone = some (gPl 3 [] g_stepped) := by rfl
theorem td_killed : List.lookup ("killed" : Str) tDone = some (gPl 3 [] g_killed) := by rfl
theorem td_failed : List.lookup ("failed" : Str) tDone = some (gPl 3 [] g_failed) := by rfl
theorem td_repeated : List.lookup ("repeated" : Str) tDone = some (gPl 3 [] g_repeated) := by rfl
theorem td_missed : List.lookup ("missed" : Str) tDone = some (gPl 3 [] g_missed) := by rfl
theorem td_lapsed : List.lookup ("lapsed" : Str) tDone = some (gPl 3 [] g_lapsed) := by rfl
theorem td_begun : List.lookup ("begun" : Str) tDone = some (gPl 3 [] g_begun) := by rfl
theorem td_turned_off : List.lookup ("turned_off" : Str) tDone = some (gPl 3 [] g_turned_off) := by rfl
theorem td_turned_on : List.lookup ("turned_on" : Str) tDone = some (gPl 3 [] g_turned_on) := by rfl
theorem dn_step : gIxG "DONE" t_DONE (.glo "DONE") (.str "step") = some (.glo "stepped") := by rfl
theorem dn_kill : gIxG "DONE" t_DONE (.glo "DONE") (.str "kill") = some (.glo "killed") := by rfl
theorem dn_fail : gIxG "DONE" t_DONE (.glo "DONE") (.str "fail") = some (.glo "failed") := by rfl
theorem dn_repeat : gIxG "DONE" t_DONE (.glo "DONE") (.str "repeat") = some (.glo "repeated") := by rfl
theorem dn_lose : gIxG "DONE" t_DONE (.glo "DONE") (.str "lose") = some (.glo "missed") := by rfl
theorem dn_lapse : gIxG "DONE" t_DONE (.glo "DONE") (.str "lapse") = some (.glo "lapsed") := by rfl
theorem dn_watch : gIxG "DONE" t_DONE (.glo "DONE") (.str "watch") = some (.glo "begun") := by rfl
theorem dn_start : gIxG "DONE" t_DONE (.glo "DONE") (.str "start") = some (.glo "begun") := by rfl
theorem dn_off : gIxG "DONE" t_DONE (.glo "DONE") (.str "off") = some (.glo "turned_off") := by rfl
theorem dn_on : gIxG "DONE" t_DONE (.glo "DONE") (.str "on") = some (.glo "turned_on") := by rfl
theorem moved_step {J S d : D} {k : Int} (hd : pv g_stepped [J, S, .int k] = .val d) : pv g_moved [J, S, .tup [.str "step", .int k]] = .val d := by
  unfold g_moved
  rw [pv_gOf]
  unfold f_moved
  have h : (1 : Int) < ((2 : Nat) : Int) := by decide
  simp -implicitDefEqProofs only [x_ixO, KIx, kIx2_l, x_setIx, KSx1, KSx2, kSx3_l, kSx4_s, x_bor, kBo_ok, x_borT, kBT_ok, sh_ow, sh_rf, sh_sh, sh_un, imm_i, imm_b, imm_s, pwFl_rt, pwFl_nx, x_callA, KCA, x_aNo, x_aPl, KPl, x_aKw, KKa, KKb, pa_pl, x_lc, unAt_0, unAt_s, b_ok, b_er, b_no, b_if, lift_s, lift_n, lift_if, unpv_val, unpv_new, unpv_err, unpv_if, pvFl_rt, pvFl_fr, pvFl_nx, pvFl_er, pvFl_if, unpw_val, x_var, rdV_sh, x_c, K1, x_f1, K2b, K2a, x_f2, x_nil, KCb, KCa, x_cons, KStb, KStar, x_star, ksta_s, KN, x_n, x_test, kTe_bl, KAn, x_and, KOr, x_or, KNo, x_not, KIe, x_if, x_andV, kAV_bl, x_orV, kOV_bl, x_notV, kNV_bl, x_sNil, x_seq, kSq_nx, kSq_rt, kSq_bk, kSq_ct, KRt, x_ret, KEx, x_exp, KIs, x_ifS, optR_s, KSe, x_set, KSO, x_setO, put, free_un, free_sh, free_ow, KSh, x_sh, KLs, x_lst, x_nm, x_gnil, x_gcons, x_gtp, x_gls, KAs, x_asg, KQ, x_q, x_iS, kiS_s, x_r1, x_for, KFo, KCl, x_call, x_shR, kSR_sh, kSR_fr, x_frR, kFR_fr, kCRb_s, KCR, x_callR, ob_ow, ob_rf, putOb, reob_ow, reob_rf, x_fld, KCh2, KCh1, x_chain, kCh3_b, KM2, x_m1, isStr_s, KNw, x_new, x_noP, x_p, kP_i, KCt2, KCt1, KCt0, x_cutT, kCt3_t, KPb, KPa, x_par2, x_rep, kRp_s, x_wo, KRs, x_raise, ok_and, ok_or, okb_and, okb_or, List.getElem?_cons_zero, List.getElem?_cons_succ, List.set_cons_zero, List.set_cons_succ, List.map_cons, List.map_nil, List.append_nil, List.nil_append, List.cons_append, List.length_cons, List.length_nil, List.replicate_succ, List.replicate_zero, Option.isSome_some, Option.isSome_none, Option.bind_some, Option.bind_none, Nat.reduceAdd, Nat.reduceSub, Nat.reduceMul, Nat.reduceLeDiff, Nat.reduceLT, Nat.reduceBEq, Nat.reduceEqDiff, Nat.beq_refl, if_true, if_false, reduceIte, Bool.false_eq_true, Bool.not_true, Bool.not_false, Bool.not_not, decide_eq_true_eq, decide_true, decide_false, Bool.and_true, Bool.true_and, Bool.and_false, Bool.false_and, Bool.or_true, Bool.true_or, Bool.or_false, Bool.false_or, Bool.not_eq_true', decide_eq_false_iff_not, dLe_i, dLt_i, dGt_i, dGe_i, dAdd_i, dSub_i, gLen_t, gLen_l, gTup_2, gTup_3, gTup_1, gTup_0, gTup_4, isN_n, notN_n, isN_t, notN_t, items_t, items_l, ix_t0, ix_t1, dn_step, x_callL, kL1_g, td_stepped, kL2_s, h, hd]
theorem moved_kill {J S d : D} {k : Int} (hd : pv g_killed [J, S, .int k] = .val d) : pv g_moved [J, S, .tup [.str "kill", .int k]] = .val d := by
  unfold g_moved
  rw [pv_gOf]
  unfold f_moved
  have h : (1 : Int) < ((2 : Nat) : Int) := by decide
  simp -implicitDefEqProofs only [x_ixO, KIx, kIx2_l, x_setIx, KSx1, KSx2, kSx3_l, kSx4_s, x_bor, kBo_ok, x_borT, kBT_ok, sh_ow, sh_rf, sh_sh, sh_un, imm_i, imm_b, imm_s, pwFl_rt, pwFl_nx, x_callA, KCA, x_aNo, x_aPl, KPl, x_aKw, KKa, KKb, pa_pl, x_lc, unAt_0, unAt_s, b_ok, b_er, b_no, b_if, lift_s, lift_n, lift_if, unpv_val, unpv_new, unpv_err, unpv_if, pvFl_rt, pvFl_fr, pvFl_nx, pvFl_er, pvFl_if, unpw_val, x_var, rdV_sh, x_c, K1, x_f1, K2b, K2a, x_f2, x_nil, KCb, KCa, x_cons, KStb, KStar, x_star, ksta_s, KN, x_n, x_test, kTe_bl, KAn, x_and, KOr, x_or, KNo, x_not, KIe, x_if, x_andV, kAV_bl, x_orV, kOV_bl, x_notV, kNV_bl, x_sNil, x_seq, kSq_nx, kSq_rt, kSq_bk, kSq_ct, KRt, x_ret, KEx, x_exp, KIs, x_ifS, optR_s, KSe, x_set, KSO, x_setO, put, free_un, free_sh, free_ow, KSh, x_sh, KLs, x_lst, x_nm, x_gnil, x_gcons, x_gtp, x_gls, KAs, x_asg, KQ, x_q, x_iS, kiS_s, x_r1, x_for, KFo, KCl, x_call, x_shR, kSR_sh, kSR_fr, x_frR, kFR_fr, kCRb_s, KCR, x_callR, ob_ow, ob_rf, putOb, reob_ow, reob_rf, x_fld, KCh2, KCh1, x_chain, kCh3_b, KM2, x_m1, isStr_s, KNw, x_new, x_noP, x_p, kP_i, KCt2, KCt1, KCt0, x_cutT, kCt3_t, KPb, KPa, x_par2, x_rep, kRp_s, x_wo, KRs, x_raise, ok_and, ok_or, okb_and, okb_or, List.getElem?_cons_zero, List.getElem?_cons_succ, List.set_cons_zero, List.set_cons_succ, List.map_cons, List.map_nil, List.append_nil, List.nil_append, List.cons_append, List.length_cons, List.length_nil, List.replicate_succ, List.replicate_zero, Option.isSome_some, Option.isSome_none, Option.bind_some, Option.bind_none, Nat.reduceAdd, Nat.reduceSub, Nat.reduceMul, Nat.reduceLeDiff, Nat.reduceLT, Nat.reduceBEq, Nat.reduceEqDiff, Nat.beq_refl, if_true, if_false, reduceIte, Bool.false_eq_true, Bool.not_true, Bool.not_false, Bool.not_not, decide_eq_true_eq, decide_true, decide_false, Bool.and_true, Bool.true_and, Bool.and_false, Bool.false_and, Bool.or_true, Bool.true_or, Bool.or_false, Bool.false_or, Bool.not_eq_true', decide_eq_false_iff_not, dLe_i, dLt_i, dGt_i, dGe_i, dAdd_i, dSub_i, gLen_t, gLen_l, gTup_2, gTup_3, gTup_1, gTup_0, gTup_4, isN_n, notN_n, isN_t, notN_t, items_t, items_l, ix_t0, ix_t1, dn_kill, x_callL, kL1_g, td_killed, kL2_s, h, hd]
theorem moved_fail {J S d : D} {k : Int} (hd : pv g_failed [J, S, .int k] = .val d) : pv g_moved [J, S, .tup [.str "fail", .int k]] = .val d := by
  unfold g_moved
  rw [pv_gOf]
  unfold f_moved
  have h : (1 : Int) < ((2 : Nat) : Int) := by decide
  simp -implicitDefEqProofs only [x_ixO, KIx, kIx2_l, x_setIx, KSx1, KSx2, kSx3_l, kSx4_s, x_bor, kBo_ok, x_borT, kBT_ok, sh_ow, sh_rf, sh_sh, sh_un, imm_i, imm_b, imm_s, pwFl_rt, pwFl_nx, x_callA, KCA, x_aNo, x_aPl, KPl, x_aKw, KKa, KKb, pa_pl, x_lc, unAt_0, unAt_s, b_ok, b_er, b_no, b_if, lift_s, lift_n, lift_if, unpv_val, unpv_new, unpv_err, unpv_if, pvFl_rt, pvFl_fr, pvFl_nx, pvFl_er, pvFl_if, unpw_val, x_var, rdV_sh, x_c, K1, x_f1, K2b, K2a, x_f2, x_nil, KCb, KCa, x_cons, KStb, KStar, x_star, ksta_s, KN, x_n, x_test, kTe_bl, KAn, x_and, KOr, x_or, KNo, x_not, KIe, x_if, x_andV, kAV_bl, x_orV, kOV_bl, x_notV, kNV_bl, x_sNil, x_seq, kSq_nx, kSq_rt, kSq_bk, kSq_ct, KRt, x_ret, KEx, x_exp, KIs, x_ifS, optR_s, KSe, x_set, KSO, x_setO, put, free_un, free_sh, free_ow, KSh, x_sh, KLs, x_lst, x_nm, x_gnil, x_gcons, x_gtp, x_gls, KAs, x_asg, KQ, x_q, x_iS, kiS_s, x_r1, x_for, KFo, KCl, x_call, x_shR, kSR_sh, kSR_fr, x_frR, kFR_fr, kCRb_s, KCR, x_callR, ob_ow, ob_rf, putOb, reob_ow, reob_rf, x_fld, KCh2, KCh1, x_chain, kCh3_b, KM2, x_m1, isStr_s, KNw, x_new, x_noP, x_p, kP_i, KCt2, KCt1, KCt0, x_cutT, kCt3_t, KPb, KPa, x_par2, x_rep, kRp_s, x_wo, KRs, x_raise, ok_and, ok_or, okb_and, okb_or, List.getElem?_cons_zero, List.getElem?_cons_succ, List.set_cons_zero, List.set_cons_succ, List.map_cons, List.map_nil, List.append_nil, List.nil_append, List.cons_append, List.length_cons, List.length_nil, List.replicate_succ, List.replicate_zero, Option.isSome_some, Option.isSome_none, Option.bind_some, Option.bind_none, Nat.reduceAdd, Nat.reduceSub, Nat.reduceMul, Nat.reduceLeDiff, Nat.reduceLT, Nat.reduceBEq, Nat.reduceEqDiff, Nat.beq_refl, if_true, if_false, reduceIte, Bool.false_eq_true, Bool.not_true, Bool.not_false, Bool.not_not, decide_eq_true_eq, decide_true, decide_false, Bool.and_true, Bool.true_and, Bool.and_false, Bool.false_and, Bool.or_true, Bool.true_or, Bool.or_false, Bool.false_or, Bool.not_eq_true', decide_eq_false_iff_not, dLe_i, dLt_i, dGt_i, dGe_i, dAdd_i, dSub_i, gLen_t, gLen_l, gTup_2, gTup_3, gTup_1, gTup_0, gTup_4, isN_n, notN_n, isN_t, notN_t, items_t, items_l, ix_t0, ix_t1, dn_fail, x_callL, kL1_g, td_failed, kL2_s, h, hd]
theorem moved_repeat {J S d : D} {k : Int} (hd : pv g_repeated [J, S, .int k] = .val d) : pv g_moved [J, S, .tup [.str "repeat", .int k]] = .val d := by
  unfold g_moved
  rw [pv_gOf]
  unfold f_moved
  have h : (1 : Int) < ((2 : Nat) : Int) := by decide
  simp -implicitDefEqProofs only [x_ixO, KIx, kIx2_l, x_setIx, KSx1, KSx2, kSx3_l, kSx4_s, x_bor, kBo_ok, x_borT, kBT_ok, sh_ow, sh_rf, sh_sh, sh_un, imm_i, imm_b, imm_s, pwFl_rt, pwFl_nx, x_callA, KCA, x_aNo, x_aPl, KPl, x_aKw, KKa, KKb, pa_pl, x_lc, unAt_0, unAt_s, b_ok, b_er, b_no, b_if, lift_s, lift_n, lift_if, unpv_val, unpv_new, unpv_err, unpv_if, pvFl_rt, pvFl_fr, pvFl_nx, pvFl_er, pvFl_if, unpw_val, x_var, rdV_sh, x_c, K1, x_f1, K2b, K2a, x_f2, x_nil, KCb, KCa, x_cons, KStb, KStar, x_star, ksta_s, KN, x_n, x_test, kTe_bl, KAn, x_and, KOr, x_or, KNo, x_not, KIe, x_if, x_andV, kAV_bl, x_orV, kOV_bl, x_notV, kNV_bl, x_sNil, x_seq, kSq_nx, kSq_rt, kSq_bk, kSq_ct, KRt, x_ret, KEx, x_exp, KIs, x_ifS, optR_s, KSe, x_set, KSO, x_setO, put, free_un, free_sh, free_ow, KSh, x_sh, KLs, x_lst, x_nm, x_gnil, x_gcons, x_gtp, x_gls, KAs, x_asg, KQ, x_q, x_iS, kiS_s, x_r1, x_for, KFo, KCl, x_call, x_shR, kSR_sh, kSR_fr, x_frR, kFR_fr, kCRb_s, KCR, x_callR, ob_ow, ob_rf, putOb, reob_ow, reob_rf, x_fld, KCh2, KCh1, x_chain, kCh3_b, KM2, x_m1, isStr_s, KNw, x_new, x_noP, x_p, kP_i, KCt2, KCt1, KCt0, x_cutT, kCt3_t, KPb, KPa, x_par2, x_rep, kRp_s, x_wo, KRs, x_raise, ok_and, ok_or, okb_and, okb_or, List.getElem?_cons_zero, List.getElem?_cons_succ, List.set_cons_zero, List.set_cons_succ, List.map_cons, List.map_nil, List.append_nil, List.nil_append, List.cons_append, List.length_cons, List.length_nil, List.replicate_succ, List.replicate_zero, Option.isSome_some, Option.isSome_none, Option.bind_some, Option.bind_none, Nat.reduceAdd, Nat.reduceSub, Nat.reduceMul, Nat.reduceLeDiff, Nat.reduceLT, Nat.reduceBEq, Nat.reduceEqDiff, Nat.beq_refl, if_true, if_false, reduceIte, Bool.false_eq_true, Bool.not_true, Bool.not_false, Bool.not_not, decide_eq_true_eq, decide_true, decide_false, Bool.and_true, Bool.true_and, Bool.and_false, Bool.false_and, Bool.or_true, Bool.true_or, Bool.or_false, Bool.false_or, Bool.not_eq_true', decide_eq_false_iff_not, dLe_i, dLt_i, dGt_i, dGe_i, dAdd_i, dSub_i, gLen_t, gLen_l, gTup_2, gTup_3, gTup_1, gTup_0, gTup_4, isN_n, notN_n, isN_t, notN_t, items_t, items_l, ix_t0, ix_t1, dn_repeat, x_callL, kL1_g, td_repeated, kL2_s, h, hd]
theorem moved_lose {J S d : D} {k : Int} (hd : pv g_missed [J, S, .int k] = .val d) : pv g_moved [J, S, .tup [.str "lose", .int k]] = .val d := by
  unfold g_moved
  rw [pv_gOf]
  unfold f_moved
  have h : (1 : Int) < ((2 : Nat) : Int) := by decide
  simp -implicitDefEqProofs only [x_ixO, KIx, kIx2_l, x_setIx, KSx1, KSx2, kSx3_l, kSx4_s, x_bor, kBo_ok, x_borT, kBT_ok, sh_ow, sh_rf, sh_sh, sh_un, imm_i, imm_b, imm_s, pwFl_rt, pwFl_nx, x_callA, KCA, x_aNo, x_aPl, KPl, x_aKw, KKa, KKb, pa_pl, x_lc, unAt_0, unAt_s, b_ok, b_er, b_no, b_if, lift_s, lift_n, lift_if, unpv_val, unpv_new, unpv_err, unpv_if, pvFl_rt, pvFl_fr, pvFl_nx, pvFl_er, pvFl_if, unpw_val, x_var, rdV_sh, x_c, K1, x_f1, K2b, K2a, x_f2, x_nil, KCb, KCa, x_cons, KStb, KStar, x_star, ksta_s, KN, x_n, x_test, kTe_bl, KAn, x_and, KOr, x_or, KNo, x_not, KIe, x_if, x_andV, kAV_bl, x_orV, kOV_bl, x_notV, kNV_bl, x_sNil, x_seq, kSq_nx, kSq_rt, kSq_bk, kSq_ct, KRt, x_ret, KEx, x_exp, KIs, x_ifS, optR_s, KSe, x_set, KSO, x_setO, put, free_un, free_sh, free_ow, KSh, x_sh, KLs, x_lst, x_nm, x_gnil, x_gcons, x_gtp, x_gls, KAs, x_asg, KQ, x_q, x_iS, kiS_s, x_r1, x_for, KFo, KCl, x_call, x_shR, kSR_sh, kSR_fr, x_frR, kFR_fr, kCRb_s, KCR, x_callR, ob_ow, ob_rf, putOb, reob_ow, reob_rf, x_fld, KCh2, KCh1, x_chain, kCh3_b, KM2, x_m1, isStr_s, KNw, x_new, x_noP, x_p, kP_i, KCt2, KCt1, KCt0, x_cutT, kCt3_t, KPb, KPa, x_par2, x_rep, kRp_s, x_wo, KRs, x_raise, ok_and, ok_or, okb_and, okb_or, List.getElem?_cons_zero, List.getElem?_cons_succ, List.set_cons_zero, List.set_cons_succ, List.map_cons, List.map_nil, List.append_nil, List.nil_append, List.cons_append, List.length_cons, List.length_nil, List.replicate_succ, List.replicate_zero, Option.isSome_some, Option.isSome_none, Option.bind_some, Option.bind_none, Nat.reduceAdd, Nat.reduceSub, Nat.reduceMul, Nat.reduceLeDiff, Nat.reduceLT, Nat.reduceBEq, Nat.reduceEqDiff, Nat.beq_refl, if_true, if_false, reduceIte, Bool.false_eq_true, Bool.not_true, Bool.not_false, Bool.not_not, decide_eq_true_eq, decide_true, decide_false, Bool.and_true, Bool.true_and, Bool.and_false, Bool.false_and, Bool.or_true, Bool.true_or, Bool.or_false, Bool.false_or, Bool.not_eq_true', decide_eq_false_iff_not, dLe_i, dLt_i, dGt_i, dGe_i, dAdd_i, dSub_i, gLen_t, gLen_l, gTup_2, gTup_3, gTup_1, gTup_0, gTup_4, isN_n, notN_n, isN_t, notN_t, items_t, items_l, ix_t0, ix_t1, dn_lose, x_callL, kL1_g, td_missed, kL2_s, h, hd]
theorem moved_lapse {J S d : D} (hd : pv g_lapsed [J, S, .int (-1)] = .val d) : pv g_moved [J, S, .tup [.str "lapse"]] = .val d := by
  unfold g_moved
  rw [pv_gOf]
  unfold f_moved
  have h : ¬ (1 : Int) < ((1 : Nat) : Int) := by decide
  simp -implicitDefEqProofs only [x_ixO, KIx, kIx2_l, x_setIx, KSx1, KSx2, kSx3_l, kSx4_s, x_bor, kBo_ok, x_borT, kBT_ok, sh_ow, sh_rf, sh_sh, sh_un, imm_i, imm_b, imm_s, pwFl_rt, pwFl_nx, x_callA, KCA, x_aNo, x_aPl, KPl, x_aKw, KKa, KKb, pa_pl, x_lc, unAt_0, unAt_s, b_ok, b_er, b_no, b_if, lift_s, lift_n, lift_if, unpv_val, unpv_new, unpv_err, unpv_if, pvFl_rt, pvFl_fr, pvFl_nx, pvFl_er, pvFl_if, unpw_val, x_var, rdV_sh, x_c, K1, x_f1, K2b, K2a, x_f2, x_nil, KCb, KCa, x_cons, KStb, KStar, x_star, ksta_s, KN, x_n, x_test, kTe_bl, KAn, x_and, KOr, x_or, KNo, x_not, KIe, x_if, x_andV, kAV_bl, x_orV, kOV_bl, x_notV, kNV_bl, x_sNil, x_seq, kSq_nx, kSq_rt, kSq_bk, kSq_ct, KRt, x_ret, KEx, x_exp, KIs, x_ifS, optR_s, KSe, x_set, KSO, x_setO, put, free_un, free_sh, free_ow, KSh, x_sh, KLs, x_lst, x_nm, x_gnil, x_gcons, x_gtp, x_gls, KAs, x_asg, KQ, x_q, x_iS, kiS_s, x_r1, x_for, KFo, KCl, x_call, x_shR, kSR_sh, kSR_fr, x_frR, kFR_fr, kCRb_s, KCR, x_callR, ob_ow, ob_rf, putOb, reob_ow, reob_rf, x_fld, KCh2, KCh1, x_chain, kCh3_b, KM2, x_m1, isStr_s, KNw, x_new, x_noP, x_p, kP_i, KCt2, KCt1, KCt0, x_cutT, kCt3_t, KPb, KPa, x_par2, x_rep, kRp_s, x_wo, KRs, x_raise, ok_and, ok_or, okb_and, okb_or, List.getElem?_cons_zero, List.getElem?_cons_succ, List.set_cons_zero, List.set_cons_succ, List.map_cons, List.map_nil, List.append_nil, List.nil_append, List.cons_append, List.length_cons, List.length_nil, List.replicate_succ, List.replicate_zero, Option.isSome_some, Option.isSome_none, Option.bind_some, Option.bind_none, Nat.reduceAdd, Nat.reduceSub, Nat.reduceMul, Nat.reduceLeDiff, Nat.reduceLT, Nat.reduceBEq, Nat.reduceEqDiff, Nat.beq_refl, if_true, if_false, reduceIte, Bool.false_eq_true, Bool.not_true, Bool.not_false, Bool.not_not, decide_eq_true_eq, decide_true, decide_false, Bool.and_true, Bool.true_and, Bool.and_false, Bool.false_and, Bool.or_true, Bool.true_or, Bool.or_false, Bool.false_or, Bool.not_eq_true', decide_eq_false_iff_not, dLe_i, dLt_i, dGt_i, dGe_i, dAdd_i, dSub_i, gLen_t, gLen_l, gTup_2, gTup_3, gTup_1, gTup_0, gTup_4, isN_n, notN_n, isN_t, notN_t, items_t, items_l, ix_t0, ix_t1, dn_lapse, x_callL, kL1_g, td_lapsed, kL2_s, h, neg_1, hd]
theorem moved_watch {J S d : D} (hd : pv g_begun [J, S, .int (-1)] = .val d) : pv g_moved [J, S, .tup [.str "watch"]] = .val d := by
  unfold g_moved
  rw [pv_gOf]
  unfold f_moved
  have h : ¬ (1 : Int) < ((1 : Nat) : Int) := by decide
  simp -implicitDefEqProofs only [x_ixO, KIx, kIx2_l, x_setIx, KSx1, KSx2, kSx3_l, kSx4_s, x_bor, kBo_ok, x_borT, kBT_ok, sh_ow, sh_rf, sh_sh, sh_un, imm_i, imm_b, imm_s, pwFl_rt, pwFl_nx, x_callA, KCA, x_aNo, x_aPl, KPl, x_aKw, KKa, KKb, pa_pl, x_lc, unAt_0, unAt_s, b_ok, b_er, b_no, b_if, lift_s, lift_n, lift_if, unpv_val, unpv_new, unpv_err, unpv_if, pvFl_rt, pvFl_fr, pvFl_nx, pvFl_er, pvFl_if, unpw_val, x_var, rdV_sh, x_c, K1, x_f1, K2b, K2a, x_f2, x_nil, KCb, KCa, x_cons, KStb, KStar, x_star, ksta_s, KN, x_n, x_test, kTe_bl, KAn, x_and, KOr, x_or, KNo, x_not, KIe, x_if, x_andV, kAV_bl, x_orV, kOV_bl, x_notV, kNV_bl, x_sNil, x_seq, kSq_nx, kSq_rt, kSq_bk, kSq_ct, KRt, x_ret, KEx, x_exp, KIs, x_ifS, optR_s, KSe, x_set, KSO, x_setO, put, free_un, free_sh, free_ow, KSh, x_sh, KLs, x_lst, x_nm, x_gnil, x_gcons, x_gtp, x_gls, KAs, x_asg, KQ, x_q, x_iS, kiS_s, x_r1, x_for, KFo, KCl, x_call, x_shR, kSR_sh, kSR_fr, x_frR, kFR_fr, kCRb_s, KCR, x_callR, ob_ow, ob_rf, putOb, reob_ow, reob_rf, x_fld, KCh2, KCh1, x_chain, kCh3_b, KM2, x_m1, isStr_s, KNw, x_new, x_noP, x_p, kP_i, KCt2, KCt1, KCt0, x_cutT, kCt3_t, KPb, KPa, x_par2, x_rep, kRp_s, x_wo, KRs, x_raise, ok_and, ok_or, okb_and, okb_or, List.getElem?_cons_zero, List.getElem?_cons_succ, List.set_cons_zero, List.set_cons_succ, List.map_cons, List.map_nil, List.append_nil, List.nil_append, List.cons_append, List.length_cons, List.length_nil, List.replicate_succ, List.replicate_zero, Option.isSome_some, Option.isSome_none, Option.bind_some, Option.bind_none, Nat.reduceAdd, Nat.reduceSub, Nat.reduceMul, Nat.reduceLeDiff, Nat.reduceLT, Nat.reduceBEq, Nat.reduceEqDiff, Nat.beq_refl, if_true, if_false, reduceIte, Bool.false_eq_true, Bool.not_true, Bool.not_false, Bool.not_not, decide_eq_true_eq, decide_true, decide_false, Bool.and_true, Bool.true_and, Bool.and_false, Bool.false_and, Bool.or_true, Bool.true_or, Bool.or_false, Bool.false_or, Bool.not_eq_true', decide_eq_false_iff_not, dLe_i, dLt_i, dGt_i, dGe_i, dAdd_i, dSub_i, gLen_t, gLen_l, gTup_2, gTup_3, gTup_1, gTup_0, gTup_4, isN_n, notN_n, isN_t, notN_t, items_t, items_l, ix_t0, ix_t1, dn_watch, x_callL, kL1_g, td_begun, kL2_s, h, neg_1, hd]
theorem moved_start {J S d : D} (hd : pv g_begun [J, S, .int (-1)] = .val d) : pv g_moved [J, S, .tup [.str "start"]] = .val d := by
  unfold g_moved
  rw [pv_gOf]
  unfold f_moved
  have h : ¬ (1 : Int) < ((1 : Nat) : Int) := by decide
  simp -implicitDefEqProofs only [x_ixO, KIx, kIx2_l, x_setIx, KSx1, KSx2, kSx3_l, kSx4_s, x_bor, kBo_ok, x_borT, kBT_ok, sh_ow, sh_rf, sh_sh, sh_un, imm_i, imm_b, imm_s, pwFl_rt, pwFl_nx, x_callA, KCA, x_aNo, x_aPl, KPl, x_aKw, KKa, KKb, pa_pl, x_lc, unAt_0, unAt_s, b_ok, b_er, b_no, b_if, lift_s, lift_n, lift_if, unpv_val, unpv_new, unpv_err, unpv_if, pvFl_rt, pvFl_fr, pvFl_nx, pvFl_er, pvFl_if, unpw_val, x_var, rdV_sh, x_c, K1, x_f1, K2b, K2a, x_f2, x_nil, KCb, KCa, x_cons, KStb, KStar, x_star, ksta_s, KN, x_n, x_test, kTe_bl, KAn, x_and, KOr, x_or, KNo, x_not, KIe, x_if, x_andV, kAV_bl, x_orV, kOV_bl, x_notV, kNV_bl, x_sNil, x_seq, kSq_nx, kSq_rt, kSq_bk, kSq_ct, KRt, x_ret, KEx, x_exp, KIs, x_ifS, optR_s, KSe, x_set, KSO, x_setO, put, free_un, free_sh, free_ow, KSh, x_sh, KLs, x_lst, x_nm, x_gnil, x_gcons, x_gtp, x_gls, KAs, x_asg, KQ, x_q, x_iS, kiS_s, x_r1, x_for, KFo, KCl, x_call, x_shR, kSR_sh, kSR_fr, x_frR, kFR_fr, kCRb_s, KCR, x_callR, ob_ow, ob_rf, putOb, reob_ow, reob_rf, x_fld, KCh2, KCh1, x_chain, kCh3_b, KM2, x_m1, isStr_s, KNw, x_new, x_noP, x_p, kP_i, KCt2, KCt1, KCt0, x_cutT, kCt3_t, KPb, KPa, x_par2, x_rep, kRp_s, x_wo, KRs, x_raise, ok_and, ok_or, okb_and, okb_or, List.getElem?_cons_zero, List.getElem?_cons_succ, List.set_cons_zero, List.set_cons_succ, List.map_cons, List.map_nil, List.append_nil, List.nil_append, List.cons_append, List.length_cons, List.length_nil, List.replicate_succ, List.replicate_zero, Option.isSome_some, Option.isSome_none, Option.bind_some, Option.bind_none, Nat.reduceAdd, Nat.reduceSub, Nat.reduceMul, Nat.reduceLeDiff, Nat.reduceLT, Nat.reduceBEq, Nat.reduceEqDiff, Nat.beq_refl, if_true, if_false, reduceIte, Bool.false_eq_true, Bool.not_true, Bool.not_false, Bool.not_not, decide_eq_true_eq, decide_true, decide_false, Bool.and_true, Bool.true_and, Bool.and_false, Bool.false_and, Bool.or_true, Bool.true_or, Bool.or_false, Bool.false_or, Bool.not_eq_true', decide_eq_false_iff_not, dLe_i, dLt_i, dGt_i, dGe_i, dAdd_i, dSub_i, gLen_t, gLen_l, gTup_2, gTup_3, gTup_1, gTup_0, gTup_4, isN_n, notN_n, isN_t, notN_t, items_t, items_l, ix_t0, ix_t1, dn_start, x_callL, kL1_g, td_begun, kL2_s, h, neg_1, hd]
theorem moved_off {J S d : D} (hd : pv g_turned_off [J, S, .int (-1)] = .val d) : pv g_moved [J, S, .tup [.str "off"]] = .val d := by
  unfold g_moved
  rw [pv_gOf]
  unfold f_moved
  have h : ¬ (1 : Int) < ((1 : Nat) : Int) := by decide
  simp -implicitDefEqProofs only [x_ixO, KIx, kIx2_l, x_setIx, KSx1, KSx2, kSx3_l, kSx4_s, x_bor, kBo_ok, x_borT, kBT_ok, sh_ow, sh_rf, sh_sh, sh_un, imm_i, imm_b, imm_s, pwFl_rt, pwFl_nx, x_callA, KCA, x_aNo, x_aPl, KPl, x_aKw, KKa, KKb, pa_pl, x_lc, unAt_0, unAt_s, b_ok, b_er, b_no, b_if, lift_s, lift_n, lift_if, unpv_val, unpv_new, unpv_err, unpv_if, pvFl_rt, pvFl_fr, pvFl_nx, pvFl_er, pvFl_if, unpw_val, x_var, rdV_sh, x_c, K1, x_f1, K2b, K2a, x_f2, x_nil, KCb, KCa, x_cons, KStb, KStar, x_star, ksta_s, KN, x_n, x_test, kTe_bl, KAn, x_and, KOr, x_or, KNo, x_not, KIe, x_if, x_andV, kAV_bl, x_orV, kOV_bl, x_notV, kNV_bl, x_sNil, x_seq, kSq_nx, kSq_rt, kSq_bk, kSq_ct, KRt, x_ret, KEx, x_exp, KIs, x_ifS, optR_s, KSe, x_set, KSO, x_setO, put, free_un, free_sh, free_ow, KSh, x_sh, KLs, x_lst, x_nm, x_gnil, x_gcons, x_gtp, x_gls, KAs, x_asg, KQ, x_q, x_iS, kiS_s, x_r1, x_for, KFo, KCl, x_call, x_shR, kSR_sh, kSR_fr, x_frR, kFR_fr, kCRb_s, KCR, x_callR, ob_ow, ob_rf, putOb, reob_ow, reob_rf, x_fld, KCh2, KCh1, x_chain, kCh3_b, KM2, x_m1, isStr_s, KNw, x_new, x_noP, x_p, kP_i, KCt2, KCt1, KCt0, x_cutT, kCt3_t, KPb, KPa, x_par2, x_rep, kRp_s, x_wo, KRs, x_raise, ok_and, ok_or, okb_and, okb_or, List.getElem?_cons_zero, List.getElem?_cons_succ, List.set_cons_zero, List.set_cons_succ, List.map_cons, List.map_nil, List.append_nil, List.nil_append, List.cons_append, List.length_cons, List.length_nil, List.replicate_succ, List.replicate_zero, Option.isSome_some, Option.isSome_none, Option.bind_some, Option.bind_none, Nat.reduceAdd, Nat.reduceSub, Nat.reduceMul, Nat.reduceLeDiff, Nat.reduceLT, Nat.reduceBEq, Nat.reduceEqDiff, Nat.beq_refl, if_true, if_false, reduceIte, Bool.false_eq_true, Bool.not_true, Bool.not_false, Bool.not_not, decide_eq_true_eq, decide_true, decide_false, Bool.and_true, Bool.true_and, Bool.and_false, Bool.false_and, Bool.or_true, Bool.true_or, Bool.or_false, Bool.false_or, Bool.not_eq_true', decide_eq_false_iff_not, dLe_i, dLt_i, dGt_i, dGe_i, dAdd_i, dSub_i, gLen_t, gLen_l, gTup_2, gTup_3, gTup_1, gTup_0, gTup_4, isN_n, notN_n, isN_t, notN_t, items_t, items_l, ix_t0, ix_t1, dn_off, x_callL, kL1_g, td_turned_off, kL2_s, h, neg_1, hd]
theorem moved_on {J S d : D} (hd : pv g_turned_on [J, S, .int (-1)] = .val d) : pv g_moved [J, S, .tup [.str "on"]] = .val d := by
  unfold g_moved
  rw [pv_gOf]
  unfold f_moved
  have h : ¬ (1 : Int) < ((1 : Nat) : Int) := by decide
  simp -implicitDefEqProofs only [x_ixO, KIx, kIx2_l, x_setIx, KSx1, KSx2, kSx3_l, kSx4_s, x_bor, kBo_ok, x_borT, kBT_ok, sh_ow, sh_rf, sh_sh, sh_un, imm_i, imm_b, imm_s, pwFl_rt, pwFl_nx, x_callA, KCA, x_aNo, x_aPl, KPl, x_aKw, KKa, KKb, pa_pl, x_lc, unAt_0, unAt_s, b_ok, b_er, b_no, b_if, lift_s, lift_n, lift_if, unpv_val, unpv_new, unpv_err, unpv_if, pvFl_rt, pvFl_fr, pvFl_nx, pvFl_er, pvFl_if, unpw_val, x_var, rdV_sh, x_c, K1, x_f1, K2b, K2a, x_f2, x_nil, KCb, KCa, x_cons, KStb, KStar, x_star, ksta_s, KN, x_n, x_test, kTe_bl, KAn, x_and, KOr, x_or, KNo, x_not, KIe, x_if, x_andV, kAV_bl, x_orV, kOV_bl, x_notV, kNV_bl, x_sNil, x_seq, kSq_nx, kSq_rt, kSq_bk, kSq_ct, KRt, x_ret, KEx, x_exp, KIs, x_ifS, optR_s, KSe, x_set, KSO, x_setO, put, free_un, free_sh, free_ow, KSh, x_sh, KLs, x_lst, x_nm, x_gnil, x_gcons, x_gtp, x_gls, KAs, x_asg, KQ, x_q, x_iS, kiS_s, x_r1, x_for, KFo, KCl, x_call, x_shR, kSR_sh, kSR_fr, x_frR, kFR_fr, kCRb_s, KCR, x_callR, ob_ow, ob_rf, putOb, reob_ow, reob_rf, x_fld, KCh2, KCh1, x_chain, kCh3_b, KM2, x_m1, isStr_s, KNw, x_new, x_noP, x_p, kP_i, KCt2, KCt1, KCt0, x_cutT, kCt3_t, KPb, KPa, x_par2, x_rep, kRp_s, x_wo, KRs, x_raise, ok_and, ok_or, okb_and, okb_or, List.getElem?_cons_zero, List.getElem?_cons_succ, List.set_cons_zero, List.set_cons_succ, List.map_cons, List.map_nil, List.append_nil, List.nil_append, List.cons_append, List.length_cons, List.length_nil, List.replicate_succ, List.replicate_zero, Option.isSome_some, Option.isSome_none, Option.bind_some, Option.bind_none, Nat.reduceAdd, Nat.reduceSub, Nat.reduceMul, Nat.reduceLeDiff, Nat.reduceLT, Nat.reduceBEq, Nat.reduceEqDiff, Nat.beq_refl, if_true, if_false, reduceIte, Bool.false_eq_true, Bool.not_true, Bool.not_false, Bool.not_not, decide_eq_true_eq, decide_true, decide_false, Bool.and_true, Bool.true_and, Bool.and_false, Bool.false_and, Bool.or_true, Bool.true_or, Bool.or_false, Bool.false_or, Bool.not_eq_true', decide_eq_false_iff_not, dLe_i, dLt_i, dGt_i, dGe_i, dAdd_i, dSub_i, gLen_t, gLen_l, gTup_2, gTup_3, gTup_1, gTup_0, gTup_4, isN_n, notN_n, isN_t, notN_t, items_t, items_l, ix_t0, ix_t1, dn_on, x_callL, kL1_g, td_turned_on, kL2_s, h, neg_1, hd]
def SgOk (j : Jb) (s : Sg) : Prop := StOk (j.rows.map Wd.d) (j.last.map Wd.d) (swS s.sw) s.ky.s s.ts
theorem is_standing_pv {j : Jb} {s : Sg} (h : SgOk j s) : pv g_is_standing [j.d, s.d] = .val (.bl true) := pv_of (is_standing_ok h)
theorem look_standing_pv {j : Jb} {s : Sg} (h : SgOk j s) : pv g_look_standing [j.d, s.d] = .val s.d := by
  unfold g_look_standing
  rw [pv_gOf]
  unfold f_look_standing
  simp -implicitDefEqProofs only [x_ixO, KIx, kIx2_l, x_setIx, KSx1, KSx2, kSx3_l, kSx4_s, x_bor, kBo_ok, x_borT, kBT_ok, sh_ow, sh_rf, sh_sh, sh_un, imm_i, imm_b, imm_s, pwFl_rt, pwFl_nx, x_callA, KCA, x_aNo, x_aPl, KPl, x_aKw, KKa, KKb, pa_pl, x_lc, unAt_0, unAt_s, b_ok, b_er, b_no, b_if, lift_s, lift_n, lift_if, unpv_val, unpv_new, unpv_err, unpv_if, pvFl_rt, pvFl_fr, pvFl_nx, pvFl_er, pvFl_if, unpw_val, x_var, rdV_sh, x_c, K1, x_f1, K2b, K2a, x_f2, x_nil, KCb, KCa, x_cons, KStb, KStar, x_star, ksta_s, KN, x_n, x_test, kTe_bl, KAn, x_and, KOr, x_or, KNo, x_not, KIe, x_if, x_andV, kAV_bl, x_orV, kOV_bl, x_notV, kNV_bl, x_sNil, x_seq, kSq_nx, kSq_rt, kSq_bk, kSq_ct, KRt, x_ret, KEx, x_exp, KIs, x_ifS, optR_s, KSe, x_set, KSO, x_setO, put, free_un, free_sh, free_ow, KSh, x_sh, KLs, x_lst, x_nm, x_gnil, x_gcons, x_gtp, x_gls, KAs, x_asg, KQ, x_q, x_iS, kiS_s, x_r1, x_for, KFo, KCl, x_call, x_shR, kSR_sh, kSR_fr, x_frR, kFR_fr, kCRb_s, KCR, x_callR, ob_ow, ob_rf, putOb, reob_ow, reob_rf, x_fld, KCh2, KCh1, x_chain, kCh3_b, KM2, x_m1, isStr_s, KNw, x_new, x_noP, x_p, kP_i, KCt2, KCt1, KCt0, x_cutT, kCt3_t, KPb, KPa, x_par2, x_rep, kRp_s, x_wo, KRs, x_raise, ok_and, ok_or, okb_and, okb_or, List.getElem?_cons_zero, List.getElem?_cons_succ, List.set_cons_zero, List.set_cons_succ, List.map_cons, List.map_nil, List.append_nil, List.nil_append, List.cons_append, List.length_cons, List.length_nil, List.replicate_succ, List.replicate_zero, Option.isSome_some, Option.isSome_none, Option.bind_some, Option.bind_none, Nat.reduceAdd, Nat.reduceSub, Nat.reduceMul, Nat.reduceLeDiff, Nat.reduceLT, Nat.reduceBEq, Nat.reduceEqDiff, Nat.beq_refl, if_true, if_false, reduceIte, Bool.false_eq_true, Bool.not_true, Bool.not_false, Bool.not_not, decide_eq_true_eq, decide_true, decide_false, Bool.and_true, Bool.true_and, Bool.and_false, Bool.false_and, Bool.or_true, Bool.true_or, Bool.or_false, Bool.false_or, Bool.not_eq_true', decide_eq_false_iff_not, dLe_i, dLt_i, dGt_i, dGe_i, dAdd_i, dSub_i, gLen_t, gLen_l, gTup_2, gTup_3, gTup_1, gTup_0, gTup_4, isN_n, notN_n, isN_t, notN_t, items_t, items_l, is_standing_pv h]
theorem look_moveP (m : Mp) {k : Nat} (hk : k ≤ 4) : pv g_look_move [.tup [.str m.s, .int k]] = .val .non := by
  have : k = 0 ∨ k = 1 ∨ k = 2 ∨ k = 3 ∨ k = 4 := by omega
  rcases this with rfl | rfl | rfl | rfl | rfl <;> cases m <;> kernel_rfl
theorem look_moveN (m : Mn) : pv g_look_move [.tup [.str m.s]] = .val .non := by cases m <;> kernel_rfl
theorem look_room_pv {r : Int} (h2 : 2 ≤ r) (h5 : r ≤ 5) : pv g_look_room [.int r, .int 5] = .val .non := by
  have : r = 2 ∨ r = 3 ∨ r = 4 ∨ r = 5 := by omega
  rcases this with rfl | rfl | rfl | rfl <;> kernel_rfl
/-- where a move leads, if it is possible -/
def movedP (j : Jb) (s : Sg) (m : Mp) (k : Nat) (t : Tk) : Sg := match m with
  | .step => steppedT j.words s k t
  | .kill => killedT s k t
  | .fail => failedT j s k t
  | .rept => repeatedT s k t
  | .lose => missedT s k t
def movedN (j : Jb) (s : Sg) (m : Mn) : Sg := match m with
  | .lapse => madeT s.sw .free s.ts
  | .watch => (startedT j s).getD s
  | .start => (startedT j s).getD s
  | .off => ⟨false, s.ky, s.ts⟩
  | .on => (startedT j ⟨true, s.ky, s.ts⟩).getD ⟨true, s.ky, s.ts⟩
def afterP (j : Jb) (s : Sg) (m : Mp) (k : Nat) (room : Int) : Option Sg := if canActT j s m k room = true then (s.ts[k]?).map (movedP j s m k) else none
def afterN (j : Jb) (s : Sg) (m : Mn) (room : Int) : Option Sg := if canNT j s m room = true then some (movedN j s m) else none
theorem movedP_ok {j : Jb} {s : Sg} (v : SgOk j s) (m : Mp) (k : Nat) (t : Tk) (hk : s.ts[k]? = some t) : pv g_moved [j.d, s.d, .tup [.str m.s, .int k]] = .val (movedP j s m k t).d := by
  have hl := v.len
  have h0 := (v.tok t (List.mem_of_getElem? hk)).h0
  cases m
  · exact moved_step (stepped_ok j s k t hk h0 (by omega))
  · exact moved_kill (killed_ok j s k t hk (by omega))
  · exact moved_fail (failed_ok j s k t hk (by omega))
  · exact moved_repeat (repeated_ok j s k t hk (by omega))
  · exact moved_lose (missed_ok j s k t hk (by omega))
theorem movedN_ok {j : Jb} {s : Sg} (v : SgOk j s) (m : Mn) : pv g_moved [j.d, s.d, .tup [.str m.s]] = .val (movedN j s m).d := by
  have hl := v.len
  cases m
  · exact moved_lapse (lapsed_ok j s _ (by omega))
  · exact moved_watch (begun_ok j s _ (by omega))
  · exact moved_start (begun_ok j s _ (by omega))
  · exact moved_off (turned_off_ok j s _)
  · exact moved_on (turned_on_ok j s _ (by omega))
def aft (mv : D) : Option Sg → Rv
  | some s => .val s.d
  | none => .err "Refused" "move" mv
theorem afterP_ok {j : Jb} {s : Sg} (v : SgOk j s) (m : Mp) {k : Nat} (hk : k ≤ 4) {room : Int} (h2 : 2 ≤ room) (h5 : room ≤ 5) : pv g_after [j.d, s.d, .tup [.str m.s, .int k], .int room] = aft (.tup [.str m.s, .int k]) (afterP j s m k room) := by
  unfold g_after afterP
  rw [pv_gOf]
  unfold f_after
  cases hc : canActT j s m k room with
  | false => simp -implicitDefEqProofs only [x_ixO, KIx, kIx2_l, x_setIx, KSx1, KSx2, kSx3_l, kSx4_s, x_bor, kBo_ok, x_borT, kBT_ok, sh_ow, sh_rf, sh_sh, sh_un, imm_i, imm_b, imm_s, pwFl_rt, pwFl_nx, x_callA, KCA, x_aNo, x_aPl, KPl, x_aKw, KKa, KKb, pa_pl, x_lc, unAt_0, unAt_s, b_ok, b_er, b_no, b_if, lift_s, lift_n, lift_if, unpv_val, unpv_new, unpv_err, unpv_if, pvFl_rt, pvFl_fr, pvFl_nx, pvFl_er, pvFl_if, unpw_val, x_var, rdV_sh, x_c, K1, x_f1, K2b, K2a, x_f2, x_nil, KCb, KCa, x_cons, KStb, KStar, x_star, ksta_s, KN, x_n, x_test, kTe_bl, KAn, x_and, KOr, x_or, KNo, x_not, KIe, x_if, x_andV, kAV_bl, x_orV, kOV_bl, x_notV, kNV_bl, x_sNil, x_seq, kSq_nx, kSq_rt, kSq_bk, kSq_ct, KRt, x_ret, KEx, x_exp, KIs, x_ifS, optR_s, KSe, x_set, KSO, x_setO, put, free_un, free_sh, free_ow, KSh, x_sh, KLs, x_lst, x_nm, x_gnil, x_gcons, x_gtp, x_gls, KAs, x_asg, KQ, x_q, x_iS, kiS_s, x_r1, x_for, KFo, KCl, x_call, x_shR, kSR_sh, kSR_fr, x_frR, kFR_fr, kCRb_s, KCR, x_callR, ob_ow, ob_rf, putOb, reob_ow, reob_rf, x_fld, KCh2, KCh1, x_chain, kCh3_b, KM2, x_m1, isStr_s, KNw, x_new, x_noP, x_p, kP_i, KCt2, KCt1, KCt0, x_cutT, kCt3_t, KPb, KPa, x_par2, x_rep, kRp_s, x_wo, KRs, x_raise, ok_and, ok_or, okb_and, okb_or, List.getElem?_cons_zero, List.getElem?_cons_succ, List.set_cons_zero, List.set_cons_succ, List.map_cons, List.map_nil, List.append_nil, List.nil_append, List.cons_append, List.length_cons, List.length_nil, List.replicate_succ, List.replicate_zero, Option.isSome_some, Option.isSome_none, Option.bind_some, Option.bind_none, Nat.reduceAdd, Nat.reduceSub, Nat.reduceMul, Nat.reduceLeDiff, Nat.reduceLT, Nat.reduceBEq, Nat.reduceEqDiff, Nat.beq_refl, if_true, if_false, reduceIte, Bool.false_eq_true, Bool.not_true, Bool.not_false, Bool.not_not, decide_eq_true_eq, decide_true, decide_false, Bool.and_true, Bool.true_and, Bool.and_false, Bool.false_and, Bool.or_true, Bool.true_or, Bool.or_false, Bool.false_or, Bool.not_eq_true', decide_eq_false_iff_not, dLe_i, dLt_i, dGt_i, dGe_i, dAdd_i, dSub_i, gLen_t, gLen_l, gTup_2, gTup_3, gTup_1, gTup_0, gTup_4, isN_n, notN_n, isN_t, notN_t, items_t, items_l, look_standing_pv v, look_moveP m hk, look_room_pv h2 h5, can_moveP_ok, hc, aft]
  | true =>
    cases ht : s.ts[k]? with
    | none => simp [canActT, ht] at hc
    | some t => simp -implicitDefEqProofs only [x_ixO, KIx, kIx2_l, x_setIx, KSx1, KSx2, kSx3_l, kSx4_s, x_bor, kBo_ok, x_borT, kBT_ok, sh_ow, sh_rf, sh_sh, sh_un, imm_i, imm_b, imm_s, pwFl_rt, pwFl_nx, x_callA, KCA, x_aNo, x_aPl, KPl, x_aKw, KKa, KKb, pa_pl, x_lc, unAt_0, unAt_s, b_ok, b_er, b_no, b_if, lift_s, lift_n, lift_if, unpv_val, unpv_new, unpv_err, unpv_if, pvFl_rt, pvFl_fr, pvFl_nx, pvFl_er, pvFl_if, unpw_val, x_var, rdV_sh, x_c, K1, x_f1, K2b, K2a, x_f2, x_nil, KCb, KCa, x_cons, KStb, KStar, x_star, ksta_s, KN, x_n, x_test, kTe_bl, KAn, x_and, KOr, x_or, KNo, x_not, KIe, x_if, x_andV, kAV_bl, x_orV, kOV_bl, x_notV, kNV_bl, x_sNil, x_seq, kSq_nx, kSq_rt, kSq_bk, kSq_ct, KRt, x_ret, KEx, x_exp, KIs, x_ifS, optR_s, KSe, x_set, KSO, x_setO, put, free_un, free_sh, free_ow, KSh, x_sh, KLs, x_lst, x_nm, x_gnil, x_gcons, x_gtp, x_gls, KAs, x_asg, KQ, x_q, x_iS, kiS_s, x_r1, x_for, KFo, KCl, x_call, x_shR, kSR_sh, kSR_fr, x_frR, kFR_fr, kCRb_s, KCR, x_callR, ob_ow, ob_rf, putOb, reob_ow, reob_rf, x_fld, KCh2, KCh1, x_chain, kCh3_b, KM2, x_m1, isStr_s, KNw, x_new, x_noP, x_p, kP_i, KCt2, KCt1, KCt0, x_cutT, kCt3_t, KPb, KPa, x_par2, x_rep, kRp_s, x_wo, KRs, x_raise, ok_and, ok_or, okb_and, okb_or, List.getElem?_cons_zero, List.getElem?_cons_succ, List.set_cons_zero, List.set_cons_succ, List.map_cons, List.map_nil, List.append_nil, List.nil_append, List.cons_append, List.length_cons, List.length_nil, List.replicate_succ, List.replicate_zero, Option.isSome_some, Option.isSome_none, Option.bind_some, Option.bind_none, Nat.reduceAdd, Nat.reduceSub, Nat.reduceMul, Nat.reduceLeDiff, Nat.reduceLT, Nat.reduceBEq, Nat.reduceEqDiff, Nat.beq_refl, if_true, if_false, reduceIte, Bool.false_eq_true, Bool.not_true, Bool.not_false, Bool.not_not, decide_eq_true_eq, decide_true, decide_false, Bool.and_true, Bool.true_and, Bool.and_false, Bool.false_and, Bool.or_true, Bool.true_or, Bool.or_false, Bool.false_or, Bool.not_eq_true', decide_eq_false_iff_not, dLe_i, dLt_i, dGt_i, dGe_i, dAdd_i, dSub_i, gLen_t, gLen_l, gTup_2, gTup_3, gTup_1, gTup_0, gTup_4, isN_n, notN_n, isN_t, notN_t, items_t, items_l, look_standing_pv v, look_moveP m hk, look_room_pv h2 h5, can_moveP_ok, hc, aft, movedP_ok v m k t ht, Option.map_some]
theorem afterN_ok {j : Jb} {s : Sg} (v : SgOk j s) (m : Mn) {room : Int} (h2 : 2 ≤ room) (h5 : room ≤ 5) : pv g_after [j.d, s.d, .tup [.str m.s], .int room] = aft (.tup [.str m.s]) (afterN j s m room) := by
  have hl := v.len
  unfold g_after afterN
  rw [pv_gOf]
  unfold f_after
  cases hc : canNT j s m room with
  | false => simp -implicitDefEqProofs only [x_ixO, KIx, kIx2_l, x_setIx, KSx1, KSx2, kSx3_l, kSx4_s, x_bor, kBo_ok, x_borT, kBT_ok, sh_ow, sh_rf, sh_sh, sh_un, imm_i, imm_b, imm_s, pwFl_rt, pwFl_nx, x_callA, KCA, x_aNo, x_aPl, KPl, x_aKw, KKa, KKb, pa_pl, x_lc, unAt_0, unAt_s, b_ok, b_er, b_no, b_if, lift_s, lift_n, lift_if, unpv_val, unpv_new, unpv_err, unpv_if, pvFl_rt, pvFl_fr, pvFl_nx, pvFl_er, pvFl_if, unpw_val, x_var, rdV_sh, x_c, K1, x_f1, K2b, K2a, x_f2, x_nil, KCb, KCa, x_cons, KStb, KStar, x_star, ksta_s, KN, x_n, x_test, kTe_bl, KAn, x_and, KOr, x_or, KNo, x_not, KIe, x_if, x_andV, kAV_bl, x_orV, kOV_bl, x_notV, kNV_bl, x_sNil, x_seq, kSq_nx, kSq_rt, kSq_bk, kSq_ct, KRt, x_ret, KEx, x_exp, KIs, x_ifS, optR_s, KSe, x_set, KSO, x_setO, put, free_un, free_sh, free_ow, KSh, x_sh, KLs, x_lst, x_nm, x_gnil, x_gcons, x_gtp, x_gls, KAs, x_asg, KQ, x_q, x_iS, kiS_s, x_r1, x_for, KFo, KCl, x_call, x_shR, kSR_sh, kSR_fr, x_frR, kFR_fr, kCRb_s, KCR, x_callR, ob_ow, ob_rf, putOb, reob_ow, reob_rf, x_fld, KCh2, KCh1, x_chain, kCh3_b, KM2, x_m1, isStr_s, KNw, x_new, x_noP, x_p, kP_i, KCt2, KCt1, KCt0, x_cutT, kCt3_t, KPb, KPa, x_par2, x_rep, kRp_s, x_wo, KRs, x_raise, ok_and, ok_or, okb_and, okb_or, List.getElem?_cons_zero, List.getElem?_cons_succ, List.set_cons_zero, List.set_cons_succ, List.map_cons, List.map_nil, List.append_nil, List.nil_append, List.cons_append, List.length_cons, List.length_nil, List.replicate_succ, List.replicate_zero, Option.isSome_some, Option.isSome_none, Option.bind_some, Option.bind_none, Nat.reduceAdd, Nat.reduceSub, Nat.reduceMul, Nat.reduceLeDiff, Nat.reduceLT, Nat.reduceBEq, Nat.reduceEqDiff, Nat.beq_refl, if_true, if_false, reduceIte, Bool.false_eq_true, Bool.not_true, Bool.not_false, Bool.not_not, decide_eq_true_eq, decide_true, decide_false, Bool.and_true, Bool.true_and, Bool.and_false, Bool.false_and, Bool.or_true, Bool.true_or, Bool.or_false, Bool.false_or, Bool.not_eq_true', decide_eq_false_iff_not, dLe_i, dLt_i, dGt_i, dGe_i, dAdd_i, dSub_i, gLen_t, gLen_l, gTup_2, gTup_3, gTup_1, gTup_0, gTup_4, isN_n, notN_n, isN_t, notN_t, items_t, items_l, look_standing_pv v, look_moveN m, look_room_pv h2 h5, can_moveN_ok j s m room (by omega), hc, aft]
  | true => simp -implicitDefEqProofs only [x_ixO, KIx, kIx2_l, x_setIx, KSx1, KSx2, kSx3_l, kSx4_s, x_bor, kBo_ok, x_borT, kBT_ok, sh_ow, sh_rf, sh_sh, sh_un, imm_i, imm_b, imm_s, pwFl_rt, pwFl_nx, x_callA, KCA, x_aNo, x_aPl, KPl, x_aKw, KKa, KKb, pa_pl, x_lc, unAt_0, unAt_s, b_ok, b_er, b_no, b_if, lift_s, lift_n, lift_if, unpv_val, unpv_new, unpv_err, unpv_if, pvFl_rt, pvFl_fr, pvFl_nx, pvFl_er, pvFl_if, unpw_val, x_var, rdV_sh, x_c, K1, x_f1, K2b, K2a, x_f2, x_nil, KCb, KCa, x_cons, KStb, KStar, x_star, ksta_s, KN, x_n, x_test, kTe_bl, KAn, x_and, KOr, x_or, KNo, x_not, KIe, x_if, x_andV, kAV_bl, x_orV, kOV_bl, x_notV, kNV_bl, x_sNil, x_seq, kSq_nx, kSq_rt, kSq_bk, kSq_ct, KRt, x_ret, KEx, x_exp, KIs, x_ifS, optR_s, KSe, x_set, KSO, x_setO, put, free_un, free_sh, free_ow, KSh, x_sh, KLs, x_lst, x_nm, x_gnil, x_gcons, x_gtp, x_gls, KAs, x_asg, KQ, x_q, x_iS, kiS_s, x_r1, x_for, KFo, KCl, x_call, x_shR, kSR_sh, kSR_fr, x_frR, kFR_fr, kCRb_s, KCR, x_callR, ob_ow, ob_rf, putOb, reob_ow, reob_rf, x_fld, KCh2, KCh1, x_chain, kCh3_b, KM2, x_m1, isStr_s, KNw, x_new, x_noP, x_p, kP_i, KCt2, KCt1, KCt0, x_cutT, kCt3_t, KPb, KPa, x_par2, x_rep, kRp_s, x_wo, KRs, x_raise, ok_and, ok_or, okb_and, okb_or, List.getElem?_cons_zero, List.getElem?_cons_succ, List.set_cons_zero, List.set_cons_succ, List.map_cons, List.map_nil, List.append_nil, List.nil_append, List.cons_append, List.length_cons, List.length_nil, List.replicate_succ, List.replicate_zero, Option.isSome_some, Option.isSome_none, Option.bind_some, Option.bind_none, Nat.reduceAdd, Nat.reduceSub, Nat.reduceMul, Nat.reduceLeDiff, Nat.reduceLT, Nat.reduceBEq, Nat.reduceEqDiff, Nat.beq_refl, if_true, if_false, reduceIte, Bool.false_eq_true, Bool.not_true, Bool.not_false, Bool.not_not, decide_eq_true_eq, decide_true, decide_false, Bool.and_true, Bool.true_and, Bool.and_false, Bool.false_and, Bool.or_true, Bool.true_or, Bool.or_false, Bool.false_or, Bool.not_eq_true', decide_eq_false_iff_not, dLe_i, dLt_i, dGt_i, dGe_i, dAdd_i, dSub_i, gLen_t, gLen_l, gTup_2, gTup_3, gTup_1, gTup_0, gTup_4, isN_n, notN_n, isN_t, notN_t, items_t, items_l, look_standing_pv v, look_moveN m, look_room_pv h2 h5, can_moveN_ok j s m room (by omega), hc, aft, movedN_ok v m]
/-! ### the laws' word -/
def odn : Option Sg → D
  | some s => s.d
  | none => .tup []
theorem mvP_same (m : Mp) (k : Int) : dEq (.tup [.str m.s, .int k]) (.tup [.str m.s, .int k]) = some (.bl true) := by
  obtain ⟨q, h⟩ : ∃ q, okP 3 (.tup [.str m.s, .int k]) q := by cases m <;> exact okB_ok (by kernel_rfl)
  unfold dEq
  rw [eqD_same h (by omega)]
  rfl
theorem mvN_same (m : Mn) : dEq (.tup [.str m.s]) (.tup [.str m.s]) = some (.bl true) := by cases m <;> kernel_rfl
theorem pa_after (a b c r : D) : pa c_after_room [a, b, c] [r] = pv g_after [a, b, c, r] := pa_kw (gd := g_after) (td := fun xs => pk [.inl 0] xs []) (zs := [r]) (ds := [a, b, c]) (n := 3) (m := 4) rfl
theorem done_of {J S mv R : D} {o : Option Sg} (h : pv g_after [J, S, mv, R] = aft mv o) (hs : dEq mv mv = some (.bl true)) : pv g__law_done [J, S, mv, R] = .val (odn o) := by
  have hh : List.lookup ("Refused" : Str) [("Refused", true)] = some true := by rfl
  unfold g__law_done
  rw [pv_gOf]
  unfold f__law_done
  cases o with
  | none => simp -implicitDefEqProofs only [x_ixO, KIx, kIx2_l, x_setIx, KSx1, KSx2, kSx3_l, kSx4_s, x_bor, kBo_ok, x_borT, kBT_ok, sh_ow, sh_rf, sh_sh, sh_un, imm_i, imm_b, imm_s, pwFl_rt, pwFl_nx, x_callA, KCA, x_aNo, x_aPl, KPl, x_aKw, KKa, KKb, pa_pl, x_lc, unAt_0, unAt_s, b_ok, b_er, b_no, b_if, lift_s, lift_n, lift_if, unpv_val, unpv_new, unpv_err, unpv_if, pvFl_rt, pvFl_fr, pvFl_nx, pvFl_er, pvFl_if, unpw_val, x_var, rdV_sh, x_c, K1, x_f1, K2b, K2a, x_f2, x_nil, KCb, KCa, x_cons, KStb, KStar, x_star, ksta_s, KN, x_n, x_test, kTe_bl, KAn, x_and, KOr, x_or, KNo, x_not, KIe, x_if, x_andV, kAV_bl, x_orV, kOV_bl, x_notV, kNV_bl, x_sNil, x_seq, kSq_nx, kSq_rt, kSq_bk, kSq_ct, KRt, x_ret, KEx, x_exp, KIs, x_ifS, optR_s, KSe, x_set, KSO, x_setO, put, free_un, free_sh, free_ow, KSh, x_sh, KLs, x_lst, x_nm, x_gnil, x_gcons, x_gtp, x_gls, KAs, x_asg, KQ, x_q, x_iS, kiS_s, x_r1, x_for, KFo, KCl, x_call, x_shR, kSR_sh, kSR_fr, x_frR, kFR_fr, kCRb_s, KCR, x_callR, ob_ow, ob_rf, putOb, reob_ow, reob_rf, x_fld, KCh2, KCh1, x_chain, kCh3_b, KM2, x_m1, isStr_s, KNw, x_new, x_noP, x_p, kP_i, KCt2, KCt1, KCt0, x_cutT, kCt3_t, KPb, KPa, x_par2, x_rep, kRp_s, x_wo, KRs, x_raise, ok_and, ok_or, okb_and, okb_or, List.getElem?_cons_zero, List.getElem?_cons_succ, List.set_cons_zero, List.set_cons_succ, List.map_cons, List.map_nil, List.append_nil, List.nil_append, List.cons_append, List.length_cons, List.length_nil, List.replicate_succ, List.replicate_zero, Option.isSome_some, Option.isSome_none, Option.bind_some, Option.bind_none, Nat.reduceAdd, Nat.reduceSub, Nat.reduceMul, Nat.reduceLeDiff, Nat.reduceLT, Nat.reduceBEq, Nat.reduceEqDiff, Nat.beq_refl, if_true, if_false, reduceIte, Bool.false_eq_true, Bool.not_true, Bool.not_false, Bool.not_not, decide_eq_true_eq, decide_true, decide_false, Bool.and_true, Bool.true_and, Bool.and_false, Bool.false_and, Bool.or_true, Bool.true_or, Bool.or_false, Bool.false_or, Bool.not_eq_true', decide_eq_false_iff_not, dLe_i, dLt_i, dGt_i, dGe_i, dAdd_i, dSub_i, gLen_t, gLen_l, gTup_2, gTup_3, gTup_1, gTup_0, gTup_4, isN_n, notN_n, isN_t, notN_t, items_t, items_l, pa_after, h, aft, x_try, kTy_hit hh, kT2_rt, pl_un, hs, odn]
  | some s => simp -implicitDefEqProofs only [x_ixO, KIx, kIx2_l, x_setIx, KSx1, KSx2, kSx3_l, kSx4_s, x_bor, kBo_ok, x_borT, kBT_ok, sh_ow, sh_rf, sh_sh, sh_un, imm_i, imm_b, imm_s, pwFl_rt, pwFl_nx, x_callA, KCA, x_aNo, x_aPl, KPl, x_aKw, KKa, KKb, pa_pl, x_lc, unAt_0, unAt_s, b_ok, b_er, b_no, b_if, lift_s, lift_n, lift_if, unpv_val, unpv_new, unpv_err, unpv_if, pvFl_rt, pvFl_fr, pvFl_nx, pvFl_er, pvFl_if, unpw_val, x_var, rdV_sh, x_c, K1, x_f1, K2b, K2a, x_f2, x_nil, KCb, KCa, x_cons, KStb, KStar, x_star, ksta_s, KN, x_n, x_test, kTe_bl, KAn, x_and, KOr, x_or, KNo, x_not, KIe, x_if, x_andV, kAV_bl, x_orV, kOV_bl, x_notV, kNV_bl, x_sNil, x_seq, kSq_nx, kSq_rt, kSq_bk, kSq_ct, KRt, x_ret, KEx, x_exp, KIs, x_ifS, optR_s, KSe, x_set, KSO, x_setO, put, free_un, free_sh, free_ow, KSh, x_sh, KLs, x_lst, x_nm, x_gnil, x_gcons, x_gtp, x_gls, KAs, x_asg, KQ, x_q, x_iS, kiS_s, x_r1, x_for, KFo, KCl, x_call, x_shR, kSR_sh, kSR_fr, x_frR, kFR_fr, kCRb_s, KCR, x_callR, ob_ow, ob_rf, putOb, reob_ow, reob_rf, x_fld, KCh2, KCh1, x_chain, kCh3_b, KM2, x_m1, isStr_s, KNw, x_new, x_noP, x_p, kP_i, KCt2, KCt1, KCt0, x_cutT, kCt3_t, KPb, KPa, x_par2, x_rep, kRp_s, x_wo, KRs, x_raise, ok_and, ok_or, okb_and, okb_or, List.getElem?_cons_zero, List.getElem?_cons_succ, List.set_cons_zero, List.set_cons_succ, List.map_cons, List.map_nil, List.append_nil, List.nil_append, List.cons_append, List.length_cons, List.length_nil, List.replicate_succ, List.replicate_zero, Option.isSome_some, Option.isSome_none, Option.bind_some, Option.bind_none, Nat.reduceAdd, Nat.reduceSub, Nat.reduceMul, Nat.reduceLeDiff, Nat.reduceLT, Nat.reduceBEq, Nat.reduceEqDiff, Nat.beq_refl, if_true, if_false, reduceIte, Bool.false_eq_true, Bool.not_true, Bool.not_false, Bool.not_not, decide_eq_true_eq, decide_true, decide_false, Bool.and_true, Bool.true_and, Bool.and_false, Bool.false_and, Bool.or_true, Bool.true_or, Bool.or_false, Bool.false_or, Bool.not_eq_true', decide_eq_false_iff_not, dLe_i, dLt_i, dGt_i, dGe_i, dAdd_i, dSub_i, gLen_t, gLen_l, gTup_2, gTup_3, gTup_1, gTup_0, gTup_4, isN_n, notN_n, isN_t, notN_t, items_t, items_l, pa_after, h, aft, x_try, kTy_ok, odn]
theorem doneP_ok {j : Jb} {s : Sg} (v : SgOk j s) (m : Mp) {k : Nat} (hk : k ≤ 4) {room : Int} (h2 : 2 ≤ room) (h5 : room ≤ 5) : pv g__law_done [j.d, s.d, .tup [.str m.s, .int k], .int room] = .val (odn (afterP j s m k room)) := done_of (afterP_ok v m hk h2 h5) (mvP_same m k)
theorem doneN_ok {j : Jb} {s : Sg} (v : SgOk j s) (m : Mn) {room : Int} (h2 : 2 ≤ room) (h5 : room ≤ 5) : pv g__law_done [j.d, s.d, .tup [.str m.s], .int room] = .val (odn (afterN j s m room)) := done_of (afterN_ok v m h2 h5) (mvN_same m)
end LP

end

section
set_option Elab.async false
set_option linter.all false
set_option maxRecDepth 100000
set_option maxHeartbeats 2000000
/-! EG: equal data. -/
namespace DL
open PySem L2
theorem ok_nil : okP 1 (.lst []) (.list []) := ⟨by simp [toPy, toPyA], by simp [PyData.canLay0, PyData.canLayAll0], by simp [PyData.depth, PyData.depthAll]⟩
theorem eq_nil {n : Nat} {ds : List D} (hn : n ≤ 60) (h : ∀ d ∈ ds, ∃ p, okP n d p) : eqD (.lst ds) (.lst []) = some ds.isEmpty := by
  obtain ⟨ps, h1, h2, _⟩ := okP.lst h
  rw [eqD_of h1 ok_nil (by omega) (by omega) (by intro s; simp)]
  cases ds with
  | nil =>
    simp [toPyA] at h2
    subst h2
    rfl
  | cons d r =>
    cases ps with
    | nil =>
      simp only [toPyA] at h2
      split at h2 <;> simp at h2
    | cons p ps => rfl
theorem dEq_nil {n : Nat} {ds : List D} (hn : n ≤ 60) (h : ∀ d ∈ ds, ∃ p, okP n d p) : dEq (.lst ds) (.lst []) = some (.bl ds.isEmpty) := by
  unfold dEq
  rw [eq_nil hn h]
  rfl
theorem dNe_nil {n : Nat} {ds : List D} (hn : n ≤ 60) (h : ∀ d ∈ ds, ∃ p, okP n d p) : dNe (.lst ds) (.lst []) = some (.bl (!ds.isEmpty)) := by
  unfold dNe
  rw [eq_nil hn h]
  rfl
theorem dEq_same {n : Nat} {d : D} (hn : n ≤ 60) (h : ∃ p, okP n d p) : dEq d d = some (.bl true) := by
  obtain ⟨p, h⟩ := h
  unfold dEq
  rw [eqD_same h (by omega)]
  rfl
theorem dNe_same {n : Nat} {d : D} (hn : n ≤ 60) (h : ∃ p, okP n d p) : dNe d d = some (.bl false) := by
  obtain ⟨p, h⟩ := h
  unfold dNe
  rw [eqD_same h (by omega)]
  rfl
theorem okP_tup {n : Nat} {ds : List D} (h : ∀ d ∈ ds, ∃ p, okP n d p) : ∃ p, okP (n + 1) (.tup ds) p := by
  obtain ⟨ps, h, _⟩ := okP.tup h
  exact ⟨_, h⟩
theorem okP_lst {n : Nat} {ds : List D} (h : ∀ d ∈ ds, ∃ p, okP n d p) : ∃ p, okP (n + 1) (.lst ds) p := by
  obtain ⟨ps, h, _⟩ := okP.lst h
  exact ⟨_, h⟩
end DL
namespace DL
open PySem L2
theorem eqvAll_len : ∀ {xs ys : List PyData}, PyData.eqvAll xs ys = true → xs.length = ys.length
  | [], [], _ => rfl
  | x :: xs, y :: ys, h => by
    simp only [PyData.eqvAll, Bool.and_eq_true] at h
    simp [eqvAll_len h.2]
  | [], _ :: _, h => by simp [PyData.eqvAll] at h
  | _ :: _, [], h => by simp [PyData.eqvAll] at h
theorem toPyA_len : ∀ {ds : List D} {ps : List PyData}, toPyA ds = some ps → ps.length = ds.length
  | [], ps, h => by simp [toPyA] at h; subst h; rfl
  | d :: r, ps, h => by
    simp only [toPyA] at h
    split at h
    · rename_i p qs h1 h2
      cases h
      simp [toPyA_len h2]
    · cases h
/-- tuples of unlike lengths are unlike -/
theorem dEq_tlen {n : Nat} {ds es : List D} (hn : n ≤ 60) (h : ∀ d ∈ ds, ∃ p, okP n d p) (h2 : ∀ d ∈ es, ∃ p, okP n d p) (hl : ds.length ≠ es.length) : dEq (.tup ds) (.tup es) = some (.bl false) := by
  obtain ⟨ps, a1, a2⟩ := okP.tup h
  obtain ⟨qs, b1, b2⟩ := okP.tup h2
  unfold dEq
  rw [eqD_of a1 b1 (by omega) (by omega) (by intro s; simp)]
  have : PyData.eqv (.tuple ps) (.tuple qs) = false := by
    cases e : PyData.eqv (.tuple ps) (.tuple qs) with
    | false => rfl
    | true =>
      have := eqvAll_len (show PyData.eqvAll ps qs = true from e)
      rw [toPyA_len a2, toPyA_len b2] at this
      exact absurd this hl
  rw [this]
  rfl
end DL

end

section
set_option Elab.async false
set_option linter.all false
set_option maxRecDepth 100000
set_option maxHeartbeats 2000000
/-! TG: tokens and standings, drawn. -/
namespace LP
open PySem L2 DL LW
theorem take_pw {b0 b1 m : Int} (h : BagOk b0 b1) (hm : 0 < m) (hm2 : m < 1073741824) : ∃ c0 c1 r, pw g__law_take (bagO b0 b1) [.int m] = .val (bagO c0 c1) (.sh (.int r)) ∧ BagOk c0 c1 ∧ 0 ≤ r ∧ r < m := by
  obtain ⟨e, c0, c1, r, h1, h2⟩ := take_ok h hm hm2
  exact ⟨c0, c1, r, pw_of h1, h2⟩
theorem of_pw {b0 b1 : Int} {ds : List D} (h : BagOk b0 b1) (hd : 0 < ds.length) (hd2 : ds.length ≤ 1000) : ∃ c0 c1 d, pw g__law_of (bagO b0 b1) [.lst ds] = .val (bagO c0 c1) (.sh d) ∧ BagOk c0 c1 ∧ d ∈ ds := by
  obtain ⟨e, c0, c1, r, h1, h2⟩ := of_ok h hd hd2
  exact ⟨c0, c1, r, pw_of h1, h2⟩
section
variable (j : Jb)
theorem pt_0 : dIx j.pts (.int 0) = some (.lst (j.rows.map Wd.d)) := ix_l0
theorem pt_1 : dIx j.pts (.int 1) = some (.lst (j.last.map Wd.d)) := ix_l1
theorem pt_2 : dIx j.pts (.int 2) = some (.lst (stL j.once j.rais)) := ix_l2
theorem pt_3 : dIx j.pts (.int 3) = some j.wt.d := ix_l (k := 3) rfl
theorem pt_4 : dIx j.pts (.int 4) = some j.la.d := ix_l (k := 4) rfl
theorem wd_ok (w : Wd) : ∃ p, okP 3 w.d p := by cases w <;> exact okB_ok (by kernel_rfl)
theorem wds_ok {ws : List Wd} : ∀ d ∈ ws.map Wd.d, ∃ p, okP 3 d p := fun d hd => by
  obtain ⟨w, _, rfl⟩ := List.mem_map.mp hd
  exact wd_ok w
theorem emp_dec {ws : List Wd} : (ws.map Wd.d).isEmpty = decide (ws = []) := by cases ws <;> simp
theorem ne_nil : dNe (.lst (j.last.map Wd.d)) (.lst []) = some (.bl (!decide (j.last = []))) := by
  rw [dNe_nil (by decide) wds_ok, emp_dec]
end
section
variable (b e f : Bool)
theorem fa_e : dAdd (.str (flS b false false false)) (.str "e") = some (.str (flS b true false false)) := by cases b <;> kernel_rfl
theorem fa_f : dAdd (.str (flS b e false false)) (.str "f") = some (.str (flS b e true false)) := by cases b <;> cases e <;> kernel_rfl
theorem fa_k : dAdd (.str (flS b e f false)) (.str "k") = some (.str (flS b e f true)) := by cases b <;> cases e <;> cases f <;> kernel_rfl
end
theorem token_pw (j : Jb) (hj : j.Ok 8) {b0 b1 : Int} (h : BagOk b0 b1) : ∃ c0 c1 t, pw g__law_token (bagO b0 b1) [j.pts] = .val (bagO c0 c1) (.sh (Tk.d t)) ∧ BagOk c0 c1 ∧ TkOk (j.rows.map Wd.d) (j.last.map Wd.d) t ∧ t.k = false := by
  have hr := hj.r2
  have hl := hj.l1
  obtain ⟨c0, c1, r1, ht1, hc, hr10, hr11⟩ := take_pw (m := (j.rows.length : Int) + j.last.length + 2) h (by omega) (by omega)
  obtain ⟨d0, d1, r2, ht2, hd, hr20, hr21⟩ := take_pw (m := (j.rows.length : Int) + j.last.length + 2) hc (by omega) (by omega)
  obtain ⟨e0, e1, x, hx, he, hm⟩ := of_pw (ds := [.int 0, .int 0, .int 1, .int ((j.rows.length : Int) + j.last.length), .int ((j.rows.length : Int) + j.last.length + 1), .int r1, .int r2]) hd (by simp) (by simp)
  obtain ⟨p, rfl, hp0, hp1⟩ : ∃ p, x = .int p ∧ 0 ≤ p ∧ p ≤ (j.rows.length : Int) + j.last.length + 1 := by
    simp only [List.mem_cons, List.not_mem_nil, or_false] at hm
    rcases hm with rfl | rfl | rfl | rfl | rfl | rfl | rfl <;> exact ⟨_, rfl, by omega, by omega⟩
  -- b
  obtain ⟨f0, f1, b, hf, hb, sb⟩ : ∃ f0 f1 b, BagOk f0 f1 ∧ (b = true → p ≠ 0) ∧ ∀ P M S : Sl, (fSet 3 (fIf (fAnd (fTest (f2 dGt (fVar 2) (fC (.int 0)))) (fTest (f2 dEq (fShR (fCallR 0 2 g__law_take [] (fCons (fC (.int 3)) fNil))) (fC (.int 0))))) (fC (.str "b")) (fC (.str "")))) [.rf (bagO e0 e1), P, .sh (.int p), .un, M, S] = .ok [.rf (bagO f0 f1), P, .sh (.int p), .sh (.str (flS b false false false)), M, S] .nx := by
    by_cases h0 : 0 < p
    · obtain ⟨f0, f1, r, ht, hf, _, _⟩ := take_pw (m := 3) he (by decide) (by decide)
      by_cases hr : r = 0
      · refine ⟨f0, f1, true, hf, fun _ => by omega, fun P M S => ?_⟩
        simp -implicitDefEqProofs only [x_ixO, KIx, kIx2_l, x_setIx, KSx1, KSx2, kSx3_l, kSx4_s, x_bor, kBo_ok, x_borT, kBT_ok, sh_ow, sh_rf, sh_sh, sh_un, imm_i, imm_b, imm_s, pwFl_rt, pwFl_nx, x_callA, KCA, x_aNo, x_aPl, KPl, x_aKw, KKa, KKb, pa_pl, x_lc, unAt_0, unAt_s, b_ok, b_er, b_no, b_if, lift_s, lift_n, lift_if, unpv_val, unpv_new, unpv_err, unpv_if, pvFl_rt, pvFl_fr, pvFl_nx, pvFl_er, pvFl_if, unpw_val, x_var, rdV_sh, x_c, K1, x_f1, K2b, K2a, x_f2, x_nil, KCb, KCa, x_cons, KStb, KStar, x_star, ksta_s, KN, x_n, x_test, kTe_bl, KAn, x_and, KOr, x_or, KNo, x_not, KIe, x_if, x_andV, kAV_bl, x_orV, kOV_bl, x_notV, kNV_bl, x_sNil, x_seq, kSq_nx, kSq_rt, kSq_bk, kSq_ct, KRt, x_ret, KEx, x_exp, KIs, x_ifS, optR_s, KSe, x_set, KSO, x_setO, put, free_un, free_sh, free_ow, KSh, x_sh, KLs, x_lst, x_nm, x_gnil, x_gcons, x_gtp, x_gls, KAs, x_asg, KQ, x_q, x_iS, kiS_s, x_r1, x_for, KFo, KCl, x_call, x_shR, kSR_sh, kSR_fr, x_frR, kFR_fr, kCRb_s, KCR, x_callR, ob_ow, ob_rf, putOb, reob_ow, reob_rf, x_fld, KCh2, KCh1, x_chain, kCh3_b, KM2, x_m1, isStr_s, KNw, x_new, x_noP, x_p, kP_i, KCt2, KCt1, KCt0, x_cutT, kCt3_t, KPb, KPa, x_par2, x_rep, kRp_s, x_wo, KRs, x_raise, ok_and, ok_or, okb_and, okb_or, List.getElem?_cons_zero, List.getElem?_cons_succ, List.set_cons_zero, List.set_cons_succ, List.map_cons, List.map_nil, List.append_nil, List.nil_append, List.cons_append, List.length_cons, List.length_nil, List.replicate_succ, List.replicate_zero, Option.isSome_some, Option.isSome_none, Option.bind_some, Option.bind_none, Nat.reduceAdd, Nat.reduceSub, Nat.reduceMul, Nat.reduceLeDiff, Nat.reduceLT, Nat.reduceBEq, Nat.reduceEqDiff, Nat.beq_refl, if_true, if_false, reduceIte, Bool.false_eq_true, Bool.not_true, Bool.not_false, Bool.not_not, decide_eq_true_eq, decide_true, decide_false, Bool.and_true, Bool.true_and, Bool.and_false, Bool.false_and, Bool.or_true, Bool.true_or, Bool.or_false, Bool.false_or, Bool.not_eq_true', decide_eq_false_iff_not, dLe_i, dLt_i, dGt_i, dGe_i, dAdd_i, dSub_i, gLen_t, gLen_l, gTup_2, gTup_3, gTup_1, gTup_0, gTup_4, isN_n, notN_n, isN_t, notN_t, items_t, items_l, h0, ht, dEq_i, hr]
        rfl
      · refine ⟨f0, f1, false, hf, (fun z => by cases z), fun P M S => ?_⟩
        simp -implicitDefEqProofs only [x_ixO, KIx, kIx2_l, x_setIx, KSx1, KSx2, kSx3_l, kSx4_s, x_bor, kBo_ok, x_borT, kBT_ok, sh_ow, sh_rf, sh_sh, sh_un, imm_i, imm_b, imm_s, pwFl_rt, pwFl_nx, x_callA, KCA, x_aNo, x_aPl, KPl, x_aKw, KKa, KKb, pa_pl, x_lc, unAt_0, unAt_s, b_ok, b_er, b_no, b_if, lift_s, lift_n, lift_if, unpv_val, unpv_new, unpv_err, unpv_if, pvFl_rt, pvFl_fr, pvFl_nx, pvFl_er, pvFl_if, unpw_val, x_var, rdV_sh, x_c, K1, x_f1, K2b, K2a, x_f2, x_nil, KCb, KCa, x_cons, KStb, KStar, x_star, ksta_s, KN, x_n, x_test, kTe_bl, KAn, x_and, KOr, x_or, KNo, x_not, KIe, x_if, x_andV, kAV_bl, x_orV, kOV_bl, x_notV, kNV_bl, x_sNil, x_seq, kSq_nx, kSq_rt, kSq_bk, kSq_ct, KRt, x_ret, KEx, x_exp, KIs, x_ifS, optR_s, KSe, x_set, KSO, x_setO, put, free_un, free_sh, free_ow, KSh, x_sh, KLs, x_lst, x_nm, x_gnil, x_gcons, x_gtp, x_gls, KAs, x_asg, KQ, x_q, x_iS, kiS_s, x_r1, x_for, KFo, KCl, x_call, x_shR, kSR_sh, kSR_fr, x_frR, kFR_fr, kCRb_s, KCR, x_callR, ob_ow, ob_rf, putOb, reob_ow, reob_rf, x_fld, KCh2, KCh1, x_chain, kCh3_b, KM2, x_m1, isStr_s, KNw, x_new, x_noP, x_p, kP_i, KCt2, KCt1, KCt0, x_cutT, kCt3_t, KPb, KPa, x_par2, x_rep, kRp_s, x_wo, KRs, x_raise, ok_and, ok_or, okb_and, okb_or, List.getElem?_cons_zero, List.getElem?_cons_succ, List.set_cons_zero, List.set_cons_succ, List.map_cons, List.map_nil, List.append_nil, List.nil_append, List.cons_append, List.length_cons, List.length_nil, List.replicate_succ, List.replicate_zero, Option.isSome_some, Option.isSome_none, Option.bind_some, Option.bind_none, Nat.reduceAdd, Nat.reduceSub, Nat.reduceMul, Nat.reduceLeDiff, Nat.reduceLT, Nat.reduceBEq, Nat.reduceEqDiff, Nat.beq_refl, if_true, if_false, reduceIte, Bool.false_eq_true, Bool.not_true, Bool.not_false, Bool.not_not, decide_eq_true_eq, decide_true, decide_false, Bool.and_true, Bool.true_and, Bool.and_false, Bool.false_and, Bool.or_true, Bool.true_or, Bool.or_false, Bool.false_or, Bool.not_eq_true', decide_eq_false_iff_not, dLe_i, dLt_i, dGt_i, dGe_i, dAdd_i, dSub_i, gLen_t, gLen_l, gTup_2, gTup_3, gTup_1, gTup_0, gTup_4, isN_n, notN_n, isN_t, notN_t, items_t, items_l, h0, ht, dEq_i, hr]
        rfl
    · refine ⟨e0, e1, false, he, (fun z => by cases z), fun P M S => ?_⟩
      simp -implicitDefEqProofs only [x_ixO, KIx, kIx2_l, x_setIx, KSx1, KSx2, kSx3_l, kSx4_s, x_bor, kBo_ok, x_borT, kBT_ok, sh_ow, sh_rf, sh_sh, sh_un, imm_i, imm_b, imm_s, pwFl_rt, pwFl_nx, x_callA, KCA, x_aNo, x_aPl, KPl, x_aKw, KKa, KKb, pa_pl, x_lc, unAt_0, unAt_s, b_ok, b_er, b_no, b_if, lift_s, lift_n, lift_if, unpv_val, unpv_new, unpv_err, unpv_if, pvFl_rt, pvFl_fr, pvFl_nx, pvFl_er, pvFl_if, unpw_val, x_var, rdV_sh, x_c, K1, x_f1, K2b, K2a, x_f2, x_nil, KCb, KCa, x_cons, KStb, KStar, x_star, ksta_s, KN, x_n, x_test, kTe_bl, KAn, x_and, KOr, x_or, KNo, x_not, KIe, x_if, x_andV, kAV_bl, x_orV, kOV_bl, x_notV, kNV_bl, x_sNil, x_seq, kSq_nx, kSq_rt, kSq_bk, kSq_ct, KRt, x_ret, KEx, x_exp, KIs, x_ifS, optR_s, KSe, x_set, KSO, x_setO, put, free_un, free_sh, free_ow, KSh, x_sh, KLs, x_lst, x_nm, x_gnil, x_gcons, x_gtp, x_gls, KAs, x_asg, KQ, x_q, x_iS, kiS_s, x_r1, x_for, KFo, KCl, x_call, x_shR, kSR_sh, kSR_fr, x_frR, kFR_fr, kCRb_s, KCR, x_callR, ob_ow, ob_rf, putOb, reob_ow, reob_rf, x_fld, KCh2, KCh1, x_chain, kCh3_b, KM2, x_m1, isStr_s, KNw, x_new, x_noP, x_p, kP_i, KCt2, KCt1, KCt0, x_cutT, kCt3_t, KPb, KPa, x_par2, x_rep, kRp_s, x_wo, KRs, x_raise, ok_and, ok_or, okb_and, okb_or, List.getElem?_cons_zero, List.getElem?_cons_succ, List.set_cons_zero, List.set_cons_succ, List.map_cons, List.map_nil, List.append_nil, List.nil_append, List.cons_append, List.length_cons, List.length_nil, List.replicate_succ, List.replicate_zero, Option.isSome_some, Option.isSome_none, Option.bind_some, Option.bind_none, Nat.reduceAdd, Nat.reduceSub, Nat.reduceMul, Nat.reduceLeDiff, Nat.reduceLT, Nat.reduceBEq, Nat.reduceEqDiff, Nat.beq_refl, if_true, if_false, reduceIte, Bool.false_eq_true, Bool.not_true, Bool.not_false, Bool.not_not, decide_eq_true_eq, decide_true, decide_false, Bool.and_true, Bool.true_and, Bool.and_false, Bool.false_and, Bool.or_true, Bool.true_or, Bool.or_false, Bool.false_or, Bool.not_eq_true', decide_eq_false_iff_not, dLe_i, dLt_i, dGt_i, dGe_i, dAdd_i, dSub_i, gLen_t, gLen_l, gTup_2, gTup_3, gTup_1, gTup_0, gTup_4, isN_n, notN_n, isN_t, notN_t, items_t, items_l, h0]
      rfl
  -- e
  obtain ⟨g0, g1, e, hg, se⟩ : ∃ g0 g1 e, BagOk g0 g1 ∧ ∀ P M S : Sl, (fIfS (fTest (f2 dEq (fShR (fCallR 0 2 g__law_take [] (fCons (fC (.int 3)) fNil))) (fC (.int 0)))) (fSet 3 (f2 dAdd (fVar 3) (fC (.str "e")))) fsNil) [.rf (bagO f0 f1), P, .sh (.int p), .sh (.str (flS b false false false)), M, S] = .ok [.rf (bagO g0 g1), P, .sh (.int p), .sh (.str (flS b e false false)), M, S] .nx := by
    obtain ⟨g0, g1, r, ht, hg, _, _⟩ := take_pw (m := 3) hf (by decide) (by decide)
    by_cases hr : r = 0
    · refine ⟨g0, g1, true, hg, fun P M S => ?_⟩
      simp -implicitDefEqProofs only [x_ixO, KIx, kIx2_l, x_setIx, KSx1, KSx2, kSx3_l, kSx4_s, x_bor, kBo_ok, x_borT, kBT_ok, sh_ow, sh_rf, sh_sh, sh_un, imm_i, imm_b, imm_s, pwFl_rt, pwFl_nx, x_callA, KCA, x_aNo, x_aPl, KPl, x_aKw, KKa, KKb, pa_pl, x_lc, unAt_0, unAt_s, b_ok, b_er, b_no, b_if, lift_s, lift_n, lift_if, unpv_val, unpv_new, unpv_err, unpv_if, pvFl_rt, pvFl_fr, pvFl_nx, pvFl_er, pvFl_if, unpw_val, x_var, rdV_sh, x_c, K1, x_f1, K2b, K2a, x_f2, x_nil, KCb, KCa, x_cons, KStb, KStar, x_star, ksta_s, KN, x_n, x_test, kTe_bl, KAn, x_and, KOr, x_or, KNo, x_not, KIe, x_if, x_andV, kAV_bl, x_orV, kOV_bl, x_notV, kNV_bl, x_sNil, x_seq, kSq_nx, kSq_rt, kSq_bk, kSq_ct, KRt, x_ret, KEx, x_exp, KIs, x_ifS, optR_s, KSe, x_set, KSO, x_setO, put, free_un, free_sh, free_ow, KSh, x_sh, KLs, x_lst, x_nm, x_gnil, x_gcons, x_gtp, x_gls, KAs, x_asg, KQ, x_q, x_iS, kiS_s, x_r1, x_for, KFo, KCl, x_call, x_shR, kSR_sh, kSR_fr, x_frR, kFR_fr, kCRb_s, KCR, x_callR, ob_ow, ob_rf, putOb, reob_ow, reob_rf, x_fld, KCh2, KCh1, x_chain, kCh3_b, KM2, x_m1, isStr_s, KNw, x_new, x_noP, x_p, kP_i, KCt2, KCt1, KCt0, x_cutT, kCt3_t, KPb, KPa, x_par2, x_rep, kRp_s, x_wo, KRs, x_raise, ok_and, ok_or, okb_and, okb_or, List.getElem?_cons_zero, List.getElem?_cons_succ, List.set_cons_zero, List.set_cons_succ, List.map_cons, List.map_nil, List.append_nil, List.nil_append, List.cons_append, List.length_cons, List.length_nil, List.replicate_succ, List.replicate_zero, Option.isSome_some, Option.isSome_none, Option.bind_some, Option.bind_none, Nat.reduceAdd, Nat.reduceSub, Nat.reduceMul, Nat.reduceLeDiff, Nat.reduceLT, Nat.reduceBEq, Nat.reduceEqDiff, Nat.beq_refl, if_true, if_false, reduceIte, Bool.false_eq_true, Bool.not_true, Bool.not_false, Bool.not_not, decide_eq_true_eq, decide_true, decide_false, Bool.and_true, Bool.true_and, Bool.and_false, Bool.false_and, Bool.or_true, Bool.true_or, Bool.or_false, Bool.false_or, Bool.not_eq_true', decide_eq_false_iff_not, dLe_i, dLt_i, dGt_i, dGe_i, dAdd_i, dSub_i, gLen_t, gLen_l, gTup_2, gTup_3, gTup_1, gTup_0, gTup_4, isN_n, notN_n, isN_t, notN_t, items_t, items_l, ht, dEq_i, hr, fa_e]
    · refine ⟨g0, g1, false, hg, fun P M S => ?_⟩
      simp -implicitDefEqProofs only [x_ixO, KIx, kIx2_l, x_setIx, KSx1, KSx2, kSx3_l, kSx4_s, x_bor, kBo_ok, x_borT, kBT_ok, sh_ow, sh_rf, sh_sh, sh_un, imm_i, imm_b, imm_s, pwFl_rt, pwFl_nx, x_callA, KCA, x_aNo, x_aPl, KPl, x_aKw, KKa, KKb, pa_pl, x_lc, unAt_0, unAt_s, b_ok, b_er, b_no, b_if, lift_s, lift_n, lift_if, unpv_val, unpv_new, unpv_err, unpv_if, pvFl_rt, pvFl_fr, pvFl_nx, pvFl_er, pvFl_if, unpw_val, x_var, rdV_sh, x_c, K1, x_f1, K2b, K2a, x_f2, x_nil, KCb, KCa, x_cons, KStb, KStar, x_star, ksta_s, KN, x_n, x_test, kTe_bl, KAn, x_and, KOr, x_or, KNo, x_not, KIe, x_if, x_andV, kAV_bl, x_orV, kOV_bl, x_notV, kNV_bl, x_sNil, x_seq, kSq_nx, kSq_rt, kSq_bk, kSq_ct, KRt, x_ret, KEx, x_exp, KIs, x_ifS, optR_s, KSe, x_set, KSO, x_setO, put, free_un, free_sh, free_ow, KSh, x_sh, KLs, x_lst, x_nm, x_gnil, x_gcons, x_gtp, x_gls, KAs, x_asg, KQ, x_q, x_iS, kiS_s, x_r1, x_for, KFo, KCl, x_call, x_shR, kSR_sh, kSR_fr, x_frR, kFR_fr, kCRb_s, KCR, x_callR, ob_ow, ob_rf, putOb, reob_ow, reob_rf, x_fld, KCh2, KCh1, x_chain, kCh3_b, KM2, x_m1, isStr_s, KNw, x_new, x_noP, x_p, kP_i, KCt2, KCt1, KCt0, x_cutT, kCt3_t, KPb, KPa, x_par2, x_rep, kRp_s, x_wo, KRs, x_raise, ok_and, ok_or, okb_and, okb_or, List.getElem?_cons_zero, List.getElem?_cons_succ, List.set_cons_zero, List.set_cons_succ, List.map_cons, List.map_nil, List.append_nil, List.nil_append, List.cons_append, List.length_cons, List.length_nil, List.replicate_succ, List.replicate_zero, Option.isSome_some, Option.isSome_none, Option.bind_some, Option.bind_none, Nat.reduceAdd, Nat.reduceSub, Nat.reduceMul, Nat.reduceLeDiff, Nat.reduceLT, Nat.reduceBEq, Nat.reduceEqDiff, Nat.beq_refl, if_true, if_false, reduceIte, Bool.false_eq_true, Bool.not_true, Bool.not_false, Bool.not_not, decide_eq_true_eq, decide_true, decide_false, Bool.and_true, Bool.true_and, Bool.and_false, Bool.false_and, Bool.or_true, Bool.true_or, Bool.or_false, Bool.false_or, Bool.not_eq_true', decide_eq_false_iff_not, dLe_i, dLt_i, dGt_i, dGe_i, dAdd_i, dSub_i, gLen_t, gLen_l, gTup_2, gTup_3, gTup_1, gTup_0, gTup_4, isN_n, notN_n, isN_t, notN_t, items_t, items_l, ht, dEq_i, hr]
  -- f
  obtain ⟨k0, k1, f, hk, hf2, sf⟩ : ∃ k0 k1 f, BagOk k0 k1 ∧ (f = true → (j.rows.length : Int) < p ∧ 0 < j.last.length) ∧ (fIfS (fAnd (fTest (f2 dGt (fVar 2) (fVar 5))) (fAnd (fTest (f2 dNe (f2 dIx (fVar 1) (fC (.int 1))) (fN gLst fNil))) (fTest (f2 dEq (fShR (fCallR 0 2 g__law_take [] (fCons (fC (.int 2)) fNil))) (fC (.int 0)))))) (fSet 3 (f2 dAdd (fVar 3) (fC (.str "f")))) fsNil) [.rf (bagO g0 g1), .sh j.pts, .sh (.int p), .sh (.str (flS b e false false)), .sh (.int ((j.rows.length : Int) + j.last.length)), .sh (.int j.rows.length)] = .ok [.rf (bagO k0 k1), .sh j.pts, .sh (.int p), .sh (.str (flS b e f false)), .sh (.int ((j.rows.length : Int) + j.last.length)), .sh (.int j.rows.length)] .nx := by
    by_cases h1 : (j.rows.length : Int) < p
    · by_cases h2 : j.last = []
      · refine ⟨g0, g1, false, hg, (fun z => by cases z), ?_⟩
        simp -implicitDefEqProofs only [x_ixO, KIx, kIx2_l, x_setIx, KSx1, KSx2, kSx3_l, kSx4_s, x_bor, kBo_ok, x_borT, kBT_ok, sh_ow, sh_rf, sh_sh, sh_un, imm_i, imm_b, imm_s, pwFl_rt, pwFl_nx, x_callA, KCA, x_aNo, x_aPl, KPl, x_aKw, KKa, KKb, pa_pl, x_lc, unAt_0, unAt_s, b_ok, b_er, b_no, b_if, lift_s, lift_n, lift_if, unpv_val, unpv_new, unpv_err, unpv_if, pvFl_rt, pvFl_fr, pvFl_nx, pvFl_er, pvFl_if, unpw_val, x_var, rdV_sh, x_c, K1, x_f1, K2b, K2a, x_f2, x_nil, KCb, KCa, x_cons, KStb, KStar, x_star, ksta_s, KN, x_n, x_test, kTe_bl, KAn, x_and, KOr, x_or, KNo, x_not, KIe, x_if, x_andV, kAV_bl, x_orV, kOV_bl, x_notV, kNV_bl, x_sNil, x_seq, kSq_nx, kSq_rt, kSq_bk, kSq_ct, KRt, x_ret, KEx, x_exp, KIs, x_ifS, optR_s, KSe, x_set, KSO, x_setO, put, free_un, free_sh, free_ow, KSh, x_sh, KLs, x_lst, x_nm, x_gnil, x_gcons, x_gtp, x_gls, KAs, x_asg, KQ, x_q, x_iS, kiS_s, x_r1, x_for, KFo, KCl, x_call, x_shR, kSR_sh, kSR_fr, x_frR, kFR_fr, kCRb_s, KCR, x_callR, ob_ow, ob_rf, putOb, reob_ow, reob_rf, x_fld, KCh2, KCh1, x_chain, kCh3_b, KM2, x_m1, isStr_s, KNw, x_new, x_noP, x_p, kP_i, KCt2, KCt1, KCt0, x_cutT, kCt3_t, KPb, KPa, x_par2, x_rep, kRp_s, x_wo, KRs, x_raise, ok_and, ok_or, okb_and, okb_or, List.getElem?_cons_zero, List.getElem?_cons_succ, List.set_cons_zero, List.set_cons_succ, List.map_cons, List.map_nil, List.append_nil, List.nil_append, List.cons_append, List.length_cons, List.length_nil, List.replicate_succ, List.replicate_zero, Option.isSome_some, Option.isSome_none, Option.bind_some, Option.bind_none, Nat.reduceAdd, Nat.reduceSub, Nat.reduceMul, Nat.reduceLeDiff, Nat.reduceLT, Nat.reduceBEq, Nat.reduceEqDiff, Nat.beq_refl, if_true, if_false, reduceIte, Bool.false_eq_true, Bool.not_true, Bool.not_false, Bool.not_not, decide_eq_true_eq, decide_true, decide_false, Bool.and_true, Bool.true_and, Bool.and_false, Bool.false_and, Bool.or_true, Bool.true_or, Bool.or_false, Bool.false_or, Bool.not_eq_true', decide_eq_false_iff_not, dLe_i, dLt_i, dGt_i, dGe_i, dAdd_i, dSub_i, gLen_t, gLen_l, gTup_2, gTup_3, gTup_1, gTup_0, gTup_4, isN_n, notN_n, isN_t, notN_t, items_t, items_l, h1, pt_1, ne_nil j, lst_0, decide_eq_true h2]
      · obtain ⟨k0, k1, r, ht, hk, _, _⟩ := take_pw (m := 2) hg (by decide) (by decide)
        by_cases hr : r = 0
        · refine ⟨k0, k1, true, hk, fun _ => ⟨h1, List.length_pos_iff.mpr h2⟩, ?_⟩
          simp -implicitDefEqProofs only [x_ixO, KIx, kIx2_l, x_setIx, KSx1, KSx2, kSx3_l, kSx4_s, x_bor, kBo_ok, x_borT, kBT_ok, sh_ow, sh_rf, sh_sh, sh_un, imm_i, imm_b, imm_s, pwFl_rt, pwFl_nx, x_callA, KCA, x_aNo, x_aPl, KPl, x_aKw, KKa, KKb, pa_pl, x_lc, unAt_0, unAt_s, b_ok, b_er, b_no, b_if, lift_s, lift_n, lift_if, unpv_val, unpv_new, unpv_err, unpv_if, pvFl_rt, pvFl_fr, pvFl_nx, pvFl_er, pvFl_if, unpw_val, x_var, rdV_sh, x_c, K1, x_f1, K2b, K2a, x_f2, x_nil, KCb, KCa, x_cons, KStb, KStar, x_star, ksta_s, KN, x_n, x_test, kTe_bl, KAn, x_and, KOr, x_or, KNo, x_not, KIe, x_if, x_andV, kAV_bl, x_orV, kOV_bl, x_notV, kNV_bl, x_sNil, x_seq, kSq_nx, kSq_rt, kSq_bk, kSq_ct, KRt, x_ret, KEx, x_exp, KIs, x_ifS, optR_s, KSe, x_set, KSO, x_setO, put, free_un, free_sh, free_ow, KSh, x_sh, KLs, x_lst, x_nm, x_gnil, x_gcons, x_gtp, x_gls, KAs, x_asg, KQ, x_q, x_iS, kiS_s, x_r1, x_for, KFo, KCl, x_call, x_shR, kSR_sh, kSR_fr, x_frR, kFR_fr, kCRb_s, KCR, x_callR, ob_ow, ob_rf, putOb, reob_ow, reob_rf, x_fld, KCh2, KCh1, x_chain, kCh3_b, KM2, x_m1, isStr_s, KNw, x_new, x_noP, x_p, kP_i, KCt2, KCt1, KCt0, x_cutT, kCt3_t, KPb, KPa, x_par2, x_rep, kRp_s, x_wo, KRs, x_raise, ok_and, ok_or, okb_and, okb_or, List.getElem?_cons_zero, List.getElem?_cons_succ, List.set_cons_zero, List.set_cons_succ, List.map_cons, List.map_nil, List.append_nil, List.nil_append, List.cons_append, List.length_cons, List.length_nil, List.replicate_succ, List.replicate_zero, Option.isSome_some, Option.isSome_none, Option.bind_some, Option.bind_none, Nat.reduceAdd, Nat.reduceSub, Nat.reduceMul, Nat.reduceLeDiff, Nat.reduceLT, Nat.reduceBEq, Nat.reduceEqDiff, Nat.beq_refl, if_true, if_false, reduceIte, Bool.false_eq_true, Bool.not_true, Bool.not_false, Bool.not_not, decide_eq_true_eq, decide_true, decide_false, Bool.and_true, Bool.true_and, Bool.and_false, Bool.false_and, Bool.or_true, Bool.true_or, Bool.or_false, Bool.false_or, Bool.not_eq_true', decide_eq_false_iff_not, dLe_i, dLt_i, dGt_i, dGe_i, dAdd_i, dSub_i, gLen_t, gLen_l, gTup_2, gTup_3, gTup_1, gTup_0, gTup_4, isN_n, notN_n, isN_t, notN_t, items_t, items_l, h1, pt_1, ne_nil j, lst_0, decide_eq_false h2, ht, dEq_i, hr, fa_f]
        · refine ⟨k0, k1, false, hk, (fun z => by cases z), ?_⟩
          simp -implicitDefEqProofs only [x_ixO, KIx, kIx2_l, x_setIx, KSx1, KSx2, kSx3_l, kSx4_s, x_bor, kBo_ok, x_borT, kBT_ok, sh_ow, sh_rf, sh_sh, sh_un, imm_i, imm_b, imm_s, pwFl_rt, pwFl_nx, x_callA, KCA, x_aNo, x_aPl, KPl, x_aKw, KKa, KKb, pa_pl, x_lc, unAt_0, unAt_s, b_ok, b_er, b_no, b_if, lift_s, lift_n, lift_if, unpv_val, unpv_new, unpv_err, unpv_if, pvFl_rt, pvFl_fr, pvFl_nx, pvFl_er, pvFl_if, unpw_val, x_var, rdV_sh, x_c, K1, x_f1, K2b, K2a, x_f2, x_nil, KCb, KCa, x_cons, KStb, KStar, x_star, ksta_s, KN, x_n, x_test, kTe_bl, KAn, x_and, KOr, x_or, KNo, x_not, KIe, x_if, x_andV, kAV_bl, x_orV, kOV_bl, x_notV, kNV_bl, x_sNil, x_seq, kSq_nx, kSq_rt, kSq_bk, kSq_ct, KRt, x_ret, KEx, x_exp, KIs, x_ifS, optR_s, KSe, x_set, KSO, x_setO, put, free_un, free_sh, free_ow, KSh, x_sh, KLs, x_lst, x_nm, x_gnil, x_gcons, x_gtp, x_gls, KAs, x_asg, KQ, x_q, x_iS, kiS_s, x_r1, x_for, KFo, KCl, x_call, x_shR, kSR_sh, kSR_fr, x_frR, kFR_fr, kCRb_s, KCR, x_callR, ob_ow, ob_rf, putOb, reob_ow, reob_rf, x_fld, KCh2, KCh1, x_chain, kCh3_b, KM2, x_m1, isStr_s, KNw, x_new, x_noP, x_p, kP_i, KCt2, KCt1, KCt0, x_cutT, kCt3_t, KPb, KPa, x_par2, x_rep, kRp_s, x_wo, KRs, x_raise, ok_and, ok_or, okb_and, okb_or, List.getElem?_cons_zero, List.getElem?_cons_succ, List.set_cons_zero, List.set_cons_succ, List.map_cons, List.map_nil, List.append_nil, List.nil_append, List.cons_append, List.length_cons, List.length_nil, List.replicate_succ, List.replicate_zero, Option.isSome_some, Option.isSome_none, Option.bind_some, Option.bind_none, Nat.reduceAdd, Nat.reduceSub, Nat.reduceMul, Nat.reduceLeDiff, Nat.reduceLT, Nat.reduceBEq, Nat.reduceEqDiff, Nat.beq_refl, if_true, if_false, reduceIte, Bool.false_eq_true, Bool.not_true, Bool.not_false, Bool.not_not, decide_eq_true_eq, decide_true, decide_false, Bool.and_true, Bool.true_and, Bool.and_false, Bool.false_and, Bool.or_true, Bool.true_or, Bool.or_false, Bool.false_or, Bool.not_eq_true', decide_eq_false_iff_not, dLe_i, dLt_i, dGt_i, dGe_i, dAdd_i, dSub_i, gLen_t, gLen_l, gTup_2, gTup_3, gTup_1, gTup_0, gTup_4, isN_n, notN_n, isN_t, notN_t, items_t, items_l, h1, pt_1, ne_nil j, lst_0, decide_eq_false h2, ht, dEq_i, hr]
    · refine ⟨g0, g1, false, hg, (fun z => by cases z), ?_⟩
      simp -implicitDefEqProofs only [x_ixO, KIx, kIx2_l, x_setIx, KSx1, KSx2, kSx3_l, kSx4_s, x_bor, kBo_ok, x_borT, kBT_ok, sh_ow, sh_rf, sh_sh, sh_un, imm_i, imm_b, imm_s, pwFl_rt, pwFl_nx, x_callA, KCA, x_aNo, x_aPl, KPl, x_aKw, KKa, KKb, pa_pl, x_lc, unAt_0, unAt_s, b_ok, b_er, b_no, b_if, lift_s, lift_n, lift_if, unpv_val, unpv_new, unpv_err, unpv_if, pvFl_rt, pvFl_fr, pvFl_nx, pvFl_er, pvFl_if, unpw_val, x_var, rdV_sh, x_c, K1, x_f1, K2b, K2a, x_f2, x_nil, KCb, KCa, x_cons, KStb, KStar, x_star, ksta_s, KN, x_n, x_test, kTe_bl, KAn, x_and, KOr, x_or, KNo, x_not, KIe, x_if, x_andV, kAV_bl, x_orV, kOV_bl, x_notV, kNV_bl, x_sNil, x_seq, kSq_nx, kSq_rt, kSq_bk, kSq_ct, KRt, x_ret, KEx, x_exp, KIs, x_ifS, optR_s, KSe, x_set, KSO, x_setO, put, free_un, free_sh, free_ow, KSh, x_sh, KLs, x_lst, x_nm, x_gnil, x_gcons, x_gtp, x_gls, KAs, x_asg, KQ, x_q, x_iS, kiS_s, x_r1, x_for, KFo, KCl, x_call, x_shR, kSR_sh, kSR_fr, x_frR, kFR_fr, kCRb_s, KCR, x_callR, ob_ow, ob_rf, putOb, reob_ow, reob_rf, x_fld, KCh2, KCh1, x_chain, kCh3_b, KM2, x_m1, isStr_s, KNw, x_new, x_noP, x_p, kP_i, KCt2, KCt1, KCt0, x_cutT, kCt3_t, KPb, KPa, x_par2, x_rep, kRp_s, x_wo, KRs, x_raise, ok_and, ok_or, okb_and, okb_or, List.getElem?_cons_zero, List.getElem?_cons_succ, List.set_cons_zero, List.set_cons_succ, List.map_cons, List.map_nil, List.append_nil, List.nil_append, List.cons_append, List.length_cons, List.length_nil, List.replicate_succ, List.replicate_zero, Option.isSome_some, Option.isSome_none, Option.bind_some, Option.bind_none, Nat.reduceAdd, Nat.reduceSub, Nat.reduceMul, Nat.reduceLeDiff, Nat.reduceLT, Nat.reduceBEq, Nat.reduceEqDiff, Nat.beq_refl, if_true, if_false, reduceIte, Bool.false_eq_true, Bool.not_true, Bool.not_false, Bool.not_not, decide_eq_true_eq, decide_true, decide_false, Bool.and_true, Bool.true_and, Bool.and_false, Bool.false_and, Bool.or_true, Bool.true_or, Bool.or_false, Bool.false_or, Bool.not_eq_true', decide_eq_false_iff_not, dLe_i, dLt_i, dGt_i, dGe_i, dAdd_i, dSub_i, gLen_t, gLen_l, gTup_2, gTup_3, gTup_1, gTup_0, gTup_4, isN_n, notN_n, isN_t, notN_t, items_t, items_l, h1]
  refine ⟨k0, k1, ⟨p, b, e, f, false⟩, ?_, hk, ⟨hp0, by simp only [List.length_append, List.length_map]; omega, hb, by simpa using hf2⟩, rfl⟩
  unfold g__law_token
  rw [pw_gOf]
  unfold f__law_token
  have l7 : ∀ a b c d e f g : D, DL.gLst [a, b, c, d, e, f, g] = some (.lst [a, b, c, d, e, f, g]) := fun _ _ _ _ _ _ _ => rfl
  simp -implicitDefEqProofs only [x_ixO, KIx, kIx2_l, x_setIx, KSx1, KSx2, kSx3_l, kSx4_s, x_bor, kBo_ok, x_borT, kBT_ok, sh_ow, sh_rf, sh_sh, sh_un, imm_i, imm_b, imm_s, pwFl_rt, pwFl_nx, x_callA, KCA, x_aNo, x_aPl, KPl, x_aKw, KKa, KKb, pa_pl, x_lc, unAt_0, unAt_s, b_ok, b_er, b_no, b_if, lift_s, lift_n, lift_if, unpv_val, unpv_new, unpv_err, unpv_if, pvFl_rt, pvFl_fr, pvFl_nx, pvFl_er, pvFl_if, unpw_val, x_var, rdV_sh, x_c, K1, x_f1, K2b, K2a, x_f2, x_nil, KCb, KCa, x_cons, KStb, KStar, x_star, ksta_s, KN, x_n, x_test, kTe_bl, KAn, x_and, KOr, x_or, KNo, x_not, KIe, x_if, x_andV, kAV_bl, x_orV, kOV_bl, x_notV, kNV_bl, x_sNil, x_seq, kSq_nx, kSq_rt, kSq_bk, kSq_ct, KRt, x_ret, KEx, x_exp, KIs, x_ifS, optR_s, KSe, x_set, KSO, x_setO, put, free_un, free_sh, free_ow, KSh, x_sh, KLs, x_lst, x_nm, x_gnil, x_gcons, x_gtp, x_gls, KAs, x_asg, KQ, x_q, x_iS, kiS_s, x_r1, x_for, KFo, KCl, x_call, x_shR, kSR_sh, kSR_fr, x_frR, kFR_fr, kCRb_s, KCR, x_callR, ob_ow, ob_rf, putOb, reob_ow, reob_rf, x_fld, KCh2, KCh1, x_chain, kCh3_b, KM2, x_m1, isStr_s, KNw, x_new, x_noP, x_p, kP_i, KCt2, KCt1, KCt0, x_cutT, kCt3_t, KPb, KPa, x_par2, x_rep, kRp_s, x_wo, KRs, x_raise, ok_and, ok_or, okb_and, okb_or, List.getElem?_cons_zero, List.getElem?_cons_succ, List.set_cons_zero, List.set_cons_succ, List.map_cons, List.map_nil, List.append_nil, List.nil_append, List.cons_append, List.length_cons, List.length_nil, List.replicate_succ, List.replicate_zero, Option.isSome_some, Option.isSome_none, Option.bind_some, Option.bind_none, Nat.reduceAdd, Nat.reduceSub, Nat.reduceMul, Nat.reduceLeDiff, Nat.reduceLT, Nat.reduceBEq, Nat.reduceEqDiff, Nat.beq_refl, if_true, if_false, reduceIte, Bool.false_eq_true, Bool.not_true, Bool.not_false, Bool.not_not, decide_eq_true_eq, decide_true, decide_false, Bool.and_true, Bool.true_and, Bool.and_false, Bool.false_and, Bool.or_true, Bool.true_or, Bool.or_false, Bool.false_or, Bool.not_eq_true', decide_eq_false_iff_not, dLe_i, dLt_i, dGt_i, dGe_i, dAdd_i, dSub_i, gLen_t, gLen_l, gTup_2, gTup_3, gTup_1, gTup_0, gTup_4, isN_n, notN_n, isN_t, notN_t, items_t, items_l, pt_0, pt_1, List.length_map, ht1, ht2, l7, hx, ↓sb, ↓se, ↓sf]
  rfl
end LP

end

section
set_option Elab.async false
set_option linter.all false
set_option maxRecDepth 100000
set_option maxHeartbeats 2000000
/-! TH: standings, drawn. -/
namespace LP
open PySem L2 DL LW
theorem insB_perm {α : Type} {le : α → α → Bool} (x : α) : ∀ l : List α, (insB le x l).Perm (x :: l)
  | [] => List.Perm.refl _
  | y :: r => by
    show (if le x y = true then x :: y :: r else y :: insB le x r).Perm _
    split
    · exact List.Perm.refl _
    · exact ((insB_perm x r).cons y).trans (List.Perm.swap x y r)
theorem isort_perm {α : Type} {le : α → α → Bool} : ∀ l : List α, (isort le l).Perm l
  | [] => List.Perm.refl _
  | x :: r => (insB_perm x (isort le r)).trans ((isort_perm r).cons x)
theorem nok_nil {ts : List Tk} (h : ∀ t ∈ ts, t.k = false) : ts.filter (·.k) = [] := List.filter_eq_nil_iff.mpr fun t ht => by simp [h t ht]
theorem one_k {ts : List Tk} (h : ∀ t ∈ ts, t.k = false) {i : Nat} {a : Tk} (hi : i < ts.length) (ha : a.k = true) : ((ts.set i a).filter (·.k)).length = 1 := by
  rw [List.set_eq_take_append_cons_drop, if_pos hi, List.filter_append, nok_nil fun t ht => h t (List.mem_of_mem_take ht), List.filter_cons, if_pos ha, nok_nil fun t ht => h t (List.mem_of_mem_drop ht)]
  rfl
theorem sort_tk {ts : List Tk} (h : ts.length ≤ 900) : gSort [.lst (ts.map Tk.d)] = some ((isort leT ts).map Tk.d) := by
  rw [← isort_map]
  exact sort_toks rfl (fun d hd => by obtain ⟨t, _, rfl⟩ := List.mem_map.mp hd; exact t.isTok) (by simp; omega)
theorem imm_tks : ∀ ts : List Tk, immA (ts.map Tk.d) = true
  | [] => by simp [immA]
  | t :: r => by
    show (imm t.d && immA (r.map Tk.d)) = true
    rw [imm_tks r]
    rfl
theorem imm_tt (ts : List Tk) : imm (.tup (ts.map Tk.d)) = true := imm_tks ts
theorem tks_ok {ts : List Tk} : ∀ d ∈ ts.map Tk.d, ∃ p, okP 3 d p := fun d hd => by
  obtain ⟨t, _, rfl⟩ := List.mem_map.mp hd
  exact tk_okP t
theorem emp_tk {ts : List Tk} : (ts.map Tk.d).isEmpty = ts.isEmpty := by cases ts <;> rfl
/-- right tokens without the key -/
def Raw (j : Jb) (ts : List Tk) : Prop := ∀ t ∈ ts, TkOk (j.rows.map Wd.d) (j.last.map Wd.d) t ∧ t.k = false
theorem raw_of {j : Jb} : ∀ {xs : List D}, (∀ x ∈ xs, ∃ t, x = Tk.d t ∧ TkOk (j.rows.map Wd.d) (j.last.map Wd.d) t ∧ t.k = false) → ∃ ts, xs = ts.map Tk.d ∧ Raw j ts
  | [], _ => ⟨[], rfl, fun _ h => by cases h⟩
  | x :: r, h => by
    obtain ⟨t, rfl, ht⟩ := h x List.mem_cons_self
    obtain ⟨ts, rfl, hr⟩ := raw_of (xs := r) fun y hy => h y (List.mem_cons_of_mem _ hy)
    exact ⟨t :: ts, rfl, fun u hu => by
      rcases List.mem_cons.mp hu with rfl | hu
      · exact ht
      · exact hr u hu⟩
theorem st_draw (j : Jb) (hj : j.Ok 8) {b0 b1 : Int} (h : BagOk b0 b1) {m : Nat} (hm : m ≤ 5) {N : D} : ∃ c0 c1 ts, KLc [6] (gNm 6) fYes f__law_standing_e1 [.rf (bagO b0 b1), .sh j.pts, .sh N, .un, .un, .un, .un] (rangeD 0 m) = .ok [.rf (bagO c0 c1), .sh j.pts, .sh N, .un, .un, .un, .un] (ts.map Tk.d) ∧ BagOk c0 c1 ∧ Raw j ts ∧ ts.length = m := by
  obtain ⟨e', xs, q1, q2, q3, d0, d1, hd, rfl⟩ := loopC_draw (vs := [6]) (g := gNm 6) (fe := f__law_standing_e1) (I := fun e => ∃ d0 d1, BagOk d0 d1 ∧ e = [.rf (bagO d0 d1), .sh j.pts, .sh N, .un, .un, .un, .un]) (Pd := fun x => ∃ t, x = Tk.d t ∧ TkOk (j.rows.map Wd.d) (j.last.map Wd.d) t ∧ t.k = false) (by
      rintro d e ⟨d0, d1, hd, rfl⟩
      obtain ⟨f0, f1, t, ht, hf, hok⟩ := token_pw j hj hd
      refine ⟨[.rf (bagO d0 d1), .sh j.pts, .sh N, .un, .un, .un, .sh d], [.rf (bagO f0 f1), .sh j.pts, .sh N, .un, .un, .un, .sh d], t.d, rfl, ?_, ⟨t, rfl, hok⟩, f0, f1, hf, rfl⟩
      unfold f__law_standing_e1
      simp -implicitDefEqProofs only [x_ixO, KIx, kIx2_l, x_setIx, KSx1, KSx2, kSx3_l, kSx4_s, x_bor, kBo_ok, x_borT, kBT_ok, sh_ow, sh_rf, sh_sh, sh_un, imm_i, imm_b, imm_s, pwFl_rt, pwFl_nx, x_callA, KCA, x_aNo, x_aPl, KPl, x_aKw, KKa, KKb, pa_pl, x_lc, unAt_0, unAt_s, b_ok, b_er, b_no, b_if, lift_s, lift_n, lift_if, unpv_val, unpv_new, unpv_err, unpv_if, pvFl_rt, pvFl_fr, pvFl_nx, pvFl_er, pvFl_if, unpw_val, x_var, rdV_sh, x_c, K1, x_f1, K2b, K2a, x_f2, x_nil, KCb, KCa, x_cons, KStb, KStar, x_star, ksta_s, KN, x_n, x_test, kTe_bl, KAn, x_and, KOr, x_or, KNo, x_not, KIe, x_if, x_andV, kAV_bl, x_orV, kOV_bl, x_notV, kNV_bl, x_sNil, x_seq, kSq_nx, kSq_rt, kSq_bk, kSq_ct, KRt, x_ret, KEx, x_exp, KIs, x_ifS, optR_s, KSe, x_set, KSO, x_setO, put, free_un, free_sh, free_ow, KSh, x_sh, KLs, x_lst, x_nm, x_gnil, x_gcons, x_gtp, x_gls, KAs, x_asg, KQ, x_q, x_iS, kiS_s, x_r1, x_for, KFo, KCl, x_call, x_shR, kSR_sh, kSR_fr, x_frR, kFR_fr, kCRb_s, KCR, x_callR, ob_ow, ob_rf, putOb, reob_ow, reob_rf, x_fld, KCh2, KCh1, x_chain, kCh3_b, KM2, x_m1, isStr_s, KNw, x_new, x_noP, x_p, kP_i, KCt2, KCt1, KCt0, x_cutT, kCt3_t, KPb, KPa, x_par2, x_rep, kRp_s, x_wo, KRs, x_raise, ok_and, ok_or, okb_and, okb_or, List.getElem?_cons_zero, List.getElem?_cons_succ, List.set_cons_zero, List.set_cons_succ, List.map_cons, List.map_nil, List.append_nil, List.nil_append, List.cons_append, List.length_cons, List.length_nil, List.replicate_succ, List.replicate_zero, Option.isSome_some, Option.isSome_none, Option.bind_some, Option.bind_none, Nat.reduceAdd, Nat.reduceSub, Nat.reduceMul, Nat.reduceLeDiff, Nat.reduceLT, Nat.reduceBEq, Nat.reduceEqDiff, Nat.beq_refl, if_true, if_false, reduceIte, Bool.false_eq_true, Bool.not_true, Bool.not_false, Bool.not_not, decide_eq_true_eq, decide_true, decide_false, Bool.and_true, Bool.true_and, Bool.and_false, Bool.false_and, Bool.or_true, Bool.true_or, Bool.or_false, Bool.false_or, Bool.not_eq_true', decide_eq_false_iff_not, dLe_i, dLt_i, dGt_i, dGe_i, dAdd_i, dSub_i, gLen_t, gLen_l, gTup_2, gTup_3, gTup_1, gTup_0, gTup_4, isN_n, notN_n, isN_t, notN_t, items_t, items_l, ht])
    (rangeD 0 m) [] [.rf (bagO b0 b1), .sh j.pts, .sh N, .un, .un, .un, .un] (by simp [rangeD]; omega) ⟨b0, b1, h, rfl⟩
  rw [rangeD_len] at q2
  obtain ⟨ts, rfl, hr⟩ := raw_of q3
  refine ⟨d0, d1, ts, ?_, hd, hr, by simpa using q2⟩
  unfold KLc
  refine (if_pos ?_).trans ?_
  · rfl
  show KLb _ _ (loopC [6] (gNm 6) fYes f__law_standing_e1 (rangeD 0 m) [] [.rf (bagO b0 b1), .sh j.pts, .sh N, .un, .un, .un, .un]) = _
  rw [q1]
  rfl
theorem standing_pw (j : Jb) (hj : j.Ok 8) {b0 b1 : Int} (h : BagOk b0 b1) {n : Nat} (hn : n ≤ 5) : ∃ c0 c1 s, pw g__law_standing (bagO b0 b1) [j.pts, .int n] = .val (bagO c0 c1) (.sh (Sg.d s)) ∧ BagOk c0 c1 ∧ SgOk j s ∧ s.ts.length ≤ n := by
  obtain ⟨c0, c1, r, ht, hc, hr0, hr1⟩ := take_pw (m := (n : Int) + 1) h (by omega) (by omega)
  obtain ⟨d0, d1, ts, hd1, hd, hraw, hlen⟩ := st_draw j hj hc (m := r.toNat) (by omega) (N := .int n)
  have hl5 : ts.length ≤ 5 := by omega
  -- one twice
  obtain ⟨e0, e1, us, he, hus, hul, su⟩ : ∃ (e0 e1 : Int) (us : List Tk), BagOk e0 e1 ∧ Raw j us ∧ us.length = ts.length ∧ (fIfS (fAnd (fBorT (fTest (f2 dGt (fN gLen (fCons (fVar 3) fNil)) (fC (.int 1))))) (fTest (f2 dEq (fShR (fCallR 0 2 g__law_take [] (fCons (fC (.int 4)) fNil))) (fC (.int 0))))) (fSetIx 3 (fIxO 3 (fC (.int 0))) (fC (.int 1))) fsNil) [.rf (bagO d0 d1), .sh j.pts, .sh (.int n), .ow (.lst (ts.map Tk.d)), .un, .un, .un] = .ok [.rf (bagO e0 e1), .sh j.pts, .sh (.int n), .ow (.lst (us.map Tk.d)), .un, .un, .un] .nx := by
    rcases ts with _ | ⟨a, _ | ⟨b, ts⟩⟩
    · refine ⟨d0, d1, [], hd, hraw, rfl, ?_⟩
      have : ¬ (1 : Int) < ((0 : Nat) : Int) := by decide
      simp -implicitDefEqProofs only [x_ixO, KIx, kIx2_l, x_setIx, KSx1, KSx2, kSx3_l, kSx4_s, x_bor, kBo_ok, x_borT, kBT_ok, sh_ow, sh_rf, sh_sh, sh_un, imm_i, imm_b, imm_s, pwFl_rt, pwFl_nx, x_callA, KCA, x_aNo, x_aPl, KPl, x_aKw, KKa, KKb, pa_pl, x_lc, unAt_0, unAt_s, b_ok, b_er, b_no, b_if, lift_s, lift_n, lift_if, unpv_val, unpv_new, unpv_err, unpv_if, pvFl_rt, pvFl_fr, pvFl_nx, pvFl_er, pvFl_if, unpw_val, x_var, rdV_sh, x_c, K1, x_f1, K2b, K2a, x_f2, x_nil, KCb, KCa, x_cons, KStb, KStar, x_star, ksta_s, KN, x_n, x_test, kTe_bl, KAn, x_and, KOr, x_or, KNo, x_not, KIe, x_if, x_andV, kAV_bl, x_orV, kOV_bl, x_notV, kNV_bl, x_sNil, x_seq, kSq_nx, kSq_rt, kSq_bk, kSq_ct, KRt, x_ret, KEx, x_exp, KIs, x_ifS, optR_s, KSe, x_set, KSO, x_setO, put, free_un, free_sh, free_ow, KSh, x_sh, KLs, x_lst, x_nm, x_gnil, x_gcons, x_gtp, x_gls, KAs, x_asg, KQ, x_q, x_iS, kiS_s, x_r1, x_for, KFo, KCl, x_call, x_shR, kSR_sh, kSR_fr, x_frR, kFR_fr, kCRb_s, KCR, x_callR, ob_ow, ob_rf, putOb, reob_ow, reob_rf, x_fld, KCh2, KCh1, x_chain, kCh3_b, KM2, x_m1, isStr_s, KNw, x_new, x_noP, x_p, kP_i, KCt2, KCt1, KCt0, x_cutT, kCt3_t, KPb, KPa, x_par2, x_rep, kRp_s, x_wo, KRs, x_raise, ok_and, ok_or, okb_and, okb_or, List.getElem?_cons_zero, List.getElem?_cons_succ, List.set_cons_zero, List.set_cons_succ, List.map_cons, List.map_nil, List.append_nil, List.nil_append, List.cons_append, List.length_cons, List.length_nil, List.replicate_succ, List.replicate_zero, Option.isSome_some, Option.isSome_none, Option.bind_some, Option.bind_none, Nat.reduceAdd, Nat.reduceSub, Nat.reduceMul, Nat.reduceLeDiff, Nat.reduceLT, Nat.reduceBEq, Nat.reduceEqDiff, Nat.beq_refl, if_true, if_false, reduceIte, Bool.false_eq_true, Bool.not_true, Bool.not_false, Bool.not_not, decide_eq_true_eq, decide_true, decide_false, Bool.and_true, Bool.true_and, Bool.and_false, Bool.false_and, Bool.or_true, Bool.true_or, Bool.or_false, Bool.false_or, Bool.not_eq_true', decide_eq_false_iff_not, dLe_i, dLt_i, dGt_i, dGe_i, dAdd_i, dSub_i, gLen_t, gLen_l, gTup_2, gTup_3, gTup_1, gTup_0, gTup_4, isN_n, notN_n, isN_t, notN_t, items_t, items_l, this]
    · refine ⟨d0, d1, [a], hd, hraw, rfl, ?_⟩
      have : ¬ (1 : Int) < ((1 : Nat) : Int) := by decide
      simp -implicitDefEqProofs only [x_ixO, KIx, kIx2_l, x_setIx, KSx1, KSx2, kSx3_l, kSx4_s, x_bor, kBo_ok, x_borT, kBT_ok, sh_ow, sh_rf, sh_sh, sh_un, imm_i, imm_b, imm_s, pwFl_rt, pwFl_nx, x_callA, KCA, x_aNo, x_aPl, KPl, x_aKw, KKa, KKb, pa_pl, x_lc, unAt_0, unAt_s, b_ok, b_er, b_no, b_if, lift_s, lift_n, lift_if, unpv_val, unpv_new, unpv_err, unpv_if, pvFl_rt, pvFl_fr, pvFl_nx, pvFl_er, pvFl_if, unpw_val, x_var, rdV_sh, x_c, K1, x_f1, K2b, K2a, x_f2, x_nil, KCb, KCa, x_cons, KStb, KStar, x_star, ksta_s, KN, x_n, x_test, kTe_bl, KAn, x_and, KOr, x_or, KNo, x_not, KIe, x_if, x_andV, kAV_bl, x_orV, kOV_bl, x_notV, kNV_bl, x_sNil, x_seq, kSq_nx, kSq_rt, kSq_bk, kSq_ct, KRt, x_ret, KEx, x_exp, KIs, x_ifS, optR_s, KSe, x_set, KSO, x_setO, put, free_un, free_sh, free_ow, KSh, x_sh, KLs, x_lst, x_nm, x_gnil, x_gcons, x_gtp, x_gls, KAs, x_asg, KQ, x_q, x_iS, kiS_s, x_r1, x_for, KFo, KCl, x_call, x_shR, kSR_sh, kSR_fr, x_frR, kFR_fr, kCRb_s, KCR, x_callR, ob_ow, ob_rf, putOb, reob_ow, reob_rf, x_fld, KCh2, KCh1, x_chain, kCh3_b, KM2, x_m1, isStr_s, KNw, x_new, x_noP, x_p, kP_i, KCt2, KCt1, KCt0, x_cutT, kCt3_t, KPb, KPa, x_par2, x_rep, kRp_s, x_wo, KRs, x_raise, ok_and, ok_or, okb_and, okb_or, List.getElem?_cons_zero, List.getElem?_cons_succ, List.set_cons_zero, List.set_cons_succ, List.map_cons, List.map_nil, List.append_nil, List.nil_append, List.cons_append, List.length_cons, List.length_nil, List.replicate_succ, List.replicate_zero, Option.isSome_some, Option.isSome_none, Option.bind_some, Option.bind_none, Nat.reduceAdd, Nat.reduceSub, Nat.reduceMul, Nat.reduceLeDiff, Nat.reduceLT, Nat.reduceBEq, Nat.reduceEqDiff, Nat.beq_refl, if_true, if_false, reduceIte, Bool.false_eq_true, Bool.not_true, Bool.not_false, Bool.not_not, decide_eq_true_eq, decide_true, decide_false, Bool.and_true, Bool.true_and, Bool.and_false, Bool.false_and, Bool.or_true, Bool.true_or, Bool.or_false, Bool.false_or, Bool.not_eq_true', decide_eq_false_iff_not, dLe_i, dLt_i, dGt_i, dGe_i, dAdd_i, dSub_i, gLen_t, gLen_l, gTup_2, gTup_3, gTup_1, gTup_0, gTup_4, isN_n, notN_n, isN_t, notN_t, items_t, items_l, this]
    · obtain ⟨e0, e1, q, ht, he, _, _⟩ := take_pw (m := 4) hd (by decide) (by decide)
      have h2 : (1 : Int) < (((ts.map Tk.d).length + 1 + 1 : Nat) : Int) := by omega
      by_cases hq : q = 0
      · refine ⟨e0, e1, a :: a :: ts, he, ?_, rfl, ?_⟩
        · intro t htm
          rcases List.mem_cons.mp htm with rfl | htm
          · exact hraw _ List.mem_cons_self
          rcases List.mem_cons.mp htm with rfl | htm
          · exact hraw _ List.mem_cons_self
          · exact hraw _ (List.mem_cons_of_mem _ (List.mem_cons_of_mem _ htm))
        · have a0 : atI (a.d :: b.d :: ts.map Tk.d) 0 = some a.d := atI_ok (k := 0) rfl
          have a1 : ixN ((ts.map Tk.d).length + 1 + 1) 1 = some 1 := ixN_ok (k := 1) (by omega)
          simp -implicitDefEqProofs only [x_ixO, KIx, kIx2_l, x_setIx, KSx1, KSx2, kSx3_l, kSx4_s, x_bor, kBo_ok, x_borT, kBT_ok, sh_ow, sh_rf, sh_sh, sh_un, imm_i, imm_b, imm_s, pwFl_rt, pwFl_nx, x_callA, KCA, x_aNo, x_aPl, KPl, x_aKw, KKa, KKb, pa_pl, x_lc, unAt_0, unAt_s, b_ok, b_er, b_no, b_if, lift_s, lift_n, lift_if, unpv_val, unpv_new, unpv_err, unpv_if, pvFl_rt, pvFl_fr, pvFl_nx, pvFl_er, pvFl_if, unpw_val, x_var, rdV_sh, x_c, K1, x_f1, K2b, K2a, x_f2, x_nil, KCb, KCa, x_cons, KStb, KStar, x_star, ksta_s, KN, x_n, x_test, kTe_bl, KAn, x_and, KOr, x_or, KNo, x_not, KIe, x_if, x_andV, kAV_bl, x_orV, kOV_bl, x_notV, kNV_bl, x_sNil, x_seq, kSq_nx, kSq_rt, kSq_bk, kSq_ct, KRt, x_ret, KEx, x_exp, KIs, x_ifS, optR_s, KSe, x_set, KSO, x_setO, put, free_un, free_sh, free_ow, KSh, x_sh, KLs, x_lst, x_nm, x_gnil, x_gcons, x_gtp, x_gls, KAs, x_asg, KQ, x_q, x_iS, kiS_s, x_r1, x_for, KFo, KCl, x_call, x_shR, kSR_sh, kSR_fr, x_frR, kFR_fr, kCRb_s, KCR, x_callR, ob_ow, ob_rf, putOb, reob_ow, reob_rf, x_fld, KCh2, KCh1, x_chain, kCh3_b, KM2, x_m1, isStr_s, KNw, x_new, x_noP, x_p, kP_i, KCt2, KCt1, KCt0, x_cutT, kCt3_t, KPb, KPa, x_par2, x_rep, kRp_s, x_wo, KRs, x_raise, ok_and, ok_or, okb_and, okb_or, List.getElem?_cons_zero, List.getElem?_cons_succ, List.set_cons_zero, List.set_cons_succ, List.map_cons, List.map_nil, List.append_nil, List.nil_append, List.cons_append, List.length_cons, List.length_nil, List.replicate_succ, List.replicate_zero, Option.isSome_some, Option.isSome_none, Option.bind_some, Option.bind_none, Nat.reduceAdd, Nat.reduceSub, Nat.reduceMul, Nat.reduceLeDiff, Nat.reduceLT, Nat.reduceBEq, Nat.reduceEqDiff, Nat.beq_refl, if_true, if_false, reduceIte, Bool.false_eq_true, Bool.not_true, Bool.not_false, Bool.not_not, decide_eq_true_eq, decide_true, decide_false, Bool.and_true, Bool.true_and, Bool.and_false, Bool.false_and, Bool.or_true, Bool.true_or, Bool.or_false, Bool.false_or, Bool.not_eq_true', decide_eq_false_iff_not, dLe_i, dLt_i, dGt_i, dGe_i, dAdd_i, dSub_i, gLen_t, gLen_l, gTup_2, gTup_3, gTup_1, gTup_0, gTup_4, isN_n, notN_n, isN_t, notN_t, items_t, items_l, h2, ht, dEq_i, hq, a0, a1]
      · refine ⟨e0, e1, a :: b :: ts, he, hraw, rfl, ?_⟩
        simp -implicitDefEqProofs only [x_ixO, KIx, kIx2_l, x_setIx, KSx1, KSx2, kSx3_l, kSx4_s, x_bor, kBo_ok, x_borT, kBT_ok, sh_ow, sh_rf, sh_sh, sh_un, imm_i, imm_b, imm_s, pwFl_rt, pwFl_nx, x_callA, KCA, x_aNo, x_aPl, KPl, x_aKw, KKa, KKb, pa_pl, x_lc, unAt_0, unAt_s, b_ok, b_er, b_no, b_if, lift_s, lift_n, lift_if, unpv_val, unpv_new, unpv_err, unpv_if, pvFl_rt, pvFl_fr, pvFl_nx, pvFl_er, pvFl_if, unpw_val, x_var, rdV_sh, x_c, K1, x_f1, K2b, K2a, x_f2, x_nil, KCb, KCa, x_cons, KStb, KStar, x_star, ksta_s, KN, x_n, x_test, kTe_bl, KAn, x_and, KOr, x_or, KNo, x_not, KIe, x_if, x_andV, kAV_bl, x_orV, kOV_bl, x_notV, kNV_bl, x_sNil, x_seq, kSq_nx, kSq_rt, kSq_bk, kSq_ct, KRt, x_ret, KEx, x_exp, KIs, x_ifS, optR_s, KSe, x_set, KSO, x_setO, put, free_un, free_sh, free_ow, KSh, x_sh, KLs, x_lst, x_nm, x_gnil, x_gcons, x_gtp, x_gls, KAs, x_asg, KQ, x_q, x_iS, kiS_s, x_r1, x_for, KFo, KCl, x_call, x_shR, kSR_sh, kSR_fr, x_frR, kFR_fr, kCRb_s, KCR, x_callR, ob_ow, ob_rf, putOb, reob_ow, reob_rf, x_fld, KCh2, KCh1, x_chain, kCh3_b, KM2, x_m1, isStr_s, KNw, x_new, x_noP, x_p, kP_i, KCt2, KCt1, KCt0, x_cutT, kCt3_t, KPb, KPa, x_par2, x_rep, kRp_s, x_wo, KRs, x_raise, ok_and, ok_or, okb_and, okb_or, List.getElem?_cons_zero, List.getElem?_cons_succ, List.set_cons_zero, List.set_cons_succ, List.map_cons, List.map_nil, List.append_nil, List.nil_append, List.cons_append, List.length_cons, List.length_nil, List.replicate_succ, List.replicate_zero, Option.isSome_some, Option.isSome_none, Option.bind_some, Option.bind_none, Nat.reduceAdd, Nat.reduceSub, Nat.reduceMul, Nat.reduceLeDiff, Nat.reduceLT, Nat.reduceBEq, Nat.reduceEqDiff, Nat.beq_refl, if_true, if_false, reduceIte, Bool.false_eq_true, Bool.not_true, Bool.not_false, Bool.not_not, decide_eq_true_eq, decide_true, decide_false, Bool.and_true, Bool.true_and, Bool.and_false, Bool.false_and, Bool.or_true, Bool.true_or, Bool.or_false, Bool.false_or, Bool.not_eq_true', decide_eq_false_iff_not, dLe_i, dLt_i, dGt_i, dGe_i, dAdd_i, dSub_i, gLen_t, gLen_l, gTup_2, gTup_3, gTup_1, gTup_0, gTup_4, isN_n, notN_n, isN_t, notN_t, items_t, items_l, h2, ht, dEq_i, hq]
  -- the key
  obtain ⟨f0, f1, x, hx, hf, hxm⟩ := of_pw (ds := [.str "free", .str "held", .str "held", .str "lost"]) he (by simp) (by simp)
  obtain ⟨k1, rfl⟩ : ∃ k1 : Ky, x = .str k1.s := by
    simp only [List.mem_cons, List.not_mem_nil, or_false] at hxm
    rcases hxm with rfl | rfl | rfl | rfl
    · exact ⟨.free, rfl⟩
    · exact ⟨.held, rfl⟩
    · exact ⟨.held, rfl⟩
    · exact ⟨.lost, rfl⟩
  obtain ⟨ky, hk, sk⟩ : ∃ ky : Ky, (ky = .held → us ≠ []) ∧ (fIfS (fBorT (fAnd (fTest (f2 dEq (fVar 4) (fC (.str "held")))) (fTest (f2 dEq (fVar 3) (fN gLst fNil))))) (fSet 4 (fC (.str "lost"))) fsNil) [.rf (bagO f0 f1), .sh j.pts, .sh (.int n), .ow (.lst (us.map Tk.d)), .sh (.str k1.s), .un, .un] = .ok [.rf (bagO f0 f1), .sh j.pts, .sh (.int n), .ow (.lst (us.map Tk.d)), .sh (.str ky.s), .un, .un] .nx := by
    by_cases hh : k1 = .held
    · cases us with
      | nil =>
        refine ⟨.lost, (fun z => by cases z), ?_⟩
        have q : dEq (.lst []) (.lst []) = some (.bl true) := by kernel_rfl
        simp -implicitDefEqProofs only [x_ixO, KIx, kIx2_l, x_setIx, KSx1, KSx2, kSx3_l, kSx4_s, x_bor, kBo_ok, x_borT, kBT_ok, sh_ow, sh_rf, sh_sh, sh_un, imm_i, imm_b, imm_s, pwFl_rt, pwFl_nx, x_callA, KCA, x_aNo, x_aPl, KPl, x_aKw, KKa, KKb, pa_pl, x_lc, unAt_0, unAt_s, b_ok, b_er, b_no, b_if, lift_s, lift_n, lift_if, unpv_val, unpv_new, unpv_err, unpv_if, pvFl_rt, pvFl_fr, pvFl_nx, pvFl_er, pvFl_if, unpw_val, x_var, rdV_sh, x_c, K1, x_f1, K2b, K2a, x_f2, x_nil, KCb, KCa, x_cons, KStb, KStar, x_star, ksta_s, KN, x_n, x_test, kTe_bl, KAn, x_and, KOr, x_or, KNo, x_not, KIe, x_if, x_andV, kAV_bl, x_orV, kOV_bl, x_notV, kNV_bl, x_sNil, x_seq, kSq_nx, kSq_rt, kSq_bk, kSq_ct, KRt, x_ret, KEx, x_exp, KIs, x_ifS, optR_s, KSe, x_set, KSO, x_setO, put, free_un, free_sh, free_ow, KSh, x_sh, KLs, x_lst, x_nm, x_gnil, x_gcons, x_gtp, x_gls, KAs, x_asg, KQ, x_q, x_iS, kiS_s, x_r1, x_for, KFo, KCl, x_call, x_shR, kSR_sh, kSR_fr, x_frR, kFR_fr, kCRb_s, KCR, x_callR, ob_ow, ob_rf, putOb, reob_ow, reob_rf, x_fld, KCh2, KCh1, x_chain, kCh3_b, KM2, x_m1, isStr_s, KNw, x_new, x_noP, x_p, kP_i, KCt2, KCt1, KCt0, x_cutT, kCt3_t, KPb, KPa, x_par2, x_rep, kRp_s, x_wo, KRs, x_raise, ok_and, ok_or, okb_and, okb_or, List.getElem?_cons_zero, List.getElem?_cons_succ, List.set_cons_zero, List.set_cons_succ, List.map_cons, List.map_nil, List.append_nil, List.nil_append, List.cons_append, List.length_cons, List.length_nil, List.replicate_succ, List.replicate_zero, Option.isSome_some, Option.isSome_none, Option.bind_some, Option.bind_none, Nat.reduceAdd, Nat.reduceSub, Nat.reduceMul, Nat.reduceLeDiff, Nat.reduceLT, Nat.reduceBEq, Nat.reduceEqDiff, Nat.beq_refl, if_true, if_false, reduceIte, Bool.false_eq_true, Bool.not_true, Bool.not_false, Bool.not_not, decide_eq_true_eq, decide_true, decide_false, Bool.and_true, Bool.true_and, Bool.and_false, Bool.false_and, Bool.or_true, Bool.true_or, Bool.or_false, Bool.false_or, Bool.not_eq_true', decide_eq_false_iff_not, dLe_i, dLt_i, dGt_i, dGe_i, dAdd_i, dSub_i, gLen_t, gLen_l, gTup_2, gTup_3, gTup_1, gTup_0, gTup_4, isN_n, notN_n, isN_t, notN_t, items_t, items_l, k_held, decide_eq_true hh, lst_0, q]
        rfl
      | cons u us =>
        refine ⟨k1, (fun _ => by simp), ?_⟩
        have q : dEq (.lst (u.d :: us.map Tk.d)) (.lst []) = some (.bl false) := dEq_nil (ds := (u :: us).map Tk.d) (by decide) tks_ok
        simp -implicitDefEqProofs only [x_ixO, KIx, kIx2_l, x_setIx, KSx1, KSx2, kSx3_l, kSx4_s, x_bor, kBo_ok, x_borT, kBT_ok, sh_ow, sh_rf, sh_sh, sh_un, imm_i, imm_b, imm_s, pwFl_rt, pwFl_nx, x_callA, KCA, x_aNo, x_aPl, KPl, x_aKw, KKa, KKb, pa_pl, x_lc, unAt_0, unAt_s, b_ok, b_er, b_no, b_if, lift_s, lift_n, lift_if, unpv_val, unpv_new, unpv_err, unpv_if, pvFl_rt, pvFl_fr, pvFl_nx, pvFl_er, pvFl_if, unpw_val, x_var, rdV_sh, x_c, K1, x_f1, K2b, K2a, x_f2, x_nil, KCb, KCa, x_cons, KStb, KStar, x_star, ksta_s, KN, x_n, x_test, kTe_bl, KAn, x_and, KOr, x_or, KNo, x_not, KIe, x_if, x_andV, kAV_bl, x_orV, kOV_bl, x_notV, kNV_bl, x_sNil, x_seq, kSq_nx, kSq_rt, kSq_bk, kSq_ct, KRt, x_ret, KEx, x_exp, KIs, x_ifS, optR_s, KSe, x_set, KSO, x_setO, put, free_un, free_sh, free_ow, KSh, x_sh, KLs, x_lst, x_nm, x_gnil, x_gcons, x_gtp, x_gls, KAs, x_asg, KQ, x_q, x_iS, kiS_s, x_r1, x_for, KFo, KCl, x_call, x_shR, kSR_sh, kSR_fr, x_frR, kFR_fr, kCRb_s, KCR, x_callR, ob_ow, ob_rf, putOb, reob_ow, reob_rf, x_fld, KCh2, KCh1, x_chain, kCh3_b, KM2, x_m1, isStr_s, KNw, x_new, x_noP, x_p, kP_i, KCt2, KCt1, KCt0, x_cutT, kCt3_t, KPb, KPa, x_par2, x_rep, kRp_s, x_wo, KRs, x_raise, ok_and, ok_or, okb_and, okb_or, List.getElem?_cons_zero, List.getElem?_cons_succ, List.set_cons_zero, List.set_cons_succ, List.map_cons, List.map_nil, List.append_nil, List.nil_append, List.cons_append, List.length_cons, List.length_nil, List.replicate_succ, List.replicate_zero, Option.isSome_some, Option.isSome_none, Option.bind_some, Option.bind_none, Nat.reduceAdd, Nat.reduceSub, Nat.reduceMul, Nat.reduceLeDiff, Nat.reduceLT, Nat.reduceBEq, Nat.reduceEqDiff, Nat.beq_refl, if_true, if_false, reduceIte, Bool.false_eq_true, Bool.not_true, Bool.not_false, Bool.not_not, decide_eq_true_eq, decide_true, decide_false, Bool.and_true, Bool.true_and, Bool.and_false, Bool.false_and, Bool.or_true, Bool.true_or, Bool.or_false, Bool.false_or, Bool.not_eq_true', decide_eq_false_iff_not, dLe_i, dLt_i, dGt_i, dGe_i, dAdd_i, dSub_i, gLen_t, gLen_l, gTup_2, gTup_3, gTup_1, gTup_0, gTup_4, isN_n, notN_n, isN_t, notN_t, items_t, items_l, k_held, decide_eq_true hh, lst_0, q]
    · refine ⟨k1, fun z => absurd z hh, ?_⟩
      simp -implicitDefEqProofs only [x_ixO, KIx, kIx2_l, x_setIx, KSx1, KSx2, kSx3_l, kSx4_s, x_bor, kBo_ok, x_borT, kBT_ok, sh_ow, sh_rf, sh_sh, sh_un, imm_i, imm_b, imm_s, pwFl_rt, pwFl_nx, x_callA, KCA, x_aNo, x_aPl, KPl, x_aKw, KKa, KKb, pa_pl, x_lc, unAt_0, unAt_s, b_ok, b_er, b_no, b_if, lift_s, lift_n, lift_if, unpv_val, unpv_new, unpv_err, unpv_if, pvFl_rt, pvFl_fr, pvFl_nx, pvFl_er, pvFl_if, unpw_val, x_var, rdV_sh, x_c, K1, x_f1, K2b, K2a, x_f2, x_nil, KCb, KCa, x_cons, KStb, KStar, x_star, ksta_s, KN, x_n, x_test, kTe_bl, KAn, x_and, KOr, x_or, KNo, x_not, KIe, x_if, x_andV, kAV_bl, x_orV, kOV_bl, x_notV, kNV_bl, x_sNil, x_seq, kSq_nx, kSq_rt, kSq_bk, kSq_ct, KRt, x_ret, KEx, x_exp, KIs, x_ifS, optR_s, KSe, x_set, KSO, x_setO, put, free_un, free_sh, free_ow, KSh, x_sh, KLs, x_lst, x_nm, x_gnil, x_gcons, x_gtp, x_gls, KAs, x_asg, KQ, x_q, x_iS, kiS_s, x_r1, x_for, KFo, KCl, x_call, x_shR, kSR_sh, kSR_fr, x_frR, kFR_fr, kCRb_s, KCR, x_callR, ob_ow, ob_rf, putOb, reob_ow, reob_rf, x_fld, KCh2, KCh1, x_chain, kCh3_b, KM2, x_m1, isStr_s, KNw, x_new, x_noP, x_p, kP_i, KCt2, KCt1, KCt0, x_cutT, kCt3_t, KPb, KPa, x_par2, x_rep, kRp_s, x_wo, KRs, x_raise, ok_and, ok_or, okb_and, okb_or, List.getElem?_cons_zero, List.getElem?_cons_succ, List.set_cons_zero, List.set_cons_succ, List.map_cons, List.map_nil, List.append_nil, List.nil_append, List.cons_append, List.length_cons, List.length_nil, List.replicate_succ, List.replicate_zero, Option.isSome_some, Option.isSome_none, Option.bind_some, Option.bind_none, Nat.reduceAdd, Nat.reduceSub, Nat.reduceMul, Nat.reduceLeDiff, Nat.reduceLT, Nat.reduceBEq, Nat.reduceEqDiff, Nat.beq_refl, if_true, if_false, reduceIte, Bool.false_eq_true, Bool.not_true, Bool.not_false, Bool.not_not, decide_eq_true_eq, decide_true, decide_false, Bool.and_true, Bool.true_and, Bool.and_false, Bool.false_and, Bool.or_true, Bool.true_or, Bool.or_false, Bool.false_or, Bool.not_eq_true', decide_eq_false_iff_not, dLe_i, dLt_i, dGt_i, dGe_i, dAdd_i, dSub_i, gLen_t, gLen_l, gTup_2, gTup_3, gTup_1, gTup_0, gTup_4, isN_n, notN_n, isN_t, notN_t, items_t, items_l, k_held, decide_eq_false hh]
  -- its token
  obtain ⟨g0, g1, ws, s5, hg, hwt, hwl, hwk, h5, sw⟩ : ∃ (g0 g1 : Int) (ws : List Tk) (s5 : Sl), BagOk g0 g1 ∧ (∀ t ∈ ws, TkOk (j.rows.map Wd.d) (j.last.map Wd.d) t) ∧ ws.length = us.length ∧ (ws.filter (·.k)).length = (if ky = .held then 1 else 0) ∧ (s5 = .un ∨ ∃ d, s5 = .sh d) ∧ (fIfS (fTest (f2 dEq (fVar 4) (fC (.str "held")))) (fSeq (fSet 5 (fShR (fCallR 0 2 g__law_take [] (fCons (fBor (fN gLen (fCons (fVar 3) fNil))) fNil)))) (fSetIx 3 (fN gTup (fCons (f2 dIx (fIxO 3 (fVar 5)) (fC (.int 0))) (fCons (f2 dAdd (f2 dIx (fIxO 3 (fVar 5)) (fC (.int 1))) (fC (.str "k"))) fNil))) (fVar 5))) fsNil) [.rf (bagO f0 f1), .sh j.pts, .sh (.int n), .ow (.lst (us.map Tk.d)), .sh (.str ky.s), .un, .un] = .ok [.rf (bagO g0 g1), .sh j.pts, .sh (.int n), .ow (.lst (ws.map Tk.d)), .sh (.str ky.s), s5, .un] .nx := by
    by_cases hh : ky = .held
    · have hpos : 0 < us.length := List.length_pos_iff.mpr (hk hh)
      obtain ⟨g0, g1, q, ht, hg, hq0, hq1⟩ := take_pw (m := (us.length : Int)) hf (by omega) (by omega)
      obtain ⟨i, rfl⟩ := Int.eq_ofNat_of_zero_le hq0
      have hi : i < us.length := by omega
      obtain ⟨t, hti⟩ : ∃ t, us[i]? = some t := ⟨us[i], List.getElem?_eq_getElem hi⟩
      have htm := hus t (List.mem_of_getElem? hti)
      have a0 : atI (us.map Tk.d) (i : Int) = some t.d := atI_ok (by rw [List.getElem?_map, hti]; rfl)
      have a1 : ixN (us.map Tk.d).length (i : Int) = some i := ixN_ok (by simpa using hi)
      have hset : (us.map Tk.d).set i t.onK.d = (us.set i t.onK).map Tk.d := by rw [List.map_set]
      refine ⟨g0, g1, us.set i t.onK, .sh (.int i), hg, ?_, by simp, ?_, .inr ⟨_, rfl⟩, ?_⟩
      · intro u hu
        rcases List.mem_or_eq_of_mem_set hu with hu | rfl
        · exact (hus u hu).1
        · exact ⟨htm.1.h0, htm.1.h1, htm.1.hb, htm.1.hf⟩
      · rw [if_pos hh]
        exact one_k (fun t ht => (hus t ht).2) hi rfl
      · have e1 : dAdd (.str (flS t.b t.e t.f t.k)) (.str "k") = some (.str (flS t.b t.e t.f true)) := by rw [htm.2]; exact fa_k ..
        have e2 : D.tup [.int t.p, .str (flS t.b t.e t.f true)] = t.onK.d := rfl
        rw [← List.length_map (f := Tk.d)] at ht
        simp -implicitDefEqProofs only [x_ixO, KIx, kIx2_l, x_setIx, KSx1, KSx2, kSx3_l, kSx4_s, x_bor, kBo_ok, x_borT, kBT_ok, sh_ow, sh_rf, sh_sh, sh_un, imm_i, imm_b, imm_s, pwFl_rt, pwFl_nx, x_callA, KCA, x_aNo, x_aPl, KPl, x_aKw, KKa, KKb, pa_pl, x_lc, unAt_0, unAt_s, b_ok, b_er, b_no, b_if, lift_s, lift_n, lift_if, unpv_val, unpv_new, unpv_err, unpv_if, pvFl_rt, pvFl_fr, pvFl_nx, pvFl_er, pvFl_if, unpw_val, x_var, rdV_sh, x_c, K1, x_f1, K2b, K2a, x_f2, x_nil, KCb, KCa, x_cons, KStb, KStar, x_star, ksta_s, KN, x_n, x_test, kTe_bl, KAn, x_and, KOr, x_or, KNo, x_not, KIe, x_if, x_andV, kAV_bl, x_orV, kOV_bl, x_notV, kNV_bl, x_sNil, x_seq, kSq_nx, kSq_rt, kSq_bk, kSq_ct, KRt, x_ret, KEx, x_exp, KIs, x_ifS, optR_s, KSe, x_set, KSO, x_setO, put, free_un, free_sh, free_ow, KSh, x_sh, KLs, x_lst, x_nm, x_gnil, x_gcons, x_gtp, x_gls, KAs, x_asg, KQ, x_q, x_iS, kiS_s, x_r1, x_for, KFo, KCl, x_call, x_shR, kSR_sh, kSR_fr, x_frR, kFR_fr, kCRb_s, KCR, x_callR, ob_ow, ob_rf, putOb, reob_ow, reob_rf, x_fld, KCh2, KCh1, x_chain, kCh3_b, KM2, x_m1, isStr_s, KNw, x_new, x_noP, x_p, kP_i, KCt2, KCt1, KCt0, x_cutT, kCt3_t, KPb, KPa, x_par2, x_rep, kRp_s, x_wo, KRs, x_raise, ok_and, ok_or, okb_and, okb_or, List.getElem?_cons_zero, List.getElem?_cons_succ, List.set_cons_zero, List.set_cons_succ, List.map_cons, List.map_nil, List.append_nil, List.nil_append, List.cons_append, List.length_cons, List.length_nil, List.replicate_succ, List.replicate_zero, Option.isSome_some, Option.isSome_none, Option.bind_some, Option.bind_none, Nat.reduceAdd, Nat.reduceSub, Nat.reduceMul, Nat.reduceLeDiff, Nat.reduceLT, Nat.reduceBEq, Nat.reduceEqDiff, Nat.beq_refl, if_true, if_false, reduceIte, Bool.false_eq_true, Bool.not_true, Bool.not_false, Bool.not_not, decide_eq_true_eq, decide_true, decide_false, Bool.and_true, Bool.true_and, Bool.and_false, Bool.false_and, Bool.or_true, Bool.true_or, Bool.or_false, Bool.false_or, Bool.not_eq_true', decide_eq_false_iff_not, dLe_i, dLt_i, dGt_i, dGe_i, dAdd_i, dSub_i, gLen_t, gLen_l, gTup_2, gTup_3, gTup_1, gTup_0, gTup_4, isN_n, notN_n, isN_t, notN_t, items_t, items_l, k_held, decide_eq_true hh, ht, a0, a1, tk_0, tk_1, e1, e2, hset]
    · refine ⟨f0, f1, us, .un, hf, fun t ht => (hus t ht).1, rfl, ?_, .inl rfl, ?_⟩
      · rw [if_neg hh, nok_nil fun t ht => (hus t ht).2]
        rfl
      · simp -implicitDefEqProofs only [x_ixO, KIx, kIx2_l, x_setIx, KSx1, KSx2, kSx3_l, kSx4_s, x_bor, kBo_ok, x_borT, kBT_ok, sh_ow, sh_rf, sh_sh, sh_un, imm_i, imm_b, imm_s, pwFl_rt, pwFl_nx, x_callA, KCA, x_aNo, x_aPl, KPl, x_aKw, KKa, KKb, pa_pl, x_lc, unAt_0, unAt_s, b_ok, b_er, b_no, b_if, lift_s, lift_n, lift_if, unpv_val, unpv_new, unpv_err, unpv_if, pvFl_rt, pvFl_fr, pvFl_nx, pvFl_er, pvFl_if, unpw_val, x_var, rdV_sh, x_c, K1, x_f1, K2b, K2a, x_f2, x_nil, KCb, KCa, x_cons, KStb, KStar, x_star, ksta_s, KN, x_n, x_test, kTe_bl, KAn, x_and, KOr, x_or, KNo, x_not, KIe, x_if, x_andV, kAV_bl, x_orV, kOV_bl, x_notV, kNV_bl, x_sNil, x_seq, kSq_nx, kSq_rt, kSq_bk, kSq_ct, KRt, x_ret, KEx, x_exp, KIs, x_ifS, optR_s, KSe, x_set, KSO, x_setO, put, free_un, free_sh, free_ow, KSh, x_sh, KLs, x_lst, x_nm, x_gnil, x_gcons, x_gtp, x_gls, KAs, x_asg, KQ, x_q, x_iS, kiS_s, x_r1, x_for, KFo, KCl, x_call, x_shR, kSR_sh, kSR_fr, x_frR, kFR_fr, kCRb_s, KCR, x_callR, ob_ow, ob_rf, putOb, reob_ow, reob_rf, x_fld, KCh2, KCh1, x_chain, kCh3_b, KM2, x_m1, isStr_s, KNw, x_new, x_noP, x_p, kP_i, KCt2, KCt1, KCt0, x_cutT, kCt3_t, KPb, KPa, x_par2, x_rep, kRp_s, x_wo, KRs, x_raise, ok_and, ok_or, okb_and, okb_or, List.getElem?_cons_zero, List.getElem?_cons_succ, List.set_cons_zero, List.set_cons_succ, List.map_cons, List.map_nil, List.append_nil, List.nil_append, List.cons_append, List.length_cons, List.length_nil, List.replicate_succ, List.replicate_zero, Option.isSome_some, Option.isSome_none, Option.bind_some, Option.bind_none, Nat.reduceAdd, Nat.reduceSub, Nat.reduceMul, Nat.reduceLeDiff, Nat.reduceLT, Nat.reduceBEq, Nat.reduceEqDiff, Nat.beq_refl, if_true, if_false, reduceIte, Bool.false_eq_true, Bool.not_true, Bool.not_false, Bool.not_not, decide_eq_true_eq, decide_true, decide_false, Bool.and_true, Bool.true_and, Bool.and_false, Bool.false_and, Bool.or_true, Bool.true_or, Bool.or_false, Bool.false_or, Bool.not_eq_true', decide_eq_false_iff_not, dLe_i, dLt_i, dGt_i, dGe_i, dAdd_i, dSub_i, gLen_t, gLen_l, gTup_2, gTup_3, gTup_1, gTup_0, gTup_4, isN_n, notN_n, isN_t, notN_t, items_t, items_l, k_held, decide_eq_false hh]
  obtain ⟨k0, k1', y, hy, hk2, hym⟩ := of_pw (ds := [.str "on", .str "on", .str "off"]) hg (by simp) (by simp)
  obtain ⟨sw', rfl⟩ : ∃ sw' : Bool, y = .str (swS sw') := by
    simp only [List.mem_cons, List.not_mem_nil, or_false] at hym
    rcases hym with rfl | rfl | rfl
    · exact ⟨true, rfl⟩
    · exact ⟨true, rfl⟩
    · exact ⟨false, rfl⟩
  have hwl5 : ws.length ≤ 5 := by omega
  refine ⟨k0, k1', ⟨sw', ky, isort leT ws⟩, ?_, hk2, ⟨by cases sw' <;> simp [swS], ky.is, by rw [isort_length]; exact hwl5, fun t ht => hwt t (mem_isort.mp ht), ?_, ?_⟩, by show (isort leT ws).length ≤ n; rw [isort_length]; omega⟩
  · unfold g__law_standing
    rw [pw_gOf]
    unfold f__law_standing
    have hR : KR1 [.rf (bagO c0 c1), .sh j.pts, .sh (.int n), .un, .un, .un, .un] [.int r] = .ok [.rf (bagO c0 c1), .sh j.pts, .sh (.int n), .un, .un, .un, .un] (rangeD 0 r.toNat) := kR1_i (by omega) (by omega)
    have l4 : ∀ a b c d : D, DL.gLst [a, b, c, d] = some (.lst [a, b, c, d]) := fun _ _ _ _ => rfl
    have l3 : ∀ a b c : D, DL.gLst [a, b, c] = some (.lst [a, b, c]) := fun _ _ _ => rfl
    have gt : ∀ ds : List D, gTuple [.lst ds] = some (.tup ds) := fun _ => rfl
    rcases h5 with rfl | ⟨d5, rfl⟩
    · simp -implicitDefEqProofs only [x_ixO, KIx, kIx2_l, x_setIx, KSx1, KSx2, kSx3_l, kSx4_s, x_bor, kBo_ok, x_borT, kBT_ok, sh_ow, sh_rf, sh_sh, sh_un, imm_i, imm_b, imm_s, pwFl_rt, pwFl_nx, x_callA, KCA, x_aNo, x_aPl, KPl, x_aKw, KKa, KKb, pa_pl, x_lc, unAt_0, unAt_s, b_ok, b_er, b_no, b_if, lift_s, lift_n, lift_if, unpv_val, unpv_new, unpv_err, unpv_if, pvFl_rt, pvFl_fr, pvFl_nx, pvFl_er, pvFl_if, unpw_val, x_var, rdV_sh, x_c, K1, x_f1, K2b, K2a, x_f2, x_nil, KCb, KCa, x_cons, KStb, KStar, x_star, ksta_s, KN, x_n, x_test, kTe_bl, KAn, x_and, KOr, x_or, KNo, x_not, KIe, x_if, x_andV, kAV_bl, x_orV, kOV_bl, x_notV, kNV_bl, x_sNil, x_seq, kSq_nx, kSq_rt, kSq_bk, kSq_ct, KRt, x_ret, KEx, x_exp, KIs, x_ifS, optR_s, KSe, x_set, KSO, x_setO, put, free_un, free_sh, free_ow, KSh, x_sh, KLs, x_lst, x_nm, x_gnil, x_gcons, x_gtp, x_gls, KAs, x_asg, KQ, x_q, x_iS, kiS_s, x_r1, x_for, KFo, KCl, x_call, x_shR, kSR_sh, kSR_fr, x_frR, kFR_fr, kCRb_s, KCR, x_callR, ob_ow, ob_rf, putOb, reob_ow, reob_rf, x_fld, KCh2, KCh1, x_chain, kCh3_b, KM2, x_m1, isStr_s, KNw, x_new, x_noP, x_p, kP_i, KCt2, KCt1, KCt0, x_cutT, kCt3_t, KPb, KPa, x_par2, x_rep, kRp_s, x_wo, KRs, x_raise, ok_and, ok_or, okb_and, okb_or, List.getElem?_cons_zero, List.getElem?_cons_succ, List.set_cons_zero, List.set_cons_succ, List.map_cons, List.map_nil, List.append_nil, List.nil_append, List.cons_append, List.length_cons, List.length_nil, List.replicate_succ, List.replicate_zero, Option.isSome_some, Option.isSome_none, Option.bind_some, Option.bind_none, Nat.reduceAdd, Nat.reduceSub, Nat.reduceMul, Nat.reduceLeDiff, Nat.reduceLT, Nat.reduceBEq, Nat.reduceEqDiff, Nat.beq_refl, if_true, if_false, reduceIte, Bool.false_eq_true, Bool.not_true, Bool.not_false, Bool.not_not, decide_eq_true_eq, decide_true, decide_false, Bool.and_true, Bool.true_and, Bool.and_false, Bool.false_and, Bool.or_true, Bool.true_or, Bool.or_false, Bool.false_or, Bool.not_eq_true', decide_eq_false_iff_not, dLe_i, dLt_i, dGt_i, dGe_i, dAdd_i, dSub_i, gLen_t, gLen_l, gTup_2, gTup_3, gTup_1, gTup_0, gTup_4, isN_n, notN_n, isN_t, notN_t, items_t, items_l, ht, hR, hd1, ↓su, l4, hx, ↓sk, ↓sw, l3, hy, sort_tk (show ws.length ≤ 900 by omega), gt, imm_tt]
      rfl
    · simp -implicitDefEqProofs only [x_ixO, KIx, kIx2_l, x_setIx, KSx1, KSx2, kSx3_l, kSx4_s, x_bor, kBo_ok, x_borT, kBT_ok, sh_ow, sh_rf, sh_sh, sh_un, imm_i, imm_b, imm_s, pwFl_rt, pwFl_nx, x_callA, KCA, x_aNo, x_aPl, KPl, x_aKw, KKa, KKb, pa_pl, x_lc, unAt_0, unAt_s, b_ok, b_er, b_no, b_if, lift_s, lift_n, lift_if, unpv_val, unpv_new, unpv_err, unpv_if, pvFl_rt, pvFl_fr, pvFl_nx, pvFl_er, pvFl_if, unpw_val, x_var, rdV_sh, x_c, K1, x_f1, K2b, K2a, x_f2, x_nil, KCb, KCa, x_cons, KStb, KStar, x_star, ksta_s, KN, x_n, x_test, kTe_bl, KAn, x_and, KOr, x_or, KNo, x_not, KIe, x_if, x_andV, kAV_bl, x_orV, kOV_bl, x_notV, kNV_bl, x_sNil, x_seq, kSq_nx, kSq_rt, kSq_bk, kSq_ct, KRt, x_ret, KEx, x_exp, KIs, x_ifS, optR_s, KSe, x_set, KSO, x_setO, put, free_un, free_sh, free_ow, KSh, x_sh, KLs, x_lst, x_nm, x_gnil, x_gcons, x_gtp, x_gls, KAs, x_asg, KQ, x_q, x_iS, kiS_s, x_r1, x_for, KFo, KCl, x_call, x_shR, kSR_sh, kSR_fr, x_frR, kFR_fr, kCRb_s, KCR, x_callR, ob_ow, ob_rf, putOb, reob_ow, reob_rf, x_fld, KCh2, KCh1, x_chain, kCh3_b, KM2, x_m1, isStr_s, KNw, x_new, x_noP, x_p, kP_i, KCt2, KCt1, KCt0, x_cutT, kCt3_t, KPb, KPa, x_par2, x_rep, kRp_s, x_wo, KRs, x_raise, ok_and, ok_or, okb_and, okb_or, List.getElem?_cons_zero, List.getElem?_cons_succ, List.set_cons_zero, List.set_cons_succ, List.map_cons, List.map_nil, List.append_nil, List.nil_append, List.cons_append, List.length_cons, List.length_nil, List.replicate_succ, List.replicate_zero, Option.isSome_some, Option.isSome_none, Option.bind_some, Option.bind_none, Nat.reduceAdd, Nat.reduceSub, Nat.reduceMul, Nat.reduceLeDiff, Nat.reduceLT, Nat.reduceBEq, Nat.reduceEqDiff, Nat.beq_refl, if_true, if_false, reduceIte, Bool.false_eq_true, Bool.not_true, Bool.not_false, Bool.not_not, decide_eq_true_eq, decide_true, decide_false, Bool.and_true, Bool.true_and, Bool.and_false, Bool.false_and, Bool.or_true, Bool.true_or, Bool.or_false, Bool.false_or, Bool.not_eq_true', decide_eq_false_iff_not, dLe_i, dLt_i, dGt_i, dGe_i, dAdd_i, dSub_i, gLen_t, gLen_l, gTup_2, gTup_3, gTup_1, gTup_0, gTup_4, isN_n, notN_n, isN_t, notN_t, items_t, items_l, ht, hR, hd1, ↓su, l4, hx, ↓sk, ↓sw, l3, hy, sort_tk (show ws.length ≤ 900 by omega), gt, imm_tt]
      rfl
  · rw [← isort_map]
    exact isort_pw leD_total _
  · show ((isort leT ws).filter (·.k)).length = _
    rw [((isort_perm ws).filter _).length_eq, hwk]
    cases ky <;> rfl
end LP

end

section
set_option Elab.async false
set_option linter.all false
set_option maxRecDepth 100000
set_option maxHeartbeats 2000000
/-! TI: loops of the laws; what their own lists are. -/
namespace LP
open PySem L2 DL LW
theorem loop_inv {g : D → Ev → Option Ev} {fb : Ev → Rs Fl} {I : Ev → Prop} : ∀ (ds : List D) (env : Ev), I env → (∀ d ∈ ds, ∀ e, I e → ∃ e1 e2, g d e = some e1 ∧ fb e1 = .ok e2 .nx ∧ I e2) → ∃ e', loopF g fb ds env = .ok e' .nx ∧ I e'
  | [], env, i, _ => ⟨env, rfl, i⟩
  | d :: r, env, i, h => by
    obtain ⟨e1, e2, h1, h2, h3⟩ := h d List.mem_cons_self env i
    obtain ⟨e', q1, q2⟩ := loop_inv r e2 h3 fun x hx => h x (List.mem_cons_of_mem _ hx)
    refine ⟨e', ?_, q2⟩
    unfold loopF
    rw [h1]
    dsimp only
    rw [h2]
    exact q1
theorem mem_range {d : D} {n : Nat} (h : d ∈ rangeD 0 n) : ∃ i : Nat, i < n ∧ d = .int (i : Int) := by
  obtain ⟨i, hi, rfl⟩ := List.mem_map.mp h
  exact ⟨i, List.mem_range.mp hi, by simp⟩
def FreeAll (zs : List Sl) : Prop := ∀ z ∈ zs, free (some z) = true
theorem rep_free (n : Nat) : FreeAll (List.replicate n .un) := fun z hz => by rw [(List.mem_replicate.mp hz).2]; rfl
/-- all turns of a law over jobs -/
theorem law_outer {rs : Ev → Rs Fl} {B nz : Nat} (hB : 1 ≤ B) (hB2 : B ≤ 1000) (ns : List Int)
    (h : ∀ j : Jb, j.Ok 8 → ∀ (S A : D) (b0 b1 : Int) (zs : List Sl), BagOk b0 b1 → FreeAll zs → zs.length = nz → ∃ c0 c1 zs', BagOk c0 c1 ∧ FreeAll zs' ∧ zs'.length = nz ∧ rs (.sh S :: .sh A :: .ow (bagO b0 b1) :: .sh j.pts :: .sh j.d :: zs) = .ok (.sh S :: .sh A :: .ow (bagO c0 c1) :: .sh j.pts :: .sh j.d :: zs') .nx) :
    ∃ e, fSeq (fFor (fiR1 (fCons (fN gMax (fCons (fC (.int 1)) (fCons (fN gMin (fCons (fC (.int B)) (fCons (fN gLen (fCons (fVar 0) fNil)) fNil))) fNil))) fNil)) (gNm 1) (fSeq (fSetO 2 (fFrR (fCall 2 g__law_bag [] (fCons (fVar 0) (fCons (fVar 1) fNil))))) (fSeq (fSet 3 (fShR (fCallR 2 2 g__law_parts [] (fCons (fC (.int 8)) fNil)))) (fSeq (fSet 4 (fShR (fCall 1 g__law_job [] (fCons (fVar 3) fNil)))) rs)))) (fRet (fC (.bl true))) ([.sh (.fz (ns.map .int))] ++ List.replicate (4 + nz) .un) = .ok e (.rt (.sh (.bl true))) := by
  refine law_rg hB hB2 (I := fun e => ∃ A x2 x3 x4 zs, e = .sh (.fz (ns.map .int)) :: A :: x2 :: x3 :: x4 :: zs ∧ free (some A) = true ∧ free (some x2) = true ∧ free (some x3) = true ∧ free (some x4) = true ∧ FreeAll zs ∧ zs.length = nz) ns _ rfl ?_ ?_
  · refine ⟨.un, .un, .un, .un, List.replicate nz .un, ?_, rfl, rfl, rfl, rfl, rep_free nz, by simp⟩
    rw [Nat.add_comm, List.replicate_succ, List.replicate_succ, List.replicate_succ, List.replicate_succ]
    rfl
  · rintro a e ha ⟨A, x2, x3, x4, zs, rfl, fA, f2, f3, f4, fz, hz⟩
    obtain ⟨eb, b0, b1, hb, hbo⟩ := bag_ok ns (a := (a : Int)) (by omega) (by omega)
    obtain ⟨ep, c0, c1, rows, last, start, w, l, hp, hco, pp⟩ := parts_ok hbo (n := 8) (by decide) (by decide)
    obtain ⟨ej, hjb⟩ := job_ok pp (by decide)
    obtain ⟨j, hjo, rfl, rfl, rfl, rfl, rfl⟩ := jb_of pp
    obtain ⟨d0, d1, zs', hdo, fz', hz', hrs⟩ := h j hjo (.fz (ns.map .int)) (.int a) c0 c1 zs hco fz hz
    exact ⟨.sh (.fz (ns.map .int)) :: .sh (.int a) :: x2 :: x3 :: x4 :: zs, _, (if_pos fA).trans rfl, pre_job (gB := g__law_bag) (gP := g__law_parts) (gJ := g__law_job) hb hp hjb f2 f3 f4 hrs, .sh (.int a), _, _, _, zs', rfl, rfl, rfl, rfl, rfl, fz', hz'⟩
/-- all but one, by places -/
theorem range_erase {α β : Type} {g : α → β} : ∀ (l : List α) (k : Nat) (f : Nat → β), (∀ i (h : i < l.length), f i = g l[i]) → ((List.range l.length).filter (fun i => !decide (i = k))).map f = (l.eraseIdx k).map g
  | [], _, _, _ => rfl
  | x :: r, 0, f, h => by
    rw [List.length_cons, List.range_succ_eq_map, List.filter_cons, if_neg (by simp), List.filter_map, List.map_map, List.eraseIdx_cons_zero]
    have e1 : (List.range r.length).filter ((fun i => !decide (i = 0)) ∘ Nat.succ) = List.range r.length := List.filter_eq_self.mpr fun i _ => by simp
    rw [e1]
    apply List.ext_getElem
    · simp
    · intro i h1 h2
      simp at h1 h2
      simp [h (i + 1) (by simp; omega)]
  | x :: r, k + 1, f, h => by
    rw [List.length_cons, List.range_succ_eq_map, List.filter_cons, if_pos (by simp), List.filter_map, List.map_cons, List.map_map, List.eraseIdx_cons_succ, List.map_cons]
    have e1 : (List.range r.length).filter ((fun i => !decide (i = k + 1)) ∘ Nat.succ) = (List.range r.length).filter (fun i => !decide (i = k)) := List.filter_congr fun i _ => by simp
    rw [e1, range_erase r k (f ∘ Nat.succ) fun i hi => h (i + 1) (Nat.succ_lt_succ hi), h 0 (by simp)]
    rfl
/-- the token at a place -/
def atD (ts : List Tk) (i : Nat) : D := match ts[i]? with
  | some t => t.d
  | none => .non
theorem atD_ix {ts : List Tk} {i : Nat} (h : i < ts.length) : dIx (.tup (ts.map Tk.d)) (.int (i : Int)) = some (atD ts i) := by
  have : ts[i]? = some ts[i] := List.getElem?_eq_getElem h
  unfold atD
  rw [this]
  exact ix_tk this
theorem erase_rg {ts : List Tk} {k : Nat} : ((List.range ts.length).filter (fun i => !decide (i = k))).map (atD ts) = (ts.eraseIdx k).map Tk.d := range_erase ts k _ fun i h => by
  unfold atD
  rw [List.getElem?_eq_getElem h]
theorem nat_eq (i k : Nat) : decide ((i : Int) = (k : Int)) = decide (i = k) := by
  by_cases h : i = k
  · simp [h]
  · rw [decide_eq_false h, decide_eq_false (by omega)]
theorem rg_map (n : Nat) : rangeD 0 n = (List.range n).map fun i : Nat => D.int (i : Int) := by
  unfold rangeD
  congr 1
  funext i
  simp
theorem kR1_n {n : Nat} (h : n ≤ 1000) {e : Ev} : KR1 e [.int (n : Int)] = .ok e (rangeD 0 n) := by
  unfold KR1
  dsimp only
  rw [if_pos (okR_small (by omega) (by omega)), Int.toNat_natCast]
theorem sg_ok (s : Sg) : ∃ p, okP 5 s.d p := by
  obtain ⟨sw, ky, ts⟩ := s
  refine okP_tup (n := 4) fun d hd => ?_
  simp only [List.mem_cons, List.not_mem_nil, or_false] at hd
  rcases hd with rfl | rfl | rfl
  · cases sw <;> exact okB_ok (by kernel_rfl)
  · cases ky <;> exact okB_ok (by kernel_rfl)
  · exact okP_tup tks_ok
theorem odn_ok (o : Option Sg) : ∃ p, okP 5 (odn o) p := by
  cases o with
  | none => exact okB_ok (by kernel_rfl)
  | some s => exact sg_ok s
theorem ne_sg {s : Sg} : dNe s.d s.d = some (.bl false) := dNe_same (by decide) (sg_ok s)
theorem ne_t0 : dNe (.tup []) (.tup []) = some (.bl false) := by kernel_rfl
theorem ne_odn {o : Option Sg} : dNe (odn o) (odn o) = some (.bl false) := dNe_same (by decide) (odn_ok o)
end LP

end

section
set_option Elab.async false
set_option linter.all false
set_option maxRecDepth 100000
set_option maxHeartbeats 2000000
/-! TJ: standings compared; lengths. -/
namespace LP
open PySem L2 DL LW
theorem keyT_len (ky : Ky) (l : List Tk) : (keyT ky l).length = l.length := by unfold keyT; split <;> simp
theorem madeT_len (sw : Bool) (ky : Ky) (l : List Tk) : (madeT sw ky l).ts.length = l.length := by
  show (isort leT (keyT ky l)).length = _
  rw [isort_length, keyT_len]
theorem started_len {j : Jb} {s r : Sg} (h : startedT j s = some r) : r.ts.length = s.ts.length + 1 := by
  unfold startedT at h
  split at h
  · cases h
  · split at h <;> (cases h; rw [madeT_len]; split <;> simp)
theorem sg_items (s : Sg) : ∀ d ∈ [D.str (swS s.sw), .str s.ky.s, .tup (s.ts.map Tk.d)], ∃ p, okP 4 d p := fun d hd => by
  obtain ⟨sw, ky, ts⟩ := s
  simp only [List.mem_cons, List.not_mem_nil, or_false] at hd
  rcases hd with rfl | rfl | rfl
  · cases sw <;> exact okB_ok (by kernel_rfl)
  · cases ky <;> exact okB_ok (by kernel_rfl)
  · exact okP_tup tks_ok
theorem eq_sg {s : Sg} : dEq s.d s.d = some (.bl true) := dEq_same (by decide) (sg_ok s)
theorem eq_t0 (s : Sg) : dEq (.tup []) s.d = some (.bl false) := dEq_tlen (n := 4) (by decide) (fun _ h => by cases h) (sg_items s) (by simp)
theorem eq_sgl {s r : Sg} (h : r.ts.length ≠ s.ts.length) : dEq r.d s.d = some (.bl false) := by
  obtain ⟨ps, a1, a2⟩ := okP.tup (n := 3) (ds := r.ts.map Tk.d) tks_ok
  obtain ⟨qs, b1, b2⟩ := okP.tup (n := 3) (ds := s.ts.map Tk.d) tks_ok
  obtain ⟨p, hp⟩ := sg_ok r
  obtain ⟨q, hq⟩ := sg_ok s
  have ep : p = .tuple [.str (swS r.sw), .str r.ky.s, .tuple ps] := by
    have := hp.1
    simp only [Sg.d, toPy, toPyA, a2, Option.map_some] at this
    exact (Option.some.inj this).symm
  have eq : q = .tuple [.str (swS s.sw), .str s.ky.s, .tuple qs] := by
    have := hq.1
    simp only [Sg.d, toPy, toPyA, b2, Option.map_some] at this
    exact (Option.some.inj this).symm
  unfold dEq
  rw [eqD_of hp hq (by omega) (by omega) (by intro z; simp [Sg.d])]
  have : PyData.eqv p q = false := by
    cases e : PyData.eqv p q with
    | false => rfl
    | true =>
      rw [ep, eq] at e
      simp only [PyData.eqv, PyData.eqvAll, Bool.and_eq_true] at e
      have := eqvAll_len e.2.2.1
      rw [toPyA_len a2, toPyA_len b2, List.length_map, List.length_map] at this
      exact absurd this h
  rw [this]
  rfl
theorem int_ok (i : Int) : ∃ p, okP 3 (.int i) p := okB_ok (by kernel_rfl)
theorem ints_nil {ts : List Tk} : dEq (.lst (ts.map fun t => D.int t.p)) (.lst []) = some (.bl (decide (ts.length = 0))) := by
  rw [dEq_nil (n := 3) (by decide) fun d hd => by obtain ⟨t, _, rfl⟩ := List.mem_map.mp hd; exact int_ok _]
  cases ts <;> rfl
theorem tks_nil {ts : List Tk} : dEq (.lst (ts.map Tk.d)) (.lst []) = some (.bl ts.isEmpty) := by
  rw [dEq_nil (n := 3) (by decide) tks_ok, emp_tk]
theorem zero_notin {ts : List Tk} : dNotIn (.int 0) (.lst (ts.map fun t => D.int t.p)) = some (.bl (ts.all fun t => !decide (t.p = 0))) := by
  have h1 : (ts.map fun t => D.int t.p).all flatD = true := by simp [flatD]
  have h2 : (ts.map fun t => D.int t.p).any (fun d => eqF d (.int 0)) = ts.any fun t => decide (t.p = 0) := by
    rw [List.any_map]
    congr
  have h3 : ∀ l : List Tk, (!l.any fun t => decide (t.p = 0)) = l.all fun t => !decide (t.p = 0) := fun l => by
    induction l with
    | nil => rfl
    | cons t r ih => simp only [List.any_cons, List.all_cons, Bool.not_or, ih]
  unfold dNotIn dInF
  simp only [itemsD, h1, flatD, and_self, if_true, h2, Option.some_or]
  rw [h3]
def PlainAll (zs : List Sl) : Prop := ∀ z ∈ zs, plainSl (some z) = true
theorem plain_free {z : Sl} (h : plainSl (some z) = true) : free (some z) = true := by cases z <;> first | rfl | cases h
/-- all turns of a law over jobs, the rest of the slots plain -/
theorem law_outerP {rs : Ev → Rs Fl} {B nz : Nat} (hB : 1 ≤ B) (hB2 : B ≤ 1000) (ns : List Int)
    (h : ∀ j : Jb, j.Ok 8 → ∀ (S A : D) (b0 b1 : Int) (zs : List Sl), BagOk b0 b1 → PlainAll zs → zs.length = nz → ∃ c0 c1 zs', BagOk c0 c1 ∧ PlainAll zs' ∧ zs'.length = nz ∧ rs (.sh S :: .sh A :: .ow (bagO b0 b1) :: .sh j.pts :: .sh j.d :: zs) = .ok (.sh S :: .sh A :: .ow (bagO c0 c1) :: .sh j.pts :: .sh j.d :: zs') .nx) :
    ∃ e, fSeq (fFor (fiR1 (fCons (fN gMax (fCons (fC (.int 1)) (fCons (fN gMin (fCons (fC (.int B)) (fCons (fN gLen (fCons (fVar 0) fNil)) fNil))) fNil))) fNil)) (gNm 1) (fSeq (fSetO 2 (fFrR (fCall 2 g__law_bag [] (fCons (fVar 0) (fCons (fVar 1) fNil))))) (fSeq (fSet 3 (fShR (fCallR 2 2 g__law_parts [] (fCons (fC (.int 8)) fNil)))) (fSeq (fSet 4 (fShR (fCall 1 g__law_job [] (fCons (fVar 3) fNil)))) rs)))) (fRet (fC (.bl true))) ([.sh (.fz (ns.map .int))] ++ List.replicate (4 + nz) .un) = .ok e (.rt (.sh (.bl true))) := by
  refine law_rg hB hB2 (I := fun e => ∃ A x2 x3 x4 zs, e = .sh (.fz (ns.map .int)) :: A :: x2 :: x3 :: x4 :: zs ∧ free (some A) = true ∧ free (some x2) = true ∧ free (some x3) = true ∧ free (some x4) = true ∧ PlainAll zs ∧ zs.length = nz) ns _ rfl ?_ ?_
  · refine ⟨.un, .un, .un, .un, List.replicate nz .un, ?_, rfl, rfl, rfl, rfl, fun z hz => by rw [(List.mem_replicate.mp hz).2]; rfl, by simp⟩
    rw [Nat.add_comm, List.replicate_succ, List.replicate_succ, List.replicate_succ, List.replicate_succ]
    rfl
  · rintro a e ha ⟨A, x2, x3, x4, zs, rfl, fA, f2, f3, f4, fz, hz⟩
    obtain ⟨eb, b0, b1, hb, hbo⟩ := bag_ok ns (a := (a : Int)) (by omega) (by omega)
    obtain ⟨ep, c0, c1, rows, last, start, w, l, hp, hco, pp⟩ := parts_ok hbo (n := 8) (by decide) (by decide)
    obtain ⟨ej, hjb⟩ := job_ok pp (by decide)
    obtain ⟨j, hjo, rfl, rfl, rfl, rfl, rfl⟩ := jb_of pp
    obtain ⟨d0, d1, zs', hdo, fz', hz', hrs⟩ := h j hjo (.fz (ns.map .int)) (.int a) c0 c1 zs hco fz hz
    exact ⟨.sh (.fz (ns.map .int)) :: .sh (.int a) :: x2 :: x3 :: x4 :: zs, _, (if_pos fA).trans rfl, pre_job (gB := g__law_bag) (gP := g__law_parts) (gJ := g__law_job) hb hp hjb f2 f3 f4 hrs, .sh (.int a), _, _, _, zs', rfl, rfl, rfl, rfl, rfl, fz', hz'⟩
end LP

end

section
set_option Elab.async false
set_option linter.all false
set_option maxRecDepth 100000
set_option maxHeartbeats 2000000
/-! EH: texts, run; comprehensions over a slot that has a value. -/
namespace DL
open PySem L2 TL
def KJo (r : List (Ev → Rs D)) (acc : Str) (e : Ev) : D → Rs D
  | .str y => if szS (acc ++ y) = true then joinF r (acc ++ y) e else .no
  | _ => .no
section
variable {env e : Ev} {fa fb : Ev → Rs D} {f : Ev → Rs D} {r : List (Ev → Rs D)} {acc y : Str} {d : D} {ds : List D}
theorem x_join {f : Ev → Rs D} : joinF (f :: r) acc env = (f env).bind (KJo r acc) := by
  unfold joinF KJo
  congr
theorem x_join0 : joinF [] acc env = .ok env (.str acc) := rfl
theorem kJo_s : KJo r acc e (.str y) = if szS (acc ++ y) = true then joinF r (acc ++ y) e else .no := rfl
def KSp2 (a : Str) (e : Ev) : D → Rs (List D)
  | .str b => if szS a = true ∧ (b.length == 0) = false then .ok e ((Txt.split a b).map .str) else .no
  | _ => .no
def KSp1 (fb : Ev → Rs D) (e : Ev) : D → Rs (List D)
  | .str a => (fb e).bind (KSp2 a)
  | _ => .no
theorem x_split : fSplit fa fb env = (fa env).bind (KSp1 fb) := by
  unfold fSplit KSp1
  congr
theorem kSp1_s {a : Str} : KSp1 fb e (.str a) = (fb e).bind (KSp2 a) := rfl
theorem kSp2_s {a b : Str} (h : szS a = true) (hb : (b.length == 0) = false) : KSp2 a e (.str b) = .ok e ((Txt.split a b).map .str) := if_pos ⟨h, hb⟩
def KCl3 (l h : Option Int) (e : Ev) : D → Rs (List D)
  | .lst ds => .ok e (cutD ds l h)
  | .fz ds => .ok e (cutD ds l h)
  | _ => .no
def KCl2 (x : D) (l : Option Int) (e : Ev) (h : Option Int) : Rs (List D) := KCl3 l h e x
def KCl1 (fh : Ev → Rs (Option Int)) (x : D) (e : Ev) (l : Option Int) : Rs (List D) := (fh e).bind (KCl2 x l)
def KCl0 (fp fh : Ev → Rs (Option Int)) (e : Ev) (x : D) : Rs (List D) := (fp e).bind (KCl1 fh x)
theorem x_cutL {fp fh : Ev → Rs (Option Int)} : fCutL fa fp fh env = (fa env).bind (KCl0 fp fh) := by
  unfold fCutL
  congr
theorem kCl3_l {l h : Option Int} : KCl3 l h e (.lst ds) = .ok e (cutD ds l h) := rfl
def KAS (gs : List D → Ev → Option Ev) (e : Ev) : D → Rs Fl
  | .lst (x :: xs) => if Nat.ble xs.length 1000 = true then optR (gs [x, .lst xs] e) else .no
  | _ => .no
theorem x_asgS {gs : List D → Ev → Option Ev} : fAsgS fa gs env = (fa env).bind (KAS gs) := by
  unfold fAsgS
  congr
theorem kAS_l {gs : List D → Ev → Option Ev} {x : D} (h : ds.length ≤ 1000) : KAS gs e (.lst (x :: ds)) = optR (gs [x, .lst ds] e) := if_pos (Nat.ble_eq_true_of_le h)
theorem dAdd_s {x y : Str} (h : x.length + y.length ≤ 100000) : dAdd (.str x) (.str y) = some (.str (x ++ y)) := by
  have e : dAddS (.str x) (.str y) = some (.str (x ++ y)) := if_pos (Nat.ble_eq_true_of_le h)
  show (dAddS (.str x) (.str y)).or _ = _
  rw [e]
  rfl
theorem len_app (x y : Str) : (x ++ y).length = x.length + y.length := by rw [len_tl, tl_append, List.length_append, ← len_tl, ← len_tl]
theorem app_assoc (x y z : Str) : x ++ y ++ z = x ++ (y ++ z) := ext_tl (by simp only [tl_append, List.append_assoc])
theorem joinL_snoc (S : List Nat) : ∀ (l : List (List Nat)) (x : List Nat), l ≠ [] → joinL S (l ++ [x]) = joinL S l ++ (S ++ x)
  | [p], x, _ => rfl
  | p :: q :: r, x, _ => by
    show p ++ (S ++ joinL S ((q :: r) ++ [x])) = p ++ (S ++ joinL S (q :: r)) ++ (S ++ x)
    rw [joinL_snoc S (q :: r) x (by simp)]
    simp
theorem join_snoc {y x : Str} {l : List Str} (h : l ≠ []) : Txt.join y (l ++ [x]) = Txt.join y l ++ y ++ x := by
  refine ext_tl ?_
  rw [join_eq, tl_join, List.map_append, List.map_cons, List.map_nil, joinL_snoc _ _ _ (by simpa using h), tl_append, tl_append, join_eq, tl_join, List.append_assoc]
end
/-- a comprehension over a name that may have a value -/
def plAt (e : Ev) (v : Nat) : Bool := plainSl e[v]?
theorem plAt_u {r : Ev} : plAt (.un :: r) 0 = true := Eq.trans rfl rfl
theorem plAt_v {d : D} {r : Ev} : plAt (.sh d :: r) 0 = true := Eq.trans rfl rfl
theorem plAt_s {s : Sl} {r : Ev} {n : Nat} : plAt (s :: r) (n + 1) = plAt r n := Eq.trans rfl rfl
theorem kLf1p {α : Type} {v : Nat} {ft : Ev → Rs Bool} {fe : Ev → Rs D} {env : Ev} {inp out : α → D} {p : α → Bool} {xs : List α} (hu : plAt env v = true) (hl : xs.length ≤ 1000) (ht : ∀ x ∈ xs, ft (env.set v (.sh (inp x))) = .ok (env.set v (.sh (inp x))) (p x)) (h : ∀ x ∈ xs, p x = true → fe (env.set v (.sh (inp x))) = .ok (env.set v (.sh (inp x))) (out x)) : KLc [v] (gNm v) ft fe env (xs.map inp) = .ok env ((xs.filter p).map out) := by
  have hv : v < env.length := plain_lt hu
  have w2 : ∀ x, wipeE (env.set v (.sh (inp x))) [v] = env.set v .un := fun x => by show (List.set (List.set env v (.sh (inp x))) v .un) = _; rw [List.set_set]
  have hp : ∀ s : Sl, put (env.set v .un) v s = some (env.set v s) := fun s => by
    unfold put
    rw [List.getElem?_set_self hv, if_pos free_un, List.set_set]
  have := loopC_filt (vs := [v]) (g := gNm v) (ft := ft) (fe := fe) (e := env.set v .un) (inp := inp) (out := out) (p := p) xs [] (by simpa using hl) fun x hx => ⟨env.set v (.sh (inp x)), _, hp _, ht x hx, w2 x, fun q => ⟨_, h x hx q, w2 x⟩⟩
  unfold KLc
  have hall : ([v].all fun v => plainSl env[v]?) = true := by
    show (plainSl env[v]? && true) = true
    rw [show plainSl env[v]? = true from hu]
    rfl
  rw [if_pos hall]
  show KLb env [v] (loopC [v] (gNm v) ft fe (xs.map inp) [] (env.set v .un)) = _
  rw [this]
  show Rs.ok ((env.set v .un).set v ((env[v]?).getD .un)) _ = _
  rw [List.set_set]
  have : env.set v ((env[v]?).getD .un) = env := by
    rw [List.getElem?_eq_getElem hv]
    exact List.set_getElem_self hv
  rw [this]
  rfl
end DL

end

section
set_option Elab.async false
set_option linter.all false
set_option maxRecDepth 100000
set_option maxHeartbeats 4000000
/-! K08law: the plain law. -/
namespace K08
open PySem L2 DL LP LW TL
def numS (p : Int) : Str := Str.ofString (toString p)
def tokS (t : Tk) : Str := numS t.p ++ flS t.b t.e t.f t.k
theorem p13 {p : Int} (h0 : 0 ≤ p) (h1 : p ≤ 12) : p = 0 ∨ p = 1 ∨ p = 2 ∨ p = 3 ∨ p = 4 ∨ p = 5 ∨ p = 6 ∨ p = 7 ∨ p = 8 ∨ p = 9 ∨ p = 10 ∨ p = 11 ∨ p = 12 := by omega
theorem tok_chk : ∀ p : Fin 13, ∀ b e f k : Bool, (32 ∉ tl (tokS ⟨((p.val : Nat) : Int), b, e, f, k⟩)) ∧ (tokS ⟨((p.val : Nat) : Int), b, e, f, k⟩).length ≤ 6 ∧ (tokS ⟨((p.val : Nat) : Int), b, e, f, k⟩ == ("-" : Str)) = false ∧ (numS ((p.val : Nat) : Int)).length ≤ 2 ∧ (flS b e f k).length ≤ 4 ∧ PyData.strOk (tokS ⟨((p.val : Nat) : Int), b, e, f, k⟩) = true := by decide +kernel
/-- small places -/
def Sm (t : Tk) : Prop := 0 ≤ t.p ∧ t.p ≤ 12
theorem tok_f {t : Tk} (h : Sm t) : (32 ∉ tl (tokS t)) ∧ (tokS t).length ≤ 6 ∧ (tokS t == ("-" : Str)) = false ∧ (numS t.p).length ≤ 2 ∧ (flS t.b t.e t.f t.k).length ≤ 4 ∧ PyData.strOk (tokS t) = true := by
  obtain ⟨p, b, e, f, k⟩ := t
  obtain ⟨h0, h1⟩ := h
  have := tok_chk ⟨p.toNat, by simp at h0 h1; omega⟩ b e f k
  have ep : ((p.toNat : Nat) : Int) = p := by simp at h0; omega
  simp only [ep] at this
  exact this
theorem read_tok {t : Tk} (h : Sm t) : pv g_read_token [.str (tokS t)] = .val t.d := by
  obtain ⟨p, b, e, f, k⟩ := t
  rcases p13 h.1 h.2 with h | h | h | h | h | h | h | h | h | h | h | h | h <;> (simp only at h; subst h; cases b <;> cases e <;> cases f <;> cases k <;> kernel_rfl)
theorem emp_app (x : Str) : Str.empty ++ x = x := ext_tl (by rw [tl_append]; rfl)
theorem fmt_i {p : Int} (h0 : 0 ≤ p) (h1 : p ≤ 12) : gFmt (.int p) = some (.str (numS p)) := if_pos (decide_eq_true ⟨by omega, by omega⟩)
theorem fmt_s {x : Str} (h : x.length ≤ 1000) : gFmt (.str x) = some (.str x) := if_pos (Nat.ble_eq_true_of_le (by omega))
theorem sz_ok {x : Str} (h : x.length ≤ 1000) : szS x = true := Nat.ble_eq_true_of_le (by omega)
def lineS (s : Sg) : List Str := swS s.sw :: s.ky.s :: s.ts.map tokS
def textS (s : Sg) : Str := if s.ts = [] then Txt.join " " [swS s.sw, s.ky.s, "-"] else Txt.join " " (lineS s)
theorem sw_len (b : Bool) : (swS b).length ≤ 3 := by cases b <;> decide
theorem ky_len (k : Ky) : k.s.length ≤ 4 := by cases k <;> decide
theorem sw_32 (b : Bool) : 32 ∉ tl (swS b) := by cases b <;> decide +kernel
theorem ky_32 (k : Ky) : 32 ∉ tl k.s := by cases k <;> decide +kernel
theorem line_len {s : Sg} (h : ∀ t ∈ s.ts, Sm t) : ∀ x ∈ lineS s, x.length ≤ 80 := fun x hx => by
  unfold lineS at hx
  rcases List.mem_cons.mp hx with rfl | hx
  · have := sw_len s.sw; omega
  rcases List.mem_cons.mp hx with rfl | hx
  · have := ky_len s.ky; omega
  obtain ⟨t, ht, rfl⟩ := List.mem_map.mp hx
  have := (tok_f (h t ht)).2.1
  omega
theorem line_32 {s : Sg} (h : ∀ t ∈ s.ts, Sm t) : ∀ x ∈ lineS s, 32 ∉ tl x := fun x hx => by
  unfold lineS at hx
  rcases List.mem_cons.mp hx with rfl | hx
  · exact sw_32 _
  rcases List.mem_cons.mp hx with rfl | hx
  · exact ky_32 _
  obtain ⟨t, ht, rfl⟩ := List.mem_map.mp hx
  exact (tok_f (h t ht)).1
/-! ### show -/
theorem show_e {env : Ev} {ts : List Tk} (h5 : unAt env 5 = true) (h6 : unAt env 6 = true) (hl : ts.length ≤ 800) (h : ∀ t ∈ ts, Sm t) : KLc [5, 6] (gTp (gsCons (gNm 5) (gsCons (gNm 6) gsNil))) fYes f_show_standing_e1 env (ts.map Tk.d) = .ok env ((ts.map tokS).map D.str) := by
  rw [List.map_map]
  refine kLc2 (A := fun t : Tk => .int t.p) (B := fun t : Tk => .str (flS t.b t.e t.f t.k)) (out := fun t => D.str (tokS t)) h5 h6 (by decide) (by omega) fun t ht => ?_
  obtain ⟨_, a1, _, a2, a3, _⟩ := tok_f (h t ht)
  unfold f_show_standing_e1
  simp -implicitDefEqProofs only [x_ixO, KIx, kIx2_l, x_setIx, KSx1, KSx2, kSx3_l, kSx4_s, x_bor, kBo_ok, x_borT, kBT_ok, x_borF, kBF_ok, sh_ow, sh_rf, sh_sh, sh_un, imm_i, imm_b, imm_s, pwFl_rt, pwFl_nx, x_callA, KCA, x_aNo, x_aPl, KPl, x_aKw, KKa, KKb, pa_pl, x_lc, unAt_0, unAt_s, b_ok, b_er, b_no, b_if, lift_s, lift_n, lift_if, unpv_val, unpv_new, unpv_err, unpv_if, pvFl_rt, pvFl_fr, pvFl_nx, pvFl_er, pvFl_if, unpw_val, x_var, rdV_sh, x_c, K1, x_f1, K2b, K2a, x_f2, x_nil, KCb, KCa, x_cons, KStb, KStar, x_star, ksta_s, KN, x_n, x_test, kTe_bl, KAn, x_and, KOr, x_or, KNo, x_not, KIe, x_if, x_andV, kAV_bl, x_orV, kOV_bl, x_notV, kNV_bl, x_sNil, x_seq, kSq_nx, kSq_rt, kSq_bk, kSq_ct, KRt, x_ret, KEx, x_exp, KIs, x_ifS, optR_s, KSe, x_set, KSO, x_setO, put, free_un, free_sh, free_ow, KSh, x_sh, KLs, x_lst, x_nm, x_gnil, x_gcons, x_gtp, x_gls, KAs, x_asg, KQ, x_q, x_iS, kiS_s, x_r1, x_for, KFo, KCl, x_call, x_shR, kSR_sh, kSR_fr, x_frR, kFR_fr, kCRb_s, KCR, x_callR, ob_ow, ob_rf, putOb, reob_ow, reob_rf, x_fld, KCh2, KCh1, x_chain, kCh3_b, KM2, x_m1, isStr_s, KNw, x_new, x_noP, x_p, kP_i, KCt2, KCt1, KCt0, x_cutT, kCt3_t, KPb, KPa, x_par2, x_rep, kRp_s, x_wo, KRs, x_raise, ok_and, ok_or, okb_and, okb_or, List.getElem?_cons_zero, List.getElem?_cons_succ, List.set_cons_zero, List.set_cons_succ, List.map_cons, List.map_nil, List.append_nil, List.nil_append, List.cons_append, List.length_cons, List.length_nil, List.replicate_succ, List.replicate_zero, Option.isSome_some, Option.isSome_none, Option.bind_some, Option.bind_none, Nat.reduceAdd, Nat.reduceSub, Nat.reduceMul, Nat.reduceLeDiff, Nat.reduceLT, Nat.reduceBEq, Nat.reduceEqDiff, Nat.beq_refl, if_true, if_false, reduceIte, Bool.false_eq_true, Bool.not_true, Bool.not_false, Bool.not_not, decide_eq_true_eq, decide_true, decide_false, Bool.and_true, Bool.true_and, Bool.and_false, Bool.false_and, Bool.or_true, Bool.true_or, Bool.or_false, Bool.false_or, Bool.not_eq_true', decide_eq_false_iff_not, Int.lt_irrefl, dLe_i, dLt_i, dGt_i, dGe_i, dAdd_i, dSub_i, gLen_t, gLen_l, gTup_2, gTup_3, gTup_1, gTup_0, gTup_4, isN_n, notN_n, isN_t, notN_t, items_t, items_l, x_join, x_join0, kJo_s, x_split, kSp1_s, kSp2_s, x_cutL, KCl0, KCl1, KCl2, kCl3_l, x_asgS, kAS_l, plAt_u, plAt_v, plAt_s, gt_set2 h5 (show (5 : Nat) ≠ 6 by decide), gt_set (unAt_set h6 (show (5 : Nat) ≠ 6 by decide)), fmt_i (h t ht).1 (h t ht).2, fmt_s (show (flS t.b t.e t.f t.k).length ≤ 1000 by omega), emp_app, sz_ok (show (numS t.p).length ≤ 1000 by omega), sz_ok (show (numS t.p ++ flS t.b t.e t.f t.k).length ≤ 1000 by rw [len_app]; omega)]
  rfl
theorem show_ok (s : Sg) (hl : s.ts.length ≤ 5) (h : ∀ t ∈ s.ts, Sm t) : pv g_show_standing [s.d] = .val (.str (textS s)) := by
  have he : s.ts.length ≤ 800 := by omega
  unfold g_show_standing textS
  rw [pv_gOf]
  unfold f_show_standing
  by_cases hn : s.ts = []
  · obtain ⟨sw, ky, ts⟩ := s
    simp only at hn
    subst hn
    cases sw <;> cases ky <;> kernel_rfl
  · have h0 : (0 : Int) < (s.ts.length : Int) := by have := List.length_pos_iff.mpr hn; omega
    have hg : DL.gLst (D.str (swS s.sw) :: D.str s.ky.s :: (s.ts.map tokS).map D.str) = some (.lst ((lineS s).map D.str)) := gLst_s (by simp; omega)
    have hj : dJoin (.str " ") (.lst ((lineS s).map D.str)) = some (.str (Txt.join " " (lineS s))) := dJoin_ok (by decide) (by simp [lineS]; omega) (line_len h)
    rw [if_neg hn]
    have hse := fun env h5 h6 => show_e (env := env) (ts := s.ts) h5 h6 he h
    simp -implicitDefEqProofs only [x_ixO, KIx, kIx2_l, x_setIx, KSx1, KSx2, kSx3_l, kSx4_s, x_bor, kBo_ok, x_borT, kBT_ok, x_borF, kBF_ok, sh_ow, sh_rf, sh_sh, sh_un, imm_i, imm_b, imm_s, pwFl_rt, pwFl_nx, x_callA, KCA, x_aNo, x_aPl, KPl, x_aKw, KKa, KKb, pa_pl, x_lc, unAt_0, unAt_s, b_ok, b_er, b_no, b_if, lift_s, lift_n, lift_if, unpv_val, unpv_new, unpv_err, unpv_if, pvFl_rt, pvFl_fr, pvFl_nx, pvFl_er, pvFl_if, unpw_val, x_var, rdV_sh, x_c, K1, x_f1, K2b, K2a, x_f2, x_nil, KCb, KCa, x_cons, KStb, KStar, x_star, ksta_s, KN, x_n, x_test, kTe_bl, KAn, x_and, KOr, x_or, KNo, x_not, KIe, x_if, x_andV, kAV_bl, x_orV, kOV_bl, x_notV, kNV_bl, x_sNil, x_seq, kSq_nx, kSq_rt, kSq_bk, kSq_ct, KRt, x_ret, KEx, x_exp, KIs, x_ifS, optR_s, KSe, x_set, KSO, x_setO, put, free_un, free_sh, free_ow, KSh, x_sh, KLs, x_lst, x_nm, x_gnil, x_gcons, x_gtp, x_gls, KAs, x_asg, KQ, x_q, x_iS, kiS_s, x_r1, x_for, KFo, KCl, x_call, x_shR, kSR_sh, kSR_fr, x_frR, kFR_fr, kCRb_s, KCR, x_callR, ob_ow, ob_rf, putOb, reob_ow, reob_rf, x_fld, KCh2, KCh1, x_chain, kCh3_b, KM2, x_m1, isStr_s, KNw, x_new, x_noP, x_p, kP_i, KCt2, KCt1, KCt0, x_cutT, kCt3_t, KPb, KPa, x_par2, x_rep, kRp_s, x_wo, KRs, x_raise, ok_and, ok_or, okb_and, okb_or, List.getElem?_cons_zero, List.getElem?_cons_succ, List.set_cons_zero, List.set_cons_succ, List.map_cons, List.map_nil, List.append_nil, List.nil_append, List.cons_append, List.length_cons, List.length_nil, List.replicate_succ, List.replicate_zero, Option.isSome_some, Option.isSome_none, Option.bind_some, Option.bind_none, Nat.reduceAdd, Nat.reduceSub, Nat.reduceMul, Nat.reduceLeDiff, Nat.reduceLT, Nat.reduceBEq, Nat.reduceEqDiff, Nat.beq_refl, if_true, if_false, reduceIte, Bool.false_eq_true, Bool.not_true, Bool.not_false, Bool.not_not, decide_eq_true_eq, decide_true, decide_false, Bool.and_true, Bool.true_and, Bool.and_false, Bool.false_and, Bool.or_true, Bool.true_or, Bool.or_false, Bool.false_or, Bool.not_eq_true', decide_eq_false_iff_not, Int.lt_irrefl, dLe_i, dLt_i, dGt_i, dGe_i, dAdd_i, dSub_i, gLen_t, gLen_l, gTup_2, gTup_3, gTup_1, gTup_0, gTup_4, isN_n, notN_n, isN_t, notN_t, items_t, items_l, sg_0, sg_1, sg_2, sg_tp, tk_tp, isN_s, notN_s, isN_k, notN_k, tk_0, tk_1, hse, List.length_map, h0, hg, hj]
/-! ### read -/
theorem toks_7 {env : Ev} {ts : List Tk} (hu : unAt env 7 = true) (hl : ts.length ≤ 800) (h : ∀ t ∈ ts, Sm t) : KLc [7] (gNm 7) fYes f_read_standing_e1 env ((ts.map tokS).map D.str) = .ok env (ts.map Tk.d) := by
  rw [List.map_map]
  refine kLc1 (inp := fun t => D.str (tokS t)) (out := Tk.d) hu (by omega) fun t ht => ?_
  unfold f_read_standing_e1
  simp -implicitDefEqProofs only [x_ixO, KIx, kIx2_l, x_setIx, KSx1, KSx2, kSx3_l, kSx4_s, x_bor, kBo_ok, x_borT, kBT_ok, x_borF, kBF_ok, sh_ow, sh_rf, sh_sh, sh_un, imm_i, imm_b, imm_s, pwFl_rt, pwFl_nx, x_callA, KCA, x_aNo, x_aPl, KPl, x_aKw, KKa, KKb, pa_pl, x_lc, unAt_0, unAt_s, b_ok, b_er, b_no, b_if, lift_s, lift_n, lift_if, unpv_val, unpv_new, unpv_err, unpv_if, pvFl_rt, pvFl_fr, pvFl_nx, pvFl_er, pvFl_if, unpw_val, x_var, rdV_sh, x_c, K1, x_f1, K2b, K2a, x_f2, x_nil, KCb, KCa, x_cons, KStb, KStar, x_star, ksta_s, KN, x_n, x_test, kTe_bl, KAn, x_and, KOr, x_or, KNo, x_not, KIe, x_if, x_andV, kAV_bl, x_orV, kOV_bl, x_notV, kNV_bl, x_sNil, x_seq, kSq_nx, kSq_rt, kSq_bk, kSq_ct, KRt, x_ret, KEx, x_exp, KIs, x_ifS, optR_s, KSe, x_set, KSO, x_setO, put, free_un, free_sh, free_ow, KSh, x_sh, KLs, x_lst, x_nm, x_gnil, x_gcons, x_gtp, x_gls, KAs, x_asg, KQ, x_q, x_iS, kiS_s, x_r1, x_for, KFo, KCl, x_call, x_shR, kSR_sh, kSR_fr, x_frR, kFR_fr, kCRb_s, KCR, x_callR, ob_ow, ob_rf, putOb, reob_ow, reob_rf, x_fld, KCh2, KCh1, x_chain, kCh3_b, KM2, x_m1, isStr_s, KNw, x_new, x_noP, x_p, kP_i, KCt2, KCt1, KCt0, x_cutT, kCt3_t, KPb, KPa, x_par2, x_rep, kRp_s, x_wo, KRs, x_raise, ok_and, ok_or, okb_and, okb_or, List.getElem?_cons_zero, List.getElem?_cons_succ, List.set_cons_zero, List.set_cons_succ, List.map_cons, List.map_nil, List.append_nil, List.nil_append, List.cons_append, List.length_cons, List.length_nil, List.replicate_succ, List.replicate_zero, Option.isSome_some, Option.isSome_none, Option.bind_some, Option.bind_none, Nat.reduceAdd, Nat.reduceSub, Nat.reduceMul, Nat.reduceLeDiff, Nat.reduceLT, Nat.reduceBEq, Nat.reduceEqDiff, Nat.beq_refl, if_true, if_false, reduceIte, Bool.false_eq_true, Bool.not_true, Bool.not_false, Bool.not_not, decide_eq_true_eq, decide_true, decide_false, Bool.and_true, Bool.true_and, Bool.and_false, Bool.false_and, Bool.or_true, Bool.true_or, Bool.or_false, Bool.false_or, Bool.not_eq_true', decide_eq_false_iff_not, Int.lt_irrefl, dLe_i, dLt_i, dGt_i, dGe_i, dAdd_i, dSub_i, gLen_t, gLen_l, gTup_2, gTup_3, gTup_1, gTup_0, gTup_4, isN_n, notN_n, isN_t, notN_t, items_t, items_l, gt_set hu, read_tok (h t ht)]
theorem keep_8 {env : Ev} {ts : List Tk} (hu : unAt env 8 = true) (hl : ts.length ≤ 800) : KLc [8] (gNm 8) f_read_standing_t2 f_read_standing_e3 env (ts.map Tk.d) = .ok env (ts.map Tk.d) := by
  have := kLf1 (v := 8) (ft := f_read_standing_t2) (fe := f_read_standing_e3) (env := env) (inp := Tk.d) (out := Tk.d) (p := fun _ => true) (xs := ts) hu (by omega) (fun t _ => by
      unfold f_read_standing_t2
      simp -implicitDefEqProofs only [x_ixO, KIx, kIx2_l, x_setIx, KSx1, KSx2, kSx3_l, kSx4_s, x_bor, kBo_ok, x_borT, kBT_ok, x_borF, kBF_ok, sh_ow, sh_rf, sh_sh, sh_un, imm_i, imm_b, imm_s, pwFl_rt, pwFl_nx, x_callA, KCA, x_aNo, x_aPl, KPl, x_aKw, KKa, KKb, pa_pl, x_lc, unAt_0, unAt_s, b_ok, b_er, b_no, b_if, lift_s, lift_n, lift_if, unpv_val, unpv_new, unpv_err, unpv_if, pvFl_rt, pvFl_fr, pvFl_nx, pvFl_er, pvFl_if, unpw_val, x_var, rdV_sh, x_c, K1, x_f1, K2b, K2a, x_f2, x_nil, KCb, KCa, x_cons, KStb, KStar, x_star, ksta_s, KN, x_n, x_test, kTe_bl, KAn, x_and, KOr, x_or, KNo, x_not, KIe, x_if, x_andV, kAV_bl, x_orV, kOV_bl, x_notV, kNV_bl, x_sNil, x_seq, kSq_nx, kSq_rt, kSq_bk, kSq_ct, KRt, x_ret, KEx, x_exp, KIs, x_ifS, optR_s, KSe, x_set, KSO, x_setO, put, free_un, free_sh, free_ow, KSh, x_sh, KLs, x_lst, x_nm, x_gnil, x_gcons, x_gtp, x_gls, KAs, x_asg, KQ, x_q, x_iS, kiS_s, x_r1, x_for, KFo, KCl, x_call, x_shR, kSR_sh, kSR_fr, x_frR, kFR_fr, kCRb_s, KCR, x_callR, ob_ow, ob_rf, putOb, reob_ow, reob_rf, x_fld, KCh2, KCh1, x_chain, kCh3_b, KM2, x_m1, isStr_s, KNw, x_new, x_noP, x_p, kP_i, KCt2, KCt1, KCt0, x_cutT, kCt3_t, KPb, KPa, x_par2, x_rep, kRp_s, x_wo, KRs, x_raise, ok_and, ok_or, okb_and, okb_or, List.getElem?_cons_zero, List.getElem?_cons_succ, List.set_cons_zero, List.set_cons_succ, List.map_cons, List.map_nil, List.append_nil, List.nil_append, List.cons_append, List.length_cons, List.length_nil, List.replicate_succ, List.replicate_zero, Option.isSome_some, Option.isSome_none, Option.bind_some, Option.bind_none, Nat.reduceAdd, Nat.reduceSub, Nat.reduceMul, Nat.reduceLeDiff, Nat.reduceLT, Nat.reduceBEq, Nat.reduceEqDiff, Nat.beq_refl, if_true, if_false, reduceIte, Bool.false_eq_true, Bool.not_true, Bool.not_false, Bool.not_not, decide_eq_true_eq, decide_true, decide_false, Bool.and_true, Bool.true_and, Bool.and_false, Bool.false_and, Bool.or_true, Bool.true_or, Bool.or_false, Bool.false_or, Bool.not_eq_true', decide_eq_false_iff_not, Int.lt_irrefl, dLe_i, dLt_i, dGt_i, dGe_i, dAdd_i, dSub_i, gLen_t, gLen_l, gTup_2, gTup_3, gTup_1, gTup_0, gTup_4, isN_n, notN_n, isN_t, notN_t, items_t, items_l, gt_set hu, notN_k]) (fun t _ _ => by
      unfold f_read_standing_e3
      simp -implicitDefEqProofs only [x_ixO, KIx, kIx2_l, x_setIx, KSx1, KSx2, kSx3_l, kSx4_s, x_bor, kBo_ok, x_borT, kBT_ok, x_borF, kBF_ok, sh_ow, sh_rf, sh_sh, sh_un, imm_i, imm_b, imm_s, pwFl_rt, pwFl_nx, x_callA, KCA, x_aNo, x_aPl, KPl, x_aKw, KKa, KKb, pa_pl, x_lc, unAt_0, unAt_s, b_ok, b_er, b_no, b_if, lift_s, lift_n, lift_if, unpv_val, unpv_new, unpv_err, unpv_if, pvFl_rt, pvFl_fr, pvFl_nx, pvFl_er, pvFl_if, unpw_val, x_var, rdV_sh, x_c, K1, x_f1, K2b, K2a, x_f2, x_nil, KCb, KCa, x_cons, KStb, KStar, x_star, ksta_s, KN, x_n, x_test, kTe_bl, KAn, x_and, KOr, x_or, KNo, x_not, KIe, x_if, x_andV, kAV_bl, x_orV, kOV_bl, x_notV, kNV_bl, x_sNil, x_seq, kSq_nx, kSq_rt, kSq_bk, kSq_ct, KRt, x_ret, KEx, x_exp, KIs, x_ifS, optR_s, KSe, x_set, KSO, x_setO, put, free_un, free_sh, free_ow, KSh, x_sh, KLs, x_lst, x_nm, x_gnil, x_gcons, x_gtp, x_gls, KAs, x_asg, KQ, x_q, x_iS, kiS_s, x_r1, x_for, KFo, KCl, x_call, x_shR, kSR_sh, kSR_fr, x_frR, kFR_fr, kCRb_s, KCR, x_callR, ob_ow, ob_rf, putOb, reob_ow, reob_rf, x_fld, KCh2, KCh1, x_chain, kCh3_b, KM2, x_m1, isStr_s, KNw, x_new, x_noP, x_p, kP_i, KCt2, KCt1, KCt0, x_cutT, kCt3_t, KPb, KPa, x_par2, x_rep, kRp_s, x_wo, KRs, x_raise, ok_and, ok_or, okb_and, okb_or, List.getElem?_cons_zero, List.getElem?_cons_succ, List.set_cons_zero, List.set_cons_succ, List.map_cons, List.map_nil, List.append_nil, List.nil_append, List.cons_append, List.length_cons, List.length_nil, List.replicate_succ, List.replicate_zero, Option.isSome_some, Option.isSome_none, Option.bind_some, Option.bind_none, Nat.reduceAdd, Nat.reduceSub, Nat.reduceMul, Nat.reduceLeDiff, Nat.reduceLT, Nat.reduceBEq, Nat.reduceEqDiff, Nat.beq_refl, if_true, if_false, reduceIte, Bool.false_eq_true, Bool.not_true, Bool.not_false, Bool.not_not, decide_eq_true_eq, decide_true, decide_false, Bool.and_true, Bool.true_and, Bool.and_false, Bool.false_and, Bool.or_true, Bool.true_or, Bool.or_false, Bool.false_or, Bool.not_eq_true', decide_eq_false_iff_not, Int.lt_irrefl, dLe_i, dLt_i, dGt_i, dGe_i, dAdd_i, dSub_i, gLen_t, gLen_l, gTup_2, gTup_3, gTup_1, gTup_0, gTup_4, isN_n, notN_n, isN_t, notN_t, items_t, items_l, gt_set hu])
  rw [List.filter_eq_self.mpr fun _ _ => rfl] at this
  exact this
theorem none_in (ts : List Tk) : dIn .non (.lst (ts.map Tk.d)) = some (.bl false) := by
  cases ts with
  | nil => kernel_rfl
  | cons t0 r =>
    obtain ⟨ps, hp, h2, h3⟩ := okP.lst (n := 3) (ds := (t0 :: r).map Tk.d) tks_ok
    have hF : dInF false .non (.lst ((t0 :: r).map Tk.d)) = none := by
      simp [dInF, itemsD, flatD, Tk.d, tokD]
    have hD : dInD false .non (.lst ((t0 :: r).map Tk.d)) = some (.bl false) := by
      have hs : SeqAt.shaped (.list ps) = true := hp.shaped (by decide)
      have hn : SeqAt.shaped PyData.none = true := by decide +kernel
      have ha : (ps.any fun z => PyData.eqv z PyData.none) = false := by
        rw [List.any_eq_false]
        intro p hp
        obtain ⟨d, hd, e⟩ := h3 p hp
        obtain ⟨q, hq, rfl⟩ := List.mem_map.mp hd
        have e : toPy (tokD q.p (flS q.b q.e q.f q.k)) = some p := e
        rw [tok_toPy] at e
        cases e
        simp [PyData.eqv]
      simp only [dInD, toPy, h2, hs, hn, ha, Bool.and_self, if_true]
      rfl
    simp only [dIn, hF, hD, Option.none_or, dInS]
theorem str_okP {x : Str} (h : PyData.strOk x = true) : ∃ p, okP 3 (.str x) p := ⟨.str x, rfl, by simp [PyData.canLay0, h], by simp [PyData.depth]⟩
theorem not_dash {t : Tk} {ts : List Tk} (h : ∀ u ∈ t :: ts, Sm u) : dNe (.lst (((t :: ts).map tokS).map D.str)) (.lst [.str "-"]) = some (.bl true) := by
  have a := okP.lst (n := 3) (ds := ((t :: ts).map tokS).map D.str) fun d hd => by
    obtain ⟨x, hx, rfl⟩ := List.mem_map.mp hd
    obtain ⟨u, hu, rfl⟩ := List.mem_map.mp hx
    exact str_okP (tok_f (h u hu)).2.2.2.2.2
  obtain ⟨ps, a1, a2, _⟩ := a
  have b1 : okP 4 (.lst [.str "-"]) (.list [.str "-"]) := ⟨rfl, by decide +kernel, by decide⟩
  unfold dNe
  rw [eqD_of a1 b1 (by omega) (by omega) (by intro z; simp)]
  have : PyData.eqv (.list ps) (.list [.str "-"]) = false := by
    simp only [List.map_cons, toPyA, toPy] at a2
    split at a2
    · rename_i p qs e1 e2
      cases a2
      cases e1
      show (PyData.eqv (.str (tokS t)) (.str "-") && _) = false
      have := (tok_f (h t List.mem_cons_self)).2.2.1
      simp only [PyData.eqv, this, Bool.false_and]
    · cases a2
  rw [this]
  rfl
theorem joinL_len (S : List Nat) : ∀ l : List (List Nat), (joinL S l).length ≤ (l.map List.length).sum + l.length * S.length
  | [] => by simp [joinL]
  | [p] => by simp [joinL]
  | p :: q :: r => by
    have := joinL_len S (q :: r)
    show (p ++ (S ++ joinL S (q :: r))).length ≤ _
    simp only [List.length_append, List.map_cons, List.sum_cons, List.length_cons, Nat.succ_mul] at this ⊢
    omega
theorem sum_le {l : List Nat} {m : Nat} (h : ∀ x ∈ l, x ≤ m) : l.sum ≤ l.length * m := by
  induction l with
  | nil => simp
  | cons a r ih =>
    have h1 := h a List.mem_cons_self
    have h2 := ih fun x hx => h x (List.mem_cons_of_mem _ hx)
    simp only [List.sum_cons, List.length_cons, Nat.succ_mul]
    omega
theorem join_len {l : List Str} (h : ∀ x ∈ l, x.length ≤ 80) (hl : l.length ≤ 8) : (Txt.join " " l).length ≤ 800 := by
  rw [len_tl, join_eq, tl_join]
  have h1 := joinL_len (tl (" " : Str)) (l.map tl)
  have h2 : ((l.map tl).map List.length).sum ≤ (((l.map tl).map List.length)).length * 80 := sum_le fun n hn => by
    obtain ⟨x, hx, rfl⟩ := List.mem_map.mp hn
    obtain ⟨y, hy, rfl⟩ := List.mem_map.mp hx
    rw [← len_tl]
    exact h y hy
  have h3 : (tl (" " : Str)).length = 1 := by decide
  simp only [List.length_map, h3] at h1 h2 ⊢
  omega
theorem text_len {s : Sg} (hl : s.ts.length ≤ 5) (h : ∀ t ∈ s.ts, Sm t) : (textS s).length ≤ 1000 := by
  unfold textS
  split
  · have := join_len (l := [swS s.sw, s.ky.s, "-"]) (fun x hx => by
      simp only [List.mem_cons, List.not_mem_nil, or_false] at hx
      rcases hx with rfl | rfl | rfl
      · have := sw_len s.sw; omega
      · have := ky_len s.ky; omega
      · decide) (by simp)
    omega
  · have := join_len (line_len h) (by simp [lineS]; omega)
    omega
theorem text_split {s : Sg} (h : ∀ t ∈ s.ts, Sm t) : Txt.split (textS s) " " = swS s.sw :: s.ky.s :: (if s.ts = [] then ["-"] else s.ts.map tokS) := by
  unfold textS
  by_cases hn : s.ts = []
  · rw [if_pos hn, if_pos hn]
    refine split_join (y := " ") (s := 32) (S := []) rfl (by decide +kernel) (by simp) fun x hx => ?_
    simp only [List.mem_cons, List.not_mem_nil, or_false] at hx
    rcases hx with rfl | rfl | rfl
    · exact sw_32 _
    · exact ky_32 _
    · decide +kernel
  · rw [if_neg hn, if_neg hn]
    exact split_join (y := " ") (s := 32) (S := []) rfl (by decide +kernel) (by simp [lineS]) (line_32 h)
theorem read_ok {j : Jb} {s : Sg} (v : SgOk j s) (h : ∀ t ∈ s.ts, Sm t) : pv g_read_standing [j.d, .str (textS s)] = .val s.d := by
  have hl := v.len
  have he : s.ts.length ≤ 800 := by omega
  have hz := sz_ok (text_len hl h)
  have hsp := text_split h
  have b1 : (((" " : Str).length) == 0) = false := by decide
  have isi : gIsi [.str (textS s), .ty "str"] = some (.bl true) := rfl
  have gt : ∀ ds : List D, gTuple [.lst ds] = some (.tup ds) := fun _ => rfl
  have fold : D.tup [.str (swS s.sw), .str s.ky.s, .tup (s.ts.map Tk.d)] = s.d := rfl
  have c1 : ∀ ds : List D, cutD ds (some 1) none = ds.drop 1 := fun ds => cut_lo (k := 1)
  have ht7 := fun env hu => toks_7 (env := env) (ts := s.ts) hu he h
  unfold g_read_standing
  rw [pv_gOf]
  unfold f_read_standing
  by_cases hn : s.ts = []
  · rw [if_pos hn] at hsp
    have n2 : ¬ (((0 : Nat) + 1 + 1 : Nat) : Int) < 2 := by decide
    have q1 : dNe (.lst [.str "-"]) (.lst [.str "-"]) = some (.bl false) := by kernel_rfl
    have e0 : (([] : List Tk).map Tk.d) = [] := rfl
    have t0 := ht7
    rw [hn] at t0 fold
    have k0 := fun env hu => keep_8 (env := env) (ts := []) hu (by simp)
    simp only [List.map_nil] at t0 fold k0
    have ni : dIn .non (.lst []) = some (.bl false) := none_in []
    simp -implicitDefEqProofs only [x_ixO, KIx, kIx2_l, x_setIx, KSx1, KSx2, kSx3_l, kSx4_s, x_bor, kBo_ok, x_borT, kBT_ok, x_borF, kBF_ok, sh_ow, sh_rf, sh_sh, sh_un, imm_i, imm_b, imm_s, pwFl_rt, pwFl_nx, x_callA, KCA, x_aNo, x_aPl, KPl, x_aKw, KKa, KKb, pa_pl, x_lc, unAt_0, unAt_s, b_ok, b_er, b_no, b_if, lift_s, lift_n, lift_if, unpv_val, unpv_new, unpv_err, unpv_if, pvFl_rt, pvFl_fr, pvFl_nx, pvFl_er, pvFl_if, unpw_val, x_var, rdV_sh, x_c, K1, x_f1, K2b, K2a, x_f2, x_nil, KCb, KCa, x_cons, KStb, KStar, x_star, ksta_s, KN, x_n, x_test, kTe_bl, KAn, x_and, KOr, x_or, KNo, x_not, KIe, x_if, x_andV, kAV_bl, x_orV, kOV_bl, x_notV, kNV_bl, x_sNil, x_seq, kSq_nx, kSq_rt, kSq_bk, kSq_ct, KRt, x_ret, KEx, x_exp, KIs, x_ifS, optR_s, KSe, x_set, KSO, x_setO, put, free_un, free_sh, free_ow, KSh, x_sh, KLs, x_lst, x_nm, x_gnil, x_gcons, x_gtp, x_gls, KAs, x_asg, KQ, x_q, x_iS, kiS_s, x_r1, x_for, KFo, KCl, x_call, x_shR, kSR_sh, kSR_fr, x_frR, kFR_fr, kCRb_s, KCR, x_callR, ob_ow, ob_rf, putOb, reob_ow, reob_rf, x_fld, KCh2, KCh1, x_chain, kCh3_b, KM2, x_m1, isStr_s, KNw, x_new, x_noP, x_p, kP_i, KCt2, KCt1, KCt0, x_cutT, kCt3_t, KPb, KPa, x_par2, x_rep, kRp_s, x_wo, KRs, x_raise, ok_and, ok_or, okb_and, okb_or, List.getElem?_cons_zero, List.getElem?_cons_succ, List.set_cons_zero, List.set_cons_succ, List.map_cons, List.map_nil, List.append_nil, List.nil_append, List.cons_append, List.length_cons, List.length_nil, List.replicate_succ, List.replicate_zero, Option.isSome_some, Option.isSome_none, Option.bind_some, Option.bind_none, Nat.reduceAdd, Nat.reduceSub, Nat.reduceMul, Nat.reduceLeDiff, Nat.reduceLT, Nat.reduceBEq, Nat.reduceEqDiff, Nat.beq_refl, if_true, if_false, reduceIte, Bool.false_eq_true, Bool.not_true, Bool.not_false, Bool.not_not, decide_eq_true_eq, decide_true, decide_false, Bool.and_true, Bool.true_and, Bool.and_false, Bool.false_and, Bool.or_true, Bool.true_or, Bool.or_false, Bool.false_or, Bool.not_eq_true', decide_eq_false_iff_not, Int.lt_irrefl, dLe_i, dLt_i, dGt_i, dGe_i, dAdd_i, dSub_i, gLen_t, gLen_l, gTup_2, gTup_3, gTup_1, gTup_0, gTup_4, isN_n, notN_n, isN_t, notN_t, items_t, items_l, x_join, x_join0, kJo_s, x_split, kSp1_s, kSp2_s, x_cutL, KCl0, KCl1, KCl2, kCl3_l, x_asgS, kAS_l, plAt_u, plAt_v, plAt_s, isi, hz, b1, hsp, n2, ix_l0, c1, List.drop_succ_cons, List.drop_zero, lst_1, lst_0, q1, t0, k0, gt, fold, ni, is_standing_pv v, Nat.le_refl, Nat.reduceLeDiff]
  · rw [if_neg hn] at hsp
    obtain ⟨t, r, hts⟩ : ∃ t r, s.ts = t :: r := by
      cases hx : s.ts with
      | nil => exact absurd hx hn
      | cons t r => exact ⟨t, r, rfl⟩
    have nd : dNe (.lst ((s.ts.map tokS).map D.str)) (.lst [.str "-"]) = some (.bl true) := by
      rw [hts]
      exact not_dash (by rw [← hts]; exact h)
    have n2 : ¬ (((s.ts.length + 1 : Nat)) : Int) < 2 := by rw [hts]; simp; omega
    have k0 := fun env hu => keep_8 (env := env) (ts := s.ts) hu he
    have l1 : s.ts.length + 1 ≤ 1000 := by omega
    simp -implicitDefEqProofs only [x_ixO, KIx, kIx2_l, x_setIx, KSx1, KSx2, kSx3_l, kSx4_s, x_bor, kBo_ok, x_borT, kBT_ok, x_borF, kBF_ok, sh_ow, sh_rf, sh_sh, sh_un, imm_i, imm_b, imm_s, pwFl_rt, pwFl_nx, x_callA, KCA, x_aNo, x_aPl, KPl, x_aKw, KKa, KKb, pa_pl, x_lc, unAt_0, unAt_s, b_ok, b_er, b_no, b_if, lift_s, lift_n, lift_if, unpv_val, unpv_new, unpv_err, unpv_if, pvFl_rt, pvFl_fr, pvFl_nx, pvFl_er, pvFl_if, unpw_val, x_var, rdV_sh, x_c, K1, x_f1, K2b, K2a, x_f2, x_nil, KCb, KCa, x_cons, KStb, KStar, x_star, ksta_s, KN, x_n, x_test, kTe_bl, KAn, x_and, KOr, x_or, KNo, x_not, KIe, x_if, x_andV, kAV_bl, x_orV, kOV_bl, x_notV, kNV_bl, x_sNil, x_seq, kSq_nx, kSq_rt, kSq_bk, kSq_ct, KRt, x_ret, KEx, x_exp, KIs, x_ifS, optR_s, KSe, x_set, KSO, x_setO, put, free_un, free_sh, free_ow, KSh, x_sh, KLs, x_lst, x_nm, x_gnil, x_gcons, x_gtp, x_gls, KAs, x_asg, KQ, x_q, x_iS, kiS_s, x_r1, x_for, KFo, KCl, x_call, x_shR, kSR_sh, kSR_fr, x_frR, kFR_fr, kCRb_s, KCR, x_callR, ob_ow, ob_rf, putOb, reob_ow, reob_rf, x_fld, KCh2, KCh1, x_chain, kCh3_b, KM2, x_m1, isStr_s, KNw, x_new, x_noP, x_p, kP_i, KCt2, KCt1, KCt0, x_cutT, kCt3_t, KPb, KPa, x_par2, x_rep, kRp_s, x_wo, KRs, x_raise, ok_and, ok_or, okb_and, okb_or, List.getElem?_cons_zero, List.getElem?_cons_succ, List.set_cons_zero, List.set_cons_succ, List.map_cons, List.map_nil, List.append_nil, List.nil_append, List.cons_append, List.length_cons, List.length_nil, List.replicate_succ, List.replicate_zero, Option.isSome_some, Option.isSome_none, Option.bind_some, Option.bind_none, Nat.reduceAdd, Nat.reduceSub, Nat.reduceMul, Nat.reduceLeDiff, Nat.reduceLT, Nat.reduceBEq, Nat.reduceEqDiff, Nat.beq_refl, if_true, if_false, reduceIte, Bool.false_eq_true, Bool.not_true, Bool.not_false, Bool.not_not, decide_eq_true_eq, decide_true, decide_false, Bool.and_true, Bool.true_and, Bool.and_false, Bool.false_and, Bool.or_true, Bool.true_or, Bool.or_false, Bool.false_or, Bool.not_eq_true', decide_eq_false_iff_not, Int.lt_irrefl, dLe_i, dLt_i, dGt_i, dGe_i, dAdd_i, dSub_i, gLen_t, gLen_l, gTup_2, gTup_3, gTup_1, gTup_0, gTup_4, isN_n, notN_n, isN_t, notN_t, items_t, items_l, x_join, x_join0, kJo_s, x_split, kSp1_s, kSp2_s, x_cutL, KCl0, KCl1, KCl2, kCl3_l, x_asgS, kAS_l, plAt_u, plAt_v, plAt_s, isi, hz, b1, hsp, n2, l1, List.length_map, ix_l0, c1, List.drop_succ_cons, List.drop_zero, lst_1, nd, ht7, k0, gt, fold, none_in, is_standing_pv v]
/-! ### the law -/
def pre (s : Sg) (i : Nat) : Str := Txt.join " " (swS s.sw :: s.ky.s :: (s.ts.take i).map tokS)
theorem pre_len {s : Sg} (hl : s.ts.length ≤ 5) (h : ∀ t ∈ s.ts, Sm t) (i : Nat) : (pre s i).length ≤ 800 := by
  refine join_len (fun x hx => ?_) (by simp; omega)
  rcases List.mem_cons.mp hx with rfl | hx
  · have := sw_len s.sw; omega
  rcases List.mem_cons.mp hx with rfl | hx
  · have := ky_len s.ky; omega
  obtain ⟨t, ht, rfl⟩ := List.mem_map.mp hx
  have := (tok_f (h t (List.mem_of_mem_take ht))).2.1
  omega
theorem pre_succ {s : Sg} {i : Nat} {t : Tk} (ht : s.ts[i]? = some t) : pre s i ++ " " ++ numS t.p ++ flS t.b t.e t.f t.k = pre s (i + 1) := by
  obtain ⟨hi, e⟩ := List.getElem?_eq_some_iff.mp ht
  unfold pre
  rw [List.take_succ_eq_append_getElem hi, e, List.map_append, List.map_cons, List.map_nil, ← List.cons_append, ← List.cons_append, join_snoc (by simp)]
  simp only [app_assoc]
  rfl
theorem pre_0 (s : Sg) : swS s.sw ++ " " ++ s.ky.s = pre s 0 := by
  obtain ⟨sw, ky, ts⟩ := s
  cases sw <;> cases ky <;> kernel_rfl
theorem text_loop {s : Sg} (hl : s.ts.length ≤ 5) (h : ∀ t ∈ s.ts, Sm t) {S A G P J T z8 z9 z10 : Sl} (f8 : free (some z8) = true) (p8 : plainSl (some z8) = true) : ∃ x8, free (some x8) = true ∧ plainSl (some x8) = true ∧ loopF (gNm 8) f_law_b1 (s.ts.map Tk.d) [S, A, G, P, J, T, .sh s.d, .sh (.str (pre s 0)), z8, z9, z10] = .ok [S, A, G, P, J, T, .sh s.d, .sh (.str (pre s s.ts.length)), x8, z9, z10] .nx := by
  obtain ⟨e', h1, h2⟩ := loopF_ind (g := gNm 8) (fb := f_law_b1) (I := fun i e => ∃ x8, e = [S, A, G, P, J, T, .sh s.d, .sh (.str (pre s i)), x8, z9, z10] ∧ free (some x8) = true ∧ plainSl (some x8) = true) (s.ts.map Tk.d) 0 [S, A, G, P, J, T, .sh s.d, .sh (.str (pre s 0)), z8, z9, z10] ⟨_, rfl, f8, p8⟩ (by
    rintro i d e hd ⟨x8, rfl, hf, hp⟩
    rw [Nat.zero_add]
    rw [List.getElem?_map] at hd
    obtain ⟨t, ht, rfl⟩ := Option.map_eq_some_iff.mp hd
    have hs := h t (List.mem_of_getElem? ht)
    obtain ⟨_, a1, _, a2, a3, _⟩ := tok_f hs
    have hl0 := pre_len hl h i
    have b1 : (" " : Str).length = 1 := by decide
    have s1 : dAdd (.str (pre s i)) (.str " ") = some (.str (pre s i ++ " ")) := dAdd_s (by omega)
    have s2 : dAdd (.str (pre s i ++ " ")) (.str (numS t.p)) = some (.str (pre s i ++ " " ++ numS t.p)) := dAdd_s (by rw [len_app]; omega)
    have s3 : dAdd (.str (pre s i ++ " " ++ numS t.p)) (.str (flS t.b t.e t.f t.k)) = some (.str (pre s (i + 1))) := by
      rw [dAdd_s (by rw [len_app, len_app]; omega), pre_succ ht]
    have gs : gStrB [.int t.p] = some (.str (numS t.p)) := by
      have : gStr [.int t.p] = some (.str (numS t.p)) := if_pos (decide_eq_true ⟨by have := hs.1; omega, by have := hs.2; omega⟩)
      unfold gStrB
      rw [this]
      rfl
    refine ⟨[S, A, G, P, J, T, .sh s.d, .sh (.str (pre s i)), .sh t.d, z9, z10], [S, A, G, P, J, T, .sh s.d, .sh (.str (pre s (i + 1))), .sh t.d, z9, z10], (if_pos hf).trans rfl, .inl ?_, _, rfl, rfl, rfl⟩
    unfold f_law_b1
    simp -implicitDefEqProofs only [x_ixO, KIx, kIx2_l, x_setIx, KSx1, KSx2, kSx3_l, kSx4_s, x_bor, kBo_ok, x_borT, kBT_ok, x_borF, kBF_ok, sh_ow, sh_rf, sh_sh, sh_un, imm_i, imm_b, imm_s, pwFl_rt, pwFl_nx, x_callA, KCA, x_aNo, x_aPl, KPl, x_aKw, KKa, KKb, pa_pl, x_lc, unAt_0, unAt_s, b_ok, b_er, b_no, b_if, lift_s, lift_n, lift_if, unpv_val, unpv_new, unpv_err, unpv_if, pvFl_rt, pvFl_fr, pvFl_nx, pvFl_er, pvFl_if, unpw_val, x_var, rdV_sh, x_c, K1, x_f1, K2b, K2a, x_f2, x_nil, KCb, KCa, x_cons, KStb, KStar, x_star, ksta_s, KN, x_n, x_test, kTe_bl, KAn, x_and, KOr, x_or, KNo, x_not, KIe, x_if, x_andV, kAV_bl, x_orV, kOV_bl, x_notV, kNV_bl, x_sNil, x_seq, kSq_nx, kSq_rt, kSq_bk, kSq_ct, KRt, x_ret, KEx, x_exp, KIs, x_ifS, optR_s, KSe, x_set, KSO, x_setO, put, free_un, free_sh, free_ow, KSh, x_sh, KLs, x_lst, x_nm, x_gnil, x_gcons, x_gtp, x_gls, KAs, x_asg, KQ, x_q, x_iS, kiS_s, x_r1, x_for, KFo, KCl, x_call, x_shR, kSR_sh, kSR_fr, x_frR, kFR_fr, kCRb_s, KCR, x_callR, ob_ow, ob_rf, putOb, reob_ow, reob_rf, x_fld, KCh2, KCh1, x_chain, kCh3_b, KM2, x_m1, isStr_s, KNw, x_new, x_noP, x_p, kP_i, KCt2, KCt1, KCt0, x_cutT, kCt3_t, KPb, KPa, x_par2, x_rep, kRp_s, x_wo, KRs, x_raise, ok_and, ok_or, okb_and, okb_or, List.getElem?_cons_zero, List.getElem?_cons_succ, List.set_cons_zero, List.set_cons_succ, List.map_cons, List.map_nil, List.append_nil, List.nil_append, List.cons_append, List.length_cons, List.length_nil, List.replicate_succ, List.replicate_zero, Option.isSome_some, Option.isSome_none, Option.bind_some, Option.bind_none, Nat.reduceAdd, Nat.reduceSub, Nat.reduceMul, Nat.reduceLeDiff, Nat.reduceLT, Nat.reduceBEq, Nat.reduceEqDiff, Nat.beq_refl, if_true, if_false, reduceIte, Bool.false_eq_true, Bool.not_true, Bool.not_false, Bool.not_not, decide_eq_true_eq, decide_true, decide_false, Bool.and_true, Bool.true_and, Bool.and_false, Bool.false_and, Bool.or_true, Bool.true_or, Bool.or_false, Bool.false_or, Bool.not_eq_true', decide_eq_false_iff_not, Int.lt_irrefl, dLe_i, dLt_i, dGt_i, dGe_i, dAdd_i, dSub_i, gLen_t, gLen_l, gTup_2, gTup_3, gTup_1, gTup_0, gTup_4, isN_n, notN_n, isN_t, notN_t, items_t, items_l, sg_0, sg_1, sg_2, sg_tp, tk_tp, isN_s, notN_s, isN_k, notN_k, tk_0, tk_1, s1, gs, s2, s3])
  obtain ⟨x8, rfl, a, b⟩ := h2
  refine ⟨x8, a, b, h1.trans ?_⟩
  rw [Nat.zero_add, List.length_map]
theorem text_end (s : Sg) : (if s.ts = [] then pre s s.ts.length ++ " -" else pre s s.ts.length) = textS s := by
  unfold textS
  by_cases hn : s.ts = []
  · rw [if_pos hn, if_pos hn]
    unfold pre
    obtain ⟨sw, ky, ts⟩ := s
    simp only at hn
    subst hn
    cases sw <;> cases ky <;> kernel_rfl
  · rw [if_neg hn, if_neg hn]
    unfold pre lineS
    rw [List.take_length]
theorem no_bools {env : Ev} {ts : List Tk} (hu : plAt env 8 = true) (hv : 8 < env.length) (hl : ts.length ≤ 800) : KLc [8] (gNm 8) f_law_t2 f_law_e3 env (ts.map Tk.d) = .ok env [] := by
  have g8 : ∀ t : Tk, (env.set 8 (.sh t.d))[8]? = some (.sh t.d) := fun t => List.getElem?_set_self hv
  have nb : ∀ t : Tk, gIsi [.int t.p, .ty "bool"] = some (.bl false) := fun _ => rfl
  have := kLf1p (v := 8) (ft := f_law_t2) (fe := f_law_e3) (env := env) (inp := Tk.d) (out := Tk.d) (p := fun _ => false) (xs := ts) hu (by omega) (fun t _ => by
      unfold f_law_t2
      simp -implicitDefEqProofs only [x_ixO, KIx, kIx2_l, x_setIx, KSx1, KSx2, kSx3_l, kSx4_s, x_bor, kBo_ok, x_borT, kBT_ok, x_borF, kBF_ok, sh_ow, sh_rf, sh_sh, sh_un, imm_i, imm_b, imm_s, pwFl_rt, pwFl_nx, x_callA, KCA, x_aNo, x_aPl, KPl, x_aKw, KKa, KKb, pa_pl, x_lc, unAt_0, unAt_s, b_ok, b_er, b_no, b_if, lift_s, lift_n, lift_if, unpv_val, unpv_new, unpv_err, unpv_if, pvFl_rt, pvFl_fr, pvFl_nx, pvFl_er, pvFl_if, unpw_val, x_var, rdV_sh, x_c, K1, x_f1, K2b, K2a, x_f2, x_nil, KCb, KCa, x_cons, KStb, KStar, x_star, ksta_s, KN, x_n, x_test, kTe_bl, KAn, x_and, KOr, x_or, KNo, x_not, KIe, x_if, x_andV, kAV_bl, x_orV, kOV_bl, x_notV, kNV_bl, x_sNil, x_seq, kSq_nx, kSq_rt, kSq_bk, kSq_ct, KRt, x_ret, KEx, x_exp, KIs, x_ifS, optR_s, KSe, x_set, KSO, x_setO, put, free_un, free_sh, free_ow, KSh, x_sh, KLs, x_lst, x_nm, x_gnil, x_gcons, x_gtp, x_gls, KAs, x_asg, KQ, x_q, x_iS, kiS_s, x_r1, x_for, KFo, KCl, x_call, x_shR, kSR_sh, kSR_fr, x_frR, kFR_fr, kCRb_s, KCR, x_callR, ob_ow, ob_rf, putOb, reob_ow, reob_rf, x_fld, KCh2, KCh1, x_chain, kCh3_b, KM2, x_m1, isStr_s, KNw, x_new, x_noP, x_p, kP_i, KCt2, KCt1, KCt0, x_cutT, kCt3_t, KPb, KPa, x_par2, x_rep, kRp_s, x_wo, KRs, x_raise, ok_and, ok_or, okb_and, okb_or, List.getElem?_cons_zero, List.getElem?_cons_succ, List.set_cons_zero, List.set_cons_succ, List.map_cons, List.map_nil, List.append_nil, List.nil_append, List.cons_append, List.length_cons, List.length_nil, List.replicate_succ, List.replicate_zero, Option.isSome_some, Option.isSome_none, Option.bind_some, Option.bind_none, Nat.reduceAdd, Nat.reduceSub, Nat.reduceMul, Nat.reduceLeDiff, Nat.reduceLT, Nat.reduceBEq, Nat.reduceEqDiff, Nat.beq_refl, if_true, if_false, reduceIte, Bool.false_eq_true, Bool.not_true, Bool.not_false, Bool.not_not, decide_eq_true_eq, decide_true, decide_false, Bool.and_true, Bool.true_and, Bool.and_false, Bool.false_and, Bool.or_true, Bool.true_or, Bool.or_false, Bool.false_or, Bool.not_eq_true', decide_eq_false_iff_not, Int.lt_irrefl, dLe_i, dLt_i, dGt_i, dGe_i, dAdd_i, dSub_i, gLen_t, gLen_l, gTup_2, gTup_3, gTup_1, gTup_0, gTup_4, isN_n, notN_n, isN_t, notN_t, items_t, items_l, g8, sg_0, sg_1, sg_2, sg_tp, tk_tp, isN_s, notN_s, isN_k, notN_k, tk_0, tk_1, nb]) (fun t _ q => by cases q)
  rw [List.filter_eq_nil_iff.mpr (by simp)] at this
  exact this
theorem eq_tnil (s : Sg) : dEq (.tup (s.ts.map Tk.d)) (.tup []) = some (.bl (decide (s.ts = []))) := by
  by_cases hn : s.ts = []
  · rw [hn, decide_eq_true rfl]
    kernel_rfl
  · rw [decide_eq_false hn]
    exact dEq_tlen (n := 3) (by decide) tks_ok (fun _ z => by cases z) (by simpa using hn)
theorem turn_s {j : Jb} (hj : j.Ok 8) {S A T z6 z7 z8 z9 z10 : Sl} {b0 b1 : Int} (hb : BagOk b0 b1) (f6 : free (some z6) = true) (f7 : free (some z7) = true) (f8 : free (some z8) = true) (p8 : plainSl (some z8) = true) (f9 : free (some z9) = true) (f10 : free (some z10) = true) :
    ∃ c0 c1 x6 x7 x8 x9 x10, BagOk c0 c1 ∧ free (some x8) = true ∧ plainSl (some x8) = true ∧ f_law_b4 [S, A, .ow (bagO b0 b1), .sh j.pts, .sh j.d, T, z6, z7, z8, z9, z10] = .ok [S, A, .ow (bagO c0 c1), .sh j.pts, .sh j.d, T, .sh x6, .sh x7, x8, .sh x9, .sh x10] .nx := by
  obtain ⟨c0, c1, s, hs, hc, v, hl⟩ := standing_pw j hj hb (n := 5) (by decide)
  have hs : pw g__law_standing (bagO b0 b1) [j.pts, .int 5] = .val (bagO c0 c1) (.sh s.d) := hs
  have he : s.ts.length ≤ 800 := by omega
  have hsm : ∀ t ∈ s.ts, Sm t := fun t ht => by
    have := v.tok t ht
    refine ⟨this.h0, ?_⟩
    have h1 := this.h1
    have r2 := hj.r2
    have l1 := hj.l1
    simp only [List.length_append, List.length_map] at h1
    omega
  obtain ⟨x8, fx8, px8, hL⟩ := text_loop hl hsm (S := S) (A := A) (G := .ow (bagO c0 c1)) (P := .sh j.pts) (J := .sh j.d) (T := T) (z9 := z9) (z10 := z10) f8 p8
  refine ⟨c0, c1, s.d, .str (textS s), x8, .str (textS s), s.d, hc, fx8, px8, ?_⟩
  have b1 : (" " : Str).length = 1 := by decide
  have b2 : (" -" : Str).length = 2 := by decide
  have w1 := sw_len s.sw
  have w2 := ky_len s.ky
  have s1 : dAdd (.str (swS s.sw)) (.str " ") = some (.str (swS s.sw ++ " ")) := dAdd_s (by omega)
  have s2 : dAdd (.str (swS s.sw ++ " ")) (.str s.ky.s) = some (.str (pre s 0)) := by rw [dAdd_s (by rw [len_app]; omega), pre_0]
  have hte := text_end s
  have tl8 := pre_len hl hsm s.ts.length
  have nz : dNe (.str (textS s)) (.str (textS s)) = some (.bl false) := by
    show (some (textS s == textS s)).map _ = _
    simp
  have i1 : gIsi [.str (textS s), .ty "str"] = some (.bl true) := rfl
  have i2 : gIsi [s.d, .ty "tuple"] = some (.bl true) := rfl
  have i3 : gIsi [.tup (s.ts.map Tk.d), .ty "tuple"] = some (.bl true) := rfl
  have nl : dNe (.lst []) (.lst []) = some (.bl false) := by kernel_rfl
  have pv8 : ∀ r : Ev, plAt (x8 :: r) 0 = true := fun r => px8
  have n8 : ∀ a b c d e f g h i k l : Sl, 8 < List.length [a, b, c, d, e, f, g, h, i, k, l] := fun _ _ _ _ _ _ _ _ _ _ _ => by simp
  have hnb := fun (a b c d e f g h k l : Sl) => no_bools (env := [a, b, c, d, e, f, g, h, x8, k, l]) (ts := s.ts) (by exact px8) (n8 ..) he
  unfold f_law_b4
  by_cases hn : s.ts = []
  · rw [if_pos hn] at hte
    have s3 : dAdd (.str (pre s s.ts.length)) (.str " -") = some (.str (textS s)) := by rw [dAdd_s (by omega), hte]
    simp -implicitDefEqProofs only [x_ixO, KIx, kIx2_l, x_setIx, KSx1, KSx2, kSx3_l, kSx4_s, x_bor, kBo_ok, x_borT, kBT_ok, x_borF, kBF_ok, sh_ow, sh_rf, sh_sh, sh_un, imm_i, imm_b, imm_s, pwFl_rt, pwFl_nx, x_callA, KCA, x_aNo, x_aPl, KPl, x_aKw, KKa, KKb, pa_pl, x_lc, unAt_0, unAt_s, b_ok, b_er, b_no, b_if, lift_s, lift_n, lift_if, unpv_val, unpv_new, unpv_err, unpv_if, pvFl_rt, pvFl_fr, pvFl_nx, pvFl_er, pvFl_if, unpw_val, x_var, rdV_sh, x_c, K1, x_f1, K2b, K2a, x_f2, x_nil, KCb, KCa, x_cons, KStb, KStar, x_star, ksta_s, KN, x_n, x_test, kTe_bl, KAn, x_and, KOr, x_or, KNo, x_not, KIe, x_if, x_andV, kAV_bl, x_orV, kOV_bl, x_notV, kNV_bl, x_sNil, x_seq, kSq_nx, kSq_rt, kSq_bk, kSq_ct, KRt, x_ret, KEx, x_exp, KIs, x_ifS, optR_s, KSe, x_set, KSO, x_setO, put, free_un, free_sh, free_ow, KSh, x_sh, KLs, x_lst, x_nm, x_gnil, x_gcons, x_gtp, x_gls, KAs, x_asg, KQ, x_q, x_iS, kiS_s, x_r1, x_for, KFo, KCl, x_call, x_shR, kSR_sh, kSR_fr, x_frR, kFR_fr, kCRb_s, KCR, x_callR, ob_ow, ob_rf, putOb, reob_ow, reob_rf, x_fld, KCh2, KCh1, x_chain, kCh3_b, KM2, x_m1, isStr_s, KNw, x_new, x_noP, x_p, kP_i, KCt2, KCt1, KCt0, x_cutT, kCt3_t, KPb, KPa, x_par2, x_rep, kRp_s, x_wo, KRs, x_raise, ok_and, ok_or, okb_and, okb_or, List.getElem?_cons_zero, List.getElem?_cons_succ, List.set_cons_zero, List.set_cons_succ, List.map_cons, List.map_nil, List.append_nil, List.nil_append, List.cons_append, List.length_cons, List.length_nil, List.replicate_succ, List.replicate_zero, Option.isSome_some, Option.isSome_none, Option.bind_some, Option.bind_none, Nat.reduceAdd, Nat.reduceSub, Nat.reduceMul, Nat.reduceLeDiff, Nat.reduceLT, Nat.reduceBEq, Nat.reduceEqDiff, Nat.beq_refl, if_true, if_false, reduceIte, Bool.false_eq_true, Bool.not_true, Bool.not_false, Bool.not_not, decide_eq_true_eq, decide_true, decide_false, Bool.and_true, Bool.true_and, Bool.and_false, Bool.false_and, Bool.or_true, Bool.true_or, Bool.or_false, Bool.false_or, Bool.not_eq_true', decide_eq_false_iff_not, Int.lt_irrefl, dLe_i, dLt_i, dGt_i, dGe_i, dAdd_i, dSub_i, gLen_t, gLen_l, gTup_2, gTup_3, gTup_1, gTup_0, gTup_4, isN_n, notN_n, isN_t, notN_t, items_t, items_l, hs, f6, f7, f9, f10, sg_0, sg_1, sg_2, sg_tp, tk_tp, isN_s, notN_s, isN_k, notN_k, tk_0, tk_1, s1, s2, hL, eq_tnil, decide_eq_true hn, s3, show_ok s hl hsm, read_ok v hsm, nz, i1, i2, i3, ne_sg, hnb, lst_0, nl]
  · rw [if_neg hn] at hte
    simp -implicitDefEqProofs only [x_ixO, KIx, kIx2_l, x_setIx, KSx1, KSx2, kSx3_l, kSx4_s, x_bor, kBo_ok, x_borT, kBT_ok, x_borF, kBF_ok, sh_ow, sh_rf, sh_sh, sh_un, imm_i, imm_b, imm_s, pwFl_rt, pwFl_nx, x_callA, KCA, x_aNo, x_aPl, KPl, x_aKw, KKa, KKb, pa_pl, x_lc, unAt_0, unAt_s, b_ok, b_er, b_no, b_if, lift_s, lift_n, lift_if, unpv_val, unpv_new, unpv_err, unpv_if, pvFl_rt, pvFl_fr, pvFl_nx, pvFl_er, pvFl_if, unpw_val, x_var, rdV_sh, x_c, K1, x_f1, K2b, K2a, x_f2, x_nil, KCb, KCa, x_cons, KStb, KStar, x_star, ksta_s, KN, x_n, x_test, kTe_bl, KAn, x_and, KOr, x_or, KNo, x_not, KIe, x_if, x_andV, kAV_bl, x_orV, kOV_bl, x_notV, kNV_bl, x_sNil, x_seq, kSq_nx, kSq_rt, kSq_bk, kSq_ct, KRt, x_ret, KEx, x_exp, KIs, x_ifS, optR_s, KSe, x_set, KSO, x_setO, put, free_un, free_sh, free_ow, KSh, x_sh, KLs, x_lst, x_nm, x_gnil, x_gcons, x_gtp, x_gls, KAs, x_asg, KQ, x_q, x_iS, kiS_s, x_r1, x_for, KFo, KCl, x_call, x_shR, kSR_sh, kSR_fr, x_frR, kFR_fr, kCRb_s, KCR, x_callR, ob_ow, ob_rf, putOb, reob_ow, reob_rf, x_fld, KCh2, KCh1, x_chain, kCh3_b, KM2, x_m1, isStr_s, KNw, x_new, x_noP, x_p, kP_i, KCt2, KCt1, KCt0, x_cutT, kCt3_t, KPb, KPa, x_par2, x_rep, kRp_s, x_wo, KRs, x_raise, ok_and, ok_or, okb_and, okb_or, List.getElem?_cons_zero, List.getElem?_cons_succ, List.set_cons_zero, List.set_cons_succ, List.map_cons, List.map_nil, List.append_nil, List.nil_append, List.cons_append, List.length_cons, List.length_nil, List.replicate_succ, List.replicate_zero, Option.isSome_some, Option.isSome_none, Option.bind_some, Option.bind_none, Nat.reduceAdd, Nat.reduceSub, Nat.reduceMul, Nat.reduceLeDiff, Nat.reduceLT, Nat.reduceBEq, Nat.reduceEqDiff, Nat.beq_refl, if_true, if_false, reduceIte, Bool.false_eq_true, Bool.not_true, Bool.not_false, Bool.not_not, decide_eq_true_eq, decide_true, decide_false, Bool.and_true, Bool.true_and, Bool.and_false, Bool.false_and, Bool.or_true, Bool.true_or, Bool.or_false, Bool.false_or, Bool.not_eq_true', decide_eq_false_iff_not, Int.lt_irrefl, dLe_i, dLt_i, dGt_i, dGe_i, dAdd_i, dSub_i, gLen_t, gLen_l, gTup_2, gTup_3, gTup_1, gTup_0, gTup_4, isN_n, notN_n, isN_t, notN_t, items_t, items_l, hs, f6, f7, f9, f10, sg_0, sg_1, sg_2, sg_tp, tk_tp, isN_s, notN_s, isN_k, notN_k, tk_0, tk_1, s1, s2, hL, eq_tnil, decide_eq_false hn, hte, show_ok s hl hsm, read_ok v hsm, nz, i1, i2, i3, ne_sg, hnb, lst_0, nl]
theorem law_true (ns : List Int) (_ : ns.length ≤ 63) : ∃ e, g_law [.sh (.fz (ns.map .int))] = .ok e (.sh (.bl true)) := by
  obtain ⟨e, h⟩ := law_outerP (rs := fFor (fiR1 (fCons (fC (.int 3)) fNil)) (gNm 5) f_law_b4) (B := 10) (nz := 6) (by decide) (by decide) ns (by
    intro j hj S A b0 b1 zs hb hf hz
    match zs, hz with
    | [z5, z6, z7, z8, z9, z10], _ =>
      obtain ⟨e', h1, d0, d1, y5, y6, y7, y8, y9, y10, rfl, hd, hfa⟩ := loop_inv (g := gNm 5) (fb := f_law_b4) (I := fun e => ∃ d0 d1 x5 x6 x7 x8 x9 x10, e = [.sh S, .sh A, .ow (bagO d0 d1), .sh j.pts, .sh j.d, x5, x6, x7, x8, x9, x10] ∧ BagOk d0 d1 ∧ PlainAll [x5, x6, x7, x8, x9, x10]) (rangeD 0 3) [.sh S, .sh A, .ow (bagO b0 b1), .sh j.pts, .sh j.d, z5, z6, z7, z8, z9, z10] ⟨_, _, _, _, _, _, _, _, rfl, hb, hf⟩ (by
          rintro d hd' e ⟨d0, d1, x5, x6, x7, x8, x9, x10, rfl, hd, hfa⟩
          simp [PlainAll] at hfa
          obtain ⟨p5, p6, p7, p8, p9, p10⟩ := hfa
          obtain ⟨c0, c1, y6, y7, y8, y9, y10, hc, _, py8, hy⟩ := turn_s hj (S := .sh S) (A := .sh A) (T := .sh d) hd (plain_free p6) (plain_free p7) (plain_free p8) p8 (plain_free p9) (plain_free p10)
          exact ⟨_, _, (if_pos (plain_free p5)).trans rfl, hy, _, _, _, _, _, _, _, _, rfl, hc, by simp [PlainAll, pl_sh, py8]⟩)
      refine ⟨d0, d1, [y5, y6, y7, y8, y9, y10], hd, hfa, rfl, ?_⟩
      have := kR1_n (n := 3) (by decide) (e := [.sh S, .sh A, .ow (bagO b0 b1), .sh j.pts, .sh j.d, z5, z6, z7, z8, z9, z10])
      rw [x_for, x_r1]
      simp -implicitDefEqProofs only [x_ixO, KIx, kIx2_l, x_setIx, KSx1, KSx2, kSx3_l, kSx4_s, x_bor, kBo_ok, x_borT, kBT_ok, x_borF, kBF_ok, sh_ow, sh_rf, sh_sh, sh_un, imm_i, imm_b, imm_s, pwFl_rt, pwFl_nx, x_callA, KCA, x_aNo, x_aPl, KPl, x_aKw, KKa, KKb, pa_pl, x_lc, unAt_0, unAt_s, b_ok, b_er, b_no, b_if, lift_s, lift_n, lift_if, unpv_val, unpv_new, unpv_err, unpv_if, pvFl_rt, pvFl_fr, pvFl_nx, pvFl_er, pvFl_if, unpw_val, x_var, rdV_sh, x_c, K1, x_f1, K2b, K2a, x_f2, x_nil, KCb, KCa, x_cons, KStb, KStar, x_star, ksta_s, KN, x_n, x_test, kTe_bl, KAn, x_and, KOr, x_or, KNo, x_not, KIe, x_if, x_andV, kAV_bl, x_orV, kOV_bl, x_notV, kNV_bl, x_sNil, x_seq, kSq_nx, kSq_rt, kSq_bk, kSq_ct, KRt, x_ret, KEx, x_exp, KIs, x_ifS, optR_s, KSe, x_set, KSO, x_setO, put, free_un, free_sh, free_ow, KSh, x_sh, KLs, x_lst, x_nm, x_gnil, x_gcons, x_gtp, x_gls, KAs, x_asg, KQ, x_q, x_iS, kiS_s, x_r1, x_for, KFo, KCl, x_call, x_shR, kSR_sh, kSR_fr, x_frR, kFR_fr, kCRb_s, KCR, x_callR, ob_ow, ob_rf, putOb, reob_ow, reob_rf, x_fld, KCh2, KCh1, x_chain, kCh3_b, KM2, x_m1, isStr_s, KNw, x_new, x_noP, x_p, kP_i, KCt2, KCt1, KCt0, x_cutT, kCt3_t, KPb, KPa, x_par2, x_rep, kRp_s, x_wo, KRs, x_raise, ok_and, ok_or, okb_and, okb_or, List.getElem?_cons_zero, List.getElem?_cons_succ, List.set_cons_zero, List.set_cons_succ, List.map_cons, List.map_nil, List.append_nil, List.nil_append, List.cons_append, List.length_cons, List.length_nil, List.replicate_succ, List.replicate_zero, Option.isSome_some, Option.isSome_none, Option.bind_some, Option.bind_none, Nat.reduceAdd, Nat.reduceSub, Nat.reduceMul, Nat.reduceLeDiff, Nat.reduceLT, Nat.reduceBEq, Nat.reduceEqDiff, Nat.beq_refl, if_true, if_false, reduceIte, Bool.false_eq_true, Bool.not_true, Bool.not_false, Bool.not_not, decide_eq_true_eq, decide_true, decide_false, Bool.and_true, Bool.true_and, Bool.and_false, Bool.false_and, Bool.or_true, Bool.true_or, Bool.or_false, Bool.false_or, Bool.not_eq_true', decide_eq_false_iff_not, Int.lt_irrefl, dLe_i, dLt_i, dGt_i, dGe_i, dAdd_i, dSub_i, gLen_t, gLen_l, gTup_2, gTup_3, gTup_1, gTup_0, gTup_4, isN_n, notN_n, isN_t, notN_t, items_t, items_l]
      rw [show (3 : Int) = ((3 : Nat) : Int) from rfl, this]
      simp -implicitDefEqProofs only [x_ixO, KIx, kIx2_l, x_setIx, KSx1, KSx2, kSx3_l, kSx4_s, x_bor, kBo_ok, x_borT, kBT_ok, x_borF, kBF_ok, sh_ow, sh_rf, sh_sh, sh_un, imm_i, imm_b, imm_s, pwFl_rt, pwFl_nx, x_callA, KCA, x_aNo, x_aPl, KPl, x_aKw, KKa, KKb, pa_pl, x_lc, unAt_0, unAt_s, b_ok, b_er, b_no, b_if, lift_s, lift_n, lift_if, unpv_val, unpv_new, unpv_err, unpv_if, pvFl_rt, pvFl_fr, pvFl_nx, pvFl_er, pvFl_if, unpw_val, x_var, rdV_sh, x_c, K1, x_f1, K2b, K2a, x_f2, x_nil, KCb, KCa, x_cons, KStb, KStar, x_star, ksta_s, KN, x_n, x_test, kTe_bl, KAn, x_and, KOr, x_or, KNo, x_not, KIe, x_if, x_andV, kAV_bl, x_orV, kOV_bl, x_notV, kNV_bl, x_sNil, x_seq, kSq_nx, kSq_rt, kSq_bk, kSq_ct, KRt, x_ret, KEx, x_exp, KIs, x_ifS, optR_s, KSe, x_set, KSO, x_setO, put, free_un, free_sh, free_ow, KSh, x_sh, KLs, x_lst, x_nm, x_gnil, x_gcons, x_gtp, x_gls, KAs, x_asg, KQ, x_q, x_iS, kiS_s, x_r1, x_for, KFo, KCl, x_call, x_shR, kSR_sh, kSR_fr, x_frR, kFR_fr, kCRb_s, KCR, x_callR, ob_ow, ob_rf, putOb, reob_ow, reob_rf, x_fld, KCh2, KCh1, x_chain, kCh3_b, KM2, x_m1, isStr_s, KNw, x_new, x_noP, x_p, kP_i, KCt2, KCt1, KCt0, x_cutT, kCt3_t, KPb, KPa, x_par2, x_rep, kRp_s, x_wo, KRs, x_raise, ok_and, ok_or, okb_and, okb_or, List.getElem?_cons_zero, List.getElem?_cons_succ, List.set_cons_zero, List.set_cons_succ, List.map_cons, List.map_nil, List.append_nil, List.nil_append, List.cons_append, List.length_cons, List.length_nil, List.replicate_succ, List.replicate_zero, Option.isSome_some, Option.isSome_none, Option.bind_some, Option.bind_none, Nat.reduceAdd, Nat.reduceSub, Nat.reduceMul, Nat.reduceLeDiff, Nat.reduceLT, Nat.reduceBEq, Nat.reduceEqDiff, Nat.beq_refl, if_true, if_false, reduceIte, Bool.false_eq_true, Bool.not_true, Bool.not_false, Bool.not_not, decide_eq_true_eq, decide_true, decide_false, Bool.and_true, Bool.true_and, Bool.and_false, Bool.false_and, Bool.or_true, Bool.true_or, Bool.or_false, Bool.false_or, Bool.not_eq_true', decide_eq_false_iff_not, Int.lt_irrefl, dLe_i, dLt_i, dGt_i, dGe_i, dAdd_i, dSub_i, gLen_t, gLen_l, gTup_2, gTup_3, gTup_1, gTup_0, gTup_4, isN_n, notN_n, isN_t, notN_t, items_t, items_l, h1])
  exact ⟨e, gOf_rt h⟩
end K08

end

section
open PySem PySem.W PySem.Calls PyProof.Rows
set_option maxRecDepth 100000 in
set_option maxHeartbeats 8000000 in
theorem PySem.Challenge.cw_selfchains_k08_texts_of_standings_holds : PySem.Challenge.rw_selfchains_k08_texts_of_standings.Holds := by
  w_on; o_law
  refine HandSHeadRun.head_any (r := OpenLaw.row PySem.Challenge.rw_selfchains_k08_texts_of_standings) (q := view (OpenLaw.row PySem.Challenge.rw_selfchains_k08_texts_of_standings).prog [44]) (H := K08.hk) (ob := K08.ob) (M := 20000) (loose := K08.loose) (d := HandSHeadRun.topDef (OpenLaw.row PySem.Challenge.rw_selfchains_k08_texts_of_standings).prog 44) (kwd := []) K08.ob_eq
    (by kernel_rfl) (fun s => by kernel_rfl) K08.run (by kernel_rfl) (by kernel_rfl) (by kernel_rfl) (by rfl) (by first | assumption | decide +kernel) (by decide +kernel) ⟨rfl, rfl, rfl, rfl, rfl, by decide +kernel⟩ ?hw ?hc
  case hw => w_witness2
  case hc =>
    refine DL.walkM (l := PySem.Challenge.rw_selfchains_k08_texts_of_standings) (n := 63) (k := 8) (x := "_law_script") rfl (by decide) (by kernel_rfl) ⟨rfl, by decide, by decide⟩ ?F
    intro w mg fa h Y G hmg0
    obtain ⟨K, KX, c⟩ := Y
    have hmg : mg ("law" : PySem.Str) = some (.ref fa) := by
      have e : (HandSHeadRun.topDef (OpenLaw.row PySem.Challenge.rw_selfchains_k08_texts_of_standings).prog 44).name = ("law" : PySem.Str) := by kernel_rfl
      rw [← e]
      exact hmg0
    obtain ⟨fd, hb, hF⟩ := K08.facts (P := (PySem.Challenge.rw_selfchains_k08_texts_of_standings).prog) (w := w) KX G hmg c
    exact ⟨K, fd, K08.g_law, KX, hb, K08.law_true, hF⟩

end
