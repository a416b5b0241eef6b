import PyProof.Rows.All
import Wide.All
import OpenK.AllK
import Wide.FinOn
import HandS.ForMost
import HandS.AnyAll
import HandS.Lambda
import HandS.EndTab
import HandS.Wide
import HandS.TupAny
import HandS.TupMul
import HandS.Deep
import HandS.IsInst
import HandS.Style
import HandS.Zip
import HandS.Rev
import HandS.Comp
import HandS.TupLen
import HandS.WordsDict
import PyProof.ReprRoads
import HandS.GenOver
import HandS.HeadWalk
import HandS.HeadHook4
import HandS.NestedK
import HandS.HeadEnd
import PySem.Challenge.RW_answertests_k00_answers_of_words
import HandS.Head0
import HandS.Head1
import HandS.Head2
import KE.KStateDown
import PyProof.ReprLen
set_option Elab.async false
set_option linter.all false
set_option maxRecDepth 100000
set_option maxHeartbeats 4000000
/-! DV: values as trees, environments as lists of slots, readings without a heap. -/
namespace DV
open PySem PySem.Spec PyProof.Rows L2
abbrev Frag := PySem.W.Frag

/-- data that is never changed -/
abbrev D := PyData

/-- a list that is known to the object: the script -/
def SqS (K : Frag) (H : Hp) (a : Addr) (vs : List V) : Prop := (∃ o, H a = some (.frz o (.lst vs))) ∨ SqL K (fun _ => none) a vs

mutual
inductive Rp (K : Frag) (Z : Addr → Prop) (H : Hp) : V → D → Prop
  | non : Rp K Z H .non .none
  | bl (b : Bool) : Rp K Z H (.bl b) (.bool b)
  | int (i : Int) : Rp K Z H (.int i) (.int i)
  | str (x : Str) : Rp K Z H (.str x) (.str x)
  | tup {a : Addr} {vs : List V} {ds : List D} : SqT K H a vs → Rps K Z H vs ds → Rp K Z H (.ref a) (.tuple ds)
  | lst {a : Addr} {vs : List V} {ds : List D} : Z a → H a = some (.lst vs) → Rps K Z H vs ds → Rp K Z H (.ref a) (.list ds)
  | dct {a : Addr} : Z a → H a = some (.dK []) → Rp K Z H (.ref a) (.dict [])
inductive Rps (K : Frag) (Z : Addr → Prop) (H : Hp) : List V → List D → Prop
  | nil : Rps K Z H [] []
  | cons {v : V} {d : D} {vs : List V} {ds : List D} : Rp K Z H v d → Rps K Z H vs ds → Rps K Z H (v :: vs) (d :: ds)
end

/-- the heap has gone on: what is frozen or a frame's stands as it stood -/
structure Step (Z Fr : Addr → Prop) (H : Hp) (Z' : Addr → Prop) (H' : Hp) : Prop where
  zz : ∀ a, Z a → Z' a
  keep : ∀ a, Z a ∨ Fr a → H' a = H a
  tup : ∀ a vs, H a = some (.tup vs) → H' a = some (.tup vs)
  frz : ∀ a o u, H a = some (.frz o u) → H' a = some (.frz o u)
  fr : ∀ a, Z' a → Fr a → Z a
  non : ∀ a, H a ≠ none → H' a ≠ none

theorem Step.refl {Z Fr : Addr → Prop} {H : Hp} : Step Z Fr H Z H := ⟨fun _ h => h, fun _ _ => rfl, fun _ _ h => h, fun _ _ _ h => h, fun _ h _ => h, fun _ h => h⟩
theorem Step.trans {Z Z1 Z2 Fr : Addr → Prop} {H H1 H2 : Hp} (x : Step Z Fr H Z1 H1) (y : Step Z1 Fr H1 Z2 H2) : Step Z Fr H Z2 H2 where
  zz := fun a h => y.zz a (x.zz a h)
  keep := fun a h => (y.keep a (h.elim (fun z => .inl (x.zz a z)) .inr)).trans (x.keep a h)
  tup := fun a vs h => y.tup a vs (x.tup a vs h)
  frz := fun a o u h => y.frz a o u (x.frz a o u h)
  fr := fun a h f => x.fr a (y.fr a h f) f
  non := fun a h => y.non a (x.non a h)
theorem Step.weak {Z Z' Fr Fr' : Addr → Prop} {H H' : Hp} (x : Step Z Fr H Z' H') (h : ∀ a, Fr' a → Fr a) : Step Z Fr' H Z' H' :=
  ⟨x.zz, fun a q => x.keep a (q.imp id (h a)), x.tup, x.frz, fun a z f => x.fr a z (h a f), x.non⟩

section
variable {K : Frag} {Z Z' Fr : Addr → Prop} {H H' : Hp}
theorem Step.sqt (x : Step Z Fr H Z' H') {a : Addr} {vs : List V} (h : SqT K H a vs) : SqT K H' a vs := by
  rcases h with (h | ⟨o, h⟩) | h
  · exact .inl (.inl (x.tup _ _ h))
  · exact .inl (.inr ⟨o, x.frz _ _ _ h⟩)
  · exact .inr h
theorem Step.sqs (x : Step Z Fr H Z' H') {a : Addr} {vs : List V} (h : SqS K H a vs) : SqS K H' a vs := by
  rcases h with ⟨o, h⟩ | h
  · exact .inl ⟨o, x.frz _ _ _ h⟩
  · exact .inr h
theorem SqS.sql {a : Addr} {vs : List V} (h : SqS K H a vs) : SqL K H a vs := by
  rcases h with ⟨o, h⟩ | h
  · exact .inl (.inr ⟨o, h⟩)
  · rcases h with (h | ⟨o, h⟩) | h
    · cases h
    · cases h
    · exact .inr h
mutual
theorem Rp.step (x : Step Z Fr H Z' H') : ∀ {v : V} {d : D}, Rp K Z H v d → Rp K Z' H' v d
  | _, _, .non => .non
  | _, _, .bl b => .bl b
  | _, _, .int i => .int i
  | _, _, .str y => .str y
  | _, _, .tup h r => .tup (x.sqt h) (Rps.step x r)
  | _, _, .lst z h r => .lst (x.zz _ z) ((x.keep _ (.inl z)).trans h) (Rps.step x r)
  | _, _, .dct z h => .dct (x.zz _ z) ((x.keep _ (.inl z)).trans h)
theorem Rps.step (x : Step Z Fr H Z' H') : ∀ {vs : List V} {ds : List D}, Rps K Z H vs ds → Rps K Z' H' vs ds
  | _, _, .nil => .nil
  | _, _, .cons h r => .cons (Rp.step x h) (Rps.step x r)
end
theorem Rps.length : ∀ {vs : List V} {ds : List D}, Rps K Z H vs ds → vs.length = ds.length
  | _, _, .nil => rfl
  | _, _, .cons _ r => congrArg (· + 1) (Rps.length r)
theorem Rps.get : ∀ {vs : List V} {ds : List D} {i : Nat} {d : D}, Rps K Z H vs ds → ds[i]? = some d → ∃ v, vs[i]? = some v ∧ Rp K Z H v d
  | _, _, _, _, .nil, e => by simp at e
  | _, _, 0, d, .cons r _, e => by simp at e; subst e; exact ⟨_, rfl, r⟩
  | _, _, i + 1, d, .cons _ t, e => by
    obtain ⟨u, h1, h2⟩ := Rps.get (i := i) (d := d) t (by simpa using e)
    exact ⟨u, by simpa using h1, h2⟩
theorem Rps.getv : ∀ {vs : List V} {ds : List D} {i : Nat} {v : V}, Rps K Z H vs ds → vs[i]? = some v → ∃ d, ds[i]? = some d ∧ Rp K Z H v d
  | _, _, _, _, .nil, e => by simp at e
  | _, _, 0, d, .cons r _, e => by simp at e; subst e; exact ⟨_, rfl, r⟩
  | _, _, i + 1, d, .cons _ t, e => by
    obtain ⟨u, h1, h2⟩ := Rps.getv (i := i) (v := d) t (by simpa using e)
    exact ⟨u, by simpa using h1, h2⟩
theorem Rps.app : ∀ {vs ws : List V} {ds es : List D}, Rps K Z H vs ds → Rps K Z H ws es → Rps K Z H (vs ++ ws) (ds ++ es)
  | _, _, _, _, .nil, s => s
  | _, _, _, _, .cons r t, s => .cons r (Rps.app t s)
theorem Rps.take : ∀ {vs : List V} {ds : List D} (n : Nat), Rps K Z H vs ds → Rps K Z H (vs.take n) (ds.take n)
  | _, _, 0, _ => .nil
  | _, _, _ + 1, .nil => .nil
  | _, _, n + 1, .cons r t => .cons r (Rps.take n t)
theorem Rps.drop : ∀ {vs : List V} {ds : List D} (n : Nat), Rps K Z H vs ds → Rps K Z H (vs.drop n) (ds.drop n)
  | _, _, 0, r => r
  | _, _, _ + 1, .nil => .nil
  | _, _, n + 1, .cons _ t => Rps.drop n t
theorem Rps.setAt {v : V} {d : D} (r : Rp K Z H v d) : ∀ {vs : List V} {ds : List D} (i : Nat), Rps K Z H vs ds → Rps K Z H (vs.set i v) (ds.set i d)
  | _, _, _, .nil => .nil
  | _, _, 0, .cons _ t => .cons r t
  | _, _, i + 1, .cons q t => .cons q (Rps.setAt r i t)
theorem Rps.rev {vs : List V} {ds : List D} (h : Rps K Z H vs ds) : Rps K Z H vs.reverse ds.reverse := by
  induction vs generalizing ds with
  | nil => cases h; exact .nil
  | cons v vs ih =>
    cases h with
    | cons r t =>
      rw [List.reverse_cons, List.reverse_cons]
      exact (ih t).app (.cons r .nil)
theorem Rps.dropLast : ∀ {vs : List V} {ds : List D}, Rps K Z H vs ds → Rps K Z H vs.dropLast ds.dropLast := fun {vs ds} h => by
  rw [List.dropLast_eq_take, List.dropLast_eq_take, h.length]
  exact h.take _
theorem Rps.eraseIdx : ∀ {vs : List V} {ds : List D} (i : Nat), Rps K Z H vs ds → Rps K Z H (vs.eraseIdx i) (ds.eraseIdx i)
  | _, _, _, .nil => .nil
  | _, _, 0, .cons _ t => t
  | _, _, i + 1, .cons q t => .cons q (Rps.eraseIdx i t)
end

/-! ### slots, environments -/
/-- what a variable owns: a list, a dict with int and text keys, a dict with tuple keys -/
inductive MO where
  | lst (ds : List D) | dK (kvs : List (Key × D)) | dT (kvs : List (List Key × D))
/-- a variable's content: a value, or an object of its own (t: it is the k-th argument's) -/
inductive Slot where
  | val (d : D) | own (t : Option Nat) (m : MO) | scr (ns : List Int)
abbrev En := List (Option Slot)

/-- dict entries -/
inductive KVR (K : Frag) (Z : Addr → Prop) (H : Hp) {κ : Type} : List (κ × V) → List (κ × D) → Prop
  | nil : KVR K Z H [] []
  | cons {k : κ} {v : V} {d : D} {l : List (κ × V)} {m : List (κ × D)} : Rp K Z H v d → KVR K Z H l m → KVR K Z H ((k, v) :: l) ((k, d) :: m)
theorem KVR.step {K : Frag} {Z Z' Fr : Addr → Prop} {H H' : Hp} (x : Step Z Fr H Z' H') {κ : Type} : ∀ {l : List (κ × V)} {m : List (κ × D)}, KVR K Z H l m → KVR K Z' H' l m
  | _, _, .nil => .nil
  | _, _, .cons r t => .cons (r.step x) (KVR.step x t)

def MOR (K : Frag) (Z : Addr → Prop) (H : Hp) (a : Addr) : MO → Prop
  | .lst ds => ∃ vs, H a = some (.lst vs) ∧ Rps K Z H vs ds
  | .dK kvs => ∃ l, H a = some (.dK l) ∧ KVR K Z H l kvs
  | .dT kvs => ∃ l, H a = some (.dT l) ∧ KVR K Z H l kvs
theorem MOR.non {K : Frag} {Z : Addr → Prop} {H : Hp} {a : Addr} : ∀ {m : MO}, MOR K Z H a m → H a ≠ none
  | .lst _, ⟨_, h, _⟩ => by rw [h]; exact fun z => by cases z
  | .dK _, ⟨_, h, _⟩ => by rw [h]; exact fun z => by cases z
  | .dT _, ⟨_, h, _⟩ => by rw [h]; exact fun z => by cases z
theorem MOR.mut {K : Frag} {Z : Addr → Prop} {H : Hp} {a : Addr} : ∀ {m : MO}, MOR K Z H a m → Mut (H a)
  | .lst _, ⟨_, h, _⟩ => by rw [h]; exact True.intro
  | .dK _, ⟨_, h, _⟩ => by rw [h]; exact True.intro
  | .dT _, ⟨_, h, _⟩ => by rw [h]; exact True.intro
/-- the object itself is kept -/
theorem MOR.step {K : Frag} {Z Z' Fr : Addr → Prop} {H H' : Hp} (x : Step Z Fr H Z' H') {a : Addr} (e : H' a = H a) : ∀ {m : MO}, MOR K Z H a m → MOR K Z' H' a m
  | .lst _, ⟨vs, h, r⟩ => ⟨vs, e.trans h, r.step x⟩
  | .dK _, ⟨l, h, r⟩ => ⟨l, e.trans h, r.step x⟩
  | .dT _, ⟨l, h, r⟩ => ⟨l, e.trans h, r.step x⟩

/-- what stands fixed: the written part, the tables of code objects -/
structure Cfg where
  K : Frag
  tb : List Addr

def TabG (H : Hp) (P : Addr) : Prop := ∃ ps : Array Value, H P = some (.tbl ps) ∧ TriplesOk ps.toList
structure Ok (C : Cfg) (Z Fr : Addr → Prop) (H : Hp) : Prop where
  z : ∀ a, Z a → H a ≠ none
  f : ∀ a, Fr a → H a ≠ none
  zf : ∀ a, Z a → ¬ Fr a
  tab : ∀ P ∈ C.tb, TabG H P
  nz : ∀ P ∈ C.tb, ¬ Z P ∧ ¬ Fr P

def SlotR (C : Cfg) (Z Fr : Addr → Prop) (As : Nat → Addr) (H : Hp) (v : Option V) : Option Slot → Prop
  | none => True
  | some (.val d) => ∃ u, v = some u ∧ Rp C.K Z H u d
  | some (.own t m) => ∃ a, v = some (.ref a) ∧ MOR C.K Z H a m ∧ ¬ Z a ∧ ¬ Fr a ∧ ∀ k, t = some k → a = As k
  | some (.scr ns) => ∃ a, v = some (.ref a) ∧ SqS C.K H a (ns.map V.int)
/-- the address that slot i owns -/
def OwnAt (σ : L2.St) (env : En) (a : Addr) (i : Nat) : Prop := σ[i]? = some (some (.ref a)) ∧ ∃ t m, env[i]? = some (some (.own t m))

structure EnvR (C : Cfg) (Z Fr : Addr → Prop) (As : Nat → Addr) (σ : L2.St) (H : Hp) (env : En) : Prop where
  ok : Ok C Z Fr H
  len : σ.length = env.length
  slot : ∀ (i : Nat) (v : Option V) (x : Option Slot), σ[i]? = some v → env[i]? = some x → SlotR C Z Fr As H v x
  apart : ∀ (a : Addr) (i j : Nat), OwnAt σ env a i → OwnAt σ env a j → i = j

/-- an expression's value: a value, or a new object that nobody holds -/
def ResR (C : Cfg) (Z Fr : Addr → Prop) (σ : L2.St) (env : En) (H : Hp) (v : V) : Slot → Prop
  | .val d => Rp C.K Z H v d
  | .own t m => t = none ∧ ∃ a, v = .ref a ∧ MOR C.K Z H a m ∧ ¬ Z a ∧ ¬ Fr a ∧ ∀ i, ¬ OwnAt σ env a i
  | .scr ns => ∃ a, v = .ref a ∧ SqS C.K H a (ns.map V.int)
end DV

set_option Elab.async false
set_option linter.all false
set_option maxRecDepth 100000
set_option maxHeartbeats 4000000
namespace DV
open PySem PySem.Spec PyProof.Rows L2
section
variable {C : Cfg} {Z Z' Fr Fr' : Addr → Prop} {As : Nat → Addr} {σ : L2.St} {H H' : Hp} {env env' : En}

theorem TabG.new {P p : Addr} {o : HO} (t : TabG H P) (n : H p = none) : TabG (upd H p o) P := by
  obtain ⟨ps, h, k⟩ := t
  exact ⟨ps, by rw [upd_ne (ne_of_none h n)]; exact h, k⟩
theorem Step.new {p : Addr} {o : HO} (ok : Ok C Z Fr H) (n : H p = none) : Step Z Fr H Z (upd H p o) where
  zz := fun _ h => h
  keep := fun a h => upd_ne fun e => (h.elim (ok.z a) (ok.f a)) (by rw [e]; exact n)
  tup := fun a vs h => by rw [upd_ne (ne_of_none h n)]; exact h
  frz := fun a o u h => by rw [upd_ne (ne_of_none h n)]; exact h
  fr := fun _ h _ => h
  non := fun a h => by rw [upd_ne (fun e => h (by rw [e]; exact n))]; exact h
theorem Ok.new {p : Addr} {o : HO} (ok : Ok C Z Fr H) (n : H p = none) : Ok C Z Fr (upd H p o) where
  z := fun a h => (Step.new (o := o) ok n).non a (ok.z a h)
  f := fun a h => (Step.new (o := o) ok n).non a (ok.f a h)
  zf := ok.zf
  tab := fun P h => (ok.tab P h).new n
  nz := ok.nz
theorem SlotR.keep (x : Step Z Fr H Z' H') (hz : ∀ a, Z' a → Z a) (e : ∀ a, H a ≠ none → H' a = H a) {v : Option V} : ∀ {s : Option Slot}, SlotR C Z Fr As H v s → SlotR C Z' Fr As H' v s
  | none, _ => True.intro
  | some (.val d), ⟨u, h, r⟩ => ⟨u, h, r.step x⟩
  | some (.own t m), ⟨a, h, r, z, f, k⟩ => ⟨a, h, r.step x (e a r.non), fun q => z (hz a q), f, k⟩
  | some (.scr ns), ⟨a, h, r⟩ => ⟨a, h, x.sqs r⟩
theorem EnvR.new {p : Addr} {o : HO} (I : EnvR C Z Fr As σ H env) (n : H p = none) : EnvR C Z Fr As σ (upd H p o) env where
  ok := I.ok.new n
  len := I.len
  slot := fun i v x h1 h2 => SlotR.keep (Step.new I.ok n) (fun _ h => h) (fun a h => upd_ne fun e => h (by rw [e]; exact n)) (I.slot i v x h1 h2)
  apart := I.apart
/-- a new address is nobody's -/
theorem EnvR.nobody {p : Addr} (I : EnvR C Z Fr As σ H env) (n : H p = none) : ¬ Z p ∧ ¬ Fr p ∧ ∀ i, ¬ OwnAt σ env p i := by
  refine ⟨fun z => I.ok.z p z n, fun z => I.ok.f p z n, fun i ⟨h1, t, m, h2⟩ => ?_⟩
  obtain ⟨a, e, r, _⟩ := I.slot i _ _ h1 h2
  have e' : a = p := by injection e with e; injection e with e; exact e.symm
  rw [e'] at r
  exact r.non n

theorem getElem?_set' {α : Type} {l : List α} {i j : Nat} {x y : α} (h : (l.set i x)[j]? = some y) : (i = j ∧ y = x ∧ i < l.length) ∨ (i ≠ j ∧ l[j]? = some y) := by
  by_cases e : i = j
  · subst e
    rw [List.getElem?_set] at h
    simp only [if_true] at h
    split at h
    · cases h
      exact .inl ⟨rfl, rfl, by assumption⟩
    · cases h
  · rw [List.getElem?_set_ne e] at h
    exact .inr ⟨e, h⟩
theorem OwnAt.of_set {i j : Nat} {v : Option V} {x : Option Slot} {a : Addr} (h : OwnAt (σ.set i v) (env.set i x) a j) : (i = j ∧ v = some (.ref a) ∧ ∃ t m, x = some (.own t m)) ∨ (i ≠ j ∧ OwnAt σ env a j) := by
  obtain ⟨h1, t, m, h2⟩ := h
  rcases getElem?_set' h1 with ⟨e, h1, _⟩ | ⟨e, h1⟩
  · rcases getElem?_set' h2 with ⟨_, h2, _⟩ | ⟨e2, _⟩
    · exact .inl ⟨e, h1.symm, t, m, h2.symm⟩
    · exact absurd e e2
  · rcases getElem?_set' h2 with ⟨e2, _⟩ | ⟨_, h2⟩
    · exact absurd e2 e
    · exact .inr ⟨e, h1, t, m, h2⟩
/-- a variable takes an expression's value -/
theorem EnvR.setRes {i : Nat} {v : V} {r : Slot} (I : EnvR C Z Fr As σ H env) (h : ResR C Z Fr σ env H v r) : EnvR C Z Fr As (σ.set i (some v)) H (env.set i (some r)) where
  ok := I.ok
  len := by rw [List.length_set, List.length_set]; exact I.len
  slot := fun j w x h1 h2 => by
    rcases getElem?_set' h1 with ⟨e, h1, _⟩ | ⟨e, h1⟩
    · rcases getElem?_set' h2 with ⟨_, h2, _⟩ | ⟨e2, _⟩
      · subst h1 h2
        cases r with
        | val d => exact ⟨v, rfl, h⟩
        | scr ns =>
          obtain ⟨a, e, q⟩ := h
          exact ⟨a, by rw [e], q⟩
        | own t m =>
          obtain ⟨et, a, e, k, z, f, _⟩ := h
          exact ⟨a, by rw [e], k, z, f, fun k q => by rw [et] at q; cases q⟩
      · exact absurd e e2
    · rcases getElem?_set' h2 with ⟨e2, _⟩ | ⟨_, h2⟩
      · exact absurd e2 e
      · exact I.slot j w x h1 h2
  apart := fun a j k h1 h2 => by
    rcases h1.of_set with ⟨e1, v1, t1, m1, x1⟩ | ⟨e1, g1⟩
    · rcases h2.of_set with ⟨e2, _⟩ | ⟨e2, g2⟩
      · exact e1.symm.trans e2
      · cases x1
        obtain ⟨_, b, eb, _, _, _, nb⟩ := h
        rw [eb] at v1
        cases v1
        exact absurd g2 (nb k)
    · rcases h2.of_set with ⟨e2, v2, t2, m2, x2⟩ | ⟨e2, g2⟩
      · cases x2
        obtain ⟨_, b, eb, _, _, _, nb⟩ := h
        rw [eb] at v2
        cases v2
        exact absurd g1 (nb j)
      · exact I.apart a j k g1 g2
/-- a variable's value is forgotten -/
theorem OwnAt.of_forget {i j : Nat} {a : Addr} (h : OwnAt σ (env.set i none) a j) : i ≠ j ∧ OwnAt σ env a j := by
  obtain ⟨h1, t, m, h2⟩ := h
  rcases getElem?_set' h2 with ⟨_, h2, _⟩ | ⟨e, h2⟩
  · cases h2
  · exact ⟨e, h1, t, m, h2⟩
theorem EnvR.forget {i : Nat} (I : EnvR C Z Fr As σ H env) : EnvR C Z Fr As σ H (env.set i none) where
  ok := I.ok
  len := by rw [List.length_set]; exact I.len
  slot := fun j w x h1 h2 => by
    rcases getElem?_set' h2 with ⟨_, h2, _⟩ | ⟨_, h2⟩
    · subst h2; exact True.intro
    · exact I.slot j w x h1 h2
  apart := fun a j k h1 h2 => I.apart a j k h1.of_forget.2 h2.of_forget.2
/-- a variable's value, by its slot -/
theorem EnvR.at {i : Nat} {s : Slot} (I : EnvR C Z Fr As σ H env) (h : env[i]? = some (some s)) : ∃ v, σ[i]? = some v ∧ SlotR C Z Fr As H v (some s) := by
  have hi : i < env.length := (List.getElem?_eq_some_iff.mp h).1
  have hl : i < σ.length := by rw [I.len]; exact hi
  have hs : σ[i]? = some σ[i] := List.getElem?_eq_getElem hl
  exact ⟨_, hs, I.slot i _ _ hs h⟩
theorem EnvR.atVal {i : Nat} {d : D} (I : EnvR C Z Fr As σ H env) (h : env[i]? = some (some (.val d))) : ∃ v, σ[i]? = some (some v) ∧ Rp C.K Z H v d := by
  obtain ⟨v, h1, u, rfl, r⟩ := I.at h
  exact ⟨u, h1, r⟩
theorem EnvR.atOwn {i : Nat} {t : Option Nat} {m : MO} (I : EnvR C Z Fr As σ H env) (h : env[i]? = some (some (.own t m))) :
    ∃ a, σ[i]? = some (some (.ref a)) ∧ MOR C.K Z H a m ∧ ¬ Z a ∧ ¬ Fr a ∧ (∀ k, t = some k → a = As k) ∧ OwnAt σ env a i := by
  obtain ⟨v, h1, a, rfl, r, z, f, k⟩ := I.at h
  exact ⟨a, h1, r, z, f, k, h1, t, m, h⟩
/-- it is moved out -/
theorem EnvR.move {i : Nat} {m : MO} {a : Addr} (I : EnvR C Z Fr As σ H env) (h : env[i]? = some (some (.own none m))) (e : σ[i]? = some (some (.ref a))) :
    EnvR C Z Fr As σ H (env.set i none) ∧ ResR C Z Fr σ (env.set i none) H (.ref a) (.own none m) := by
  obtain ⟨b, h1, r, z, f, _, ow⟩ := I.atOwn h
  rw [h1] at e
  cases e
  refine ⟨I.forget, rfl, a, rfl, r, z, f, fun j hj => ?_⟩
  obtain ⟨ne, hj⟩ := hj.of_forget
  exact ne (I.apart a i j ow hj)
/-- an object of a variable's own is changed -/
theorem EnvR.mutate {i : Nat} {t : Option Nat} {m m' : MO} {a : Addr} {o : HO} (I : EnvR C Z Fr As σ H env) (h : env[i]? = some (some (.own t m))) (e : σ[i]? = some (some (.ref a)))
    (new : ∀ {Z1 H1}, Step Z Fr H Z1 H1 → H1 a = some o → MOR C.K Z1 H1 a m') : EnvR C Z Fr As σ (upd H a o) (env.set i (some (.own t m'))) ∧ Step Z Fr H Z (upd H a o) := by
  obtain ⟨b, h1, r, z, f, k, ow⟩ := I.atOwn h
  rw [h1] at e
  cases e
  have mu := r.mut
  have hne : ∀ b u, H b = some u → ¬ Mut (some u) → b ≠ a := fun b u q nm y => by rw [y] at q; rw [q] at mu; exact nm mu
  have st : Step Z Fr H Z (upd H a o) := by
    refine ⟨fun _ q => q, fun b q => upd_ne fun y => ?_, fun b vs q => by rw [upd_ne (hne b _ q fun y => y)]; exact q, fun b o u q => by rw [upd_ne (hne b _ q fun y => y)]; exact q, fun _ q _ => q, fun b q => ?_⟩
    · rw [y] at q
      exact q.elim z f
    · by_cases y : b = a
      · rw [y, upd_same]; exact fun q => by cases q
      · rw [upd_ne y]; exact q
  refine ⟨⟨⟨fun b q => st.non b (I.ok.z b q), fun b q => st.non b (I.ok.f b q), I.ok.zf, fun P hP => ?_, I.ok.nz⟩, by rw [List.length_set]; exact I.len, fun j w x g1 g2 => ?_, fun b j l g1 g2 => ?_⟩, st⟩
  · obtain ⟨ps, q, y⟩ := I.ok.tab P hP
    exact ⟨ps, by rw [upd_ne (hne P _ q fun y => y)]; exact q, y⟩
  · rcases getElem?_set' g2 with ⟨ej, q2, _⟩ | ⟨ej, g2⟩
    · subst ej q2
      rw [h1] at g1
      cases g1
      exact ⟨a, rfl, new st upd_same, z, f, k⟩
    · have s := I.slot j w x g1 g2
      rcases x with _ | ⟨d | ⟨t2, m2⟩ | ns⟩
      · exact True.intro
      · obtain ⟨u, q, y⟩ := s
        exact ⟨u, q, y.step st⟩
      · obtain ⟨b, q, y, z2, f2, k2⟩ := s
        have nb : b ≠ a := fun y => by
          subst q
          exact ej (I.apart a i j ow (by rw [← y]; exact ⟨g1, t2, m2, g2⟩))
        exact ⟨b, q, y.step st (upd_ne nb), z2, f2, k2⟩
      · obtain ⟨u, q, y⟩ := s
        exact ⟨u, q, st.sqs y⟩
  · have back : ∀ {j}, OwnAt σ (env.set i (some (.own t m'))) b j → OwnAt σ env b j := fun {j} ⟨g1, t2, m2, g2⟩ => by
      rcases getElem?_set' g2 with ⟨ej, _, _⟩ | ⟨ej, g2⟩
      · subst ej
        exact ⟨g1, t, m, h⟩
      · exact ⟨g1, t2, m2, g2⟩
    exact I.apart b j l (back g1) (back g2)
/-- a list of a variable's own is frozen -/
theorem Step.freeze {a : Addr} (f : ¬ Fr a) : Step Z Fr H (fun b => Z b ∨ b = a) H :=
  ⟨fun _ h => .inl h, fun _ _ => rfl, fun _ _ h => h, fun _ _ _ h => h, fun b h g => h.elim id fun e => absurd (by rw [← e]; exact g) f, fun _ h => h⟩
theorem Ok.freeze {a : Addr} (ok : Ok C Z Fr H) (f : ¬ Fr a) (n : H a ≠ none) (nt : ∀ ps, H a ≠ some (.tbl ps)) : Ok C (fun b => Z b ∨ b = a) Fr H where
  z := fun b h => h.elim (ok.z b) fun e => by rw [e]; exact n
  f := ok.f
  zf := fun b h => h.elim (ok.zf b) fun e => by rw [e]; exact f
  tab := ok.tab
  nz := fun P h => ⟨fun q => q.elim (ok.nz P h).1 fun e => by
    obtain ⟨ps, q, _⟩ := ok.tab P h
    rw [e] at q
    exact nt ps q, (ok.nz P h).2⟩
theorem EnvR.freeze {i : Nat} {ds : List D} {a : Addr} (I : EnvR C Z Fr As σ H env) (h : env[i]? = some (some (.own none (.lst ds)))) (e : σ[i]? = some (some (.ref a))) :
    Step Z Fr H (fun b => Z b ∨ b = a) H ∧ EnvR C (fun b => Z b ∨ b = a) Fr As σ H (env.set i (some (.val (.list ds)))) ∧ Rp C.K (fun b => Z b ∨ b = a) H (.ref a) (.list ds) := by
  obtain ⟨b, h1, r, z, f, k, ow⟩ := I.atOwn h
  rw [h1] at e
  cases e
  obtain ⟨vs, q, r⟩ := r
  have st : Step Z Fr H (fun b => Z b ∨ b = a) H := Step.freeze f
  have rp : Rp C.K (fun b => Z b ∨ b = a) H (.ref a) (.list ds) := .lst (.inr rfl) q (r.step st)
  refine ⟨st, ⟨I.ok.freeze f (by rw [q]; exact fun y => by cases y) (fun ps y => by rw [q] at y; cases y), by rw [List.length_set]; exact I.len, fun j w x g1 g2 => ?_, fun b j l g1 g2 => ?_⟩, rp⟩
  · rcases getElem?_set' g2 with ⟨ej, q2, _⟩ | ⟨ej, g2⟩
    · subst ej q2
      rw [h1] at g1
      cases g1
      exact ⟨_, rfl, rp⟩
    · have s := I.slot j w x g1 g2
      rcases x with _ | ⟨d | ⟨t2, m2⟩ | ns⟩
      · exact True.intro
      · obtain ⟨u, q, y⟩ := s
        exact ⟨u, q, y.step st⟩
      · obtain ⟨b, q, y, z2, f2, k2⟩ := s
        refine ⟨b, q, y.step st rfl, fun y => y.elim z2 fun y => ?_, f2, k2⟩
        subst q
        exact ej (I.apart a i j ow (by rw [← y]; exact ⟨g1, t2, m2, g2⟩))
      · exact s
  · have back : ∀ {j}, OwnAt σ (env.set i (some (.val (.list ds)))) b j → OwnAt σ env b j := fun {j} ⟨g1, t2, m2, g2⟩ => by
      rcases getElem?_set' g2 with ⟨ej, q2, _⟩ | ⟨ej, g2⟩
      · cases q2
      · exact ⟨g1, t2, m2, g2⟩
    exact I.apart b j l (back g1) (back g2)
/-- a new list that nobody holds is frozen -/
theorem EnvR.freezeRes {ds : List D} {v : V} (I : EnvR C Z Fr As σ H env) (h : ResR C Z Fr σ env H v (.own none (.lst ds))) :
    ∃ Z', Step Z Fr H Z' H ∧ EnvR C Z' Fr As σ H env ∧ Rp C.K Z' H v (.list ds) := by
  obtain ⟨_, a, rfl, ⟨vs, q, r⟩, z, f, no⟩ := h
  have st : Step Z Fr H (fun b => Z b ∨ b = a) H := Step.freeze f
  refine ⟨_, st, ⟨I.ok.freeze f (by rw [q]; exact fun y => by cases y) (fun ps y => by rw [q] at y; cases y), I.len, fun j w x g1 g2 => ?_, I.apart⟩, .lst (.inr rfl) q (r.step st)⟩
  have s := I.slot j w x g1 g2
  rcases x with _ | ⟨d | ⟨t2, m2⟩ | ns⟩
  · exact True.intro
  · obtain ⟨u, q, y⟩ := s
    exact ⟨u, q, y.step st⟩
  · obtain ⟨b, q, y, z2, f2, k2⟩ := s
    refine ⟨b, q, y.step st rfl, fun y => y.elim z2 fun y => ?_, f2, k2⟩
    subst q
    exact no j ⟨by rw [← y]; exact g1, t2, m2, g2⟩
  · exact s

/-! ### frames -/
theorem EnvR.weak (I : EnvR C Z Fr As σ H env) (h : ∀ a, Fr' a → Fr a) : EnvR C Z Fr' As σ H env where
  ok := ⟨I.ok.z, fun a q => I.ok.f a (h a q), fun a z f => I.ok.zf a z (h a f), I.ok.tab, fun P hP => ⟨(I.ok.nz P hP).1, fun f => (I.ok.nz P hP).2 (h P f)⟩⟩
  len := I.len
  slot := fun j w x g1 g2 => by
    have s := I.slot j w x g1 g2
    rcases x with _ | ⟨d | ⟨t2, m2⟩ | ns⟩
    · exact True.intro
    · exact s
    · obtain ⟨b, q, y, z2, f2, k2⟩ := s
      exact ⟨b, q, y, z2, fun f => f2 (h b f), k2⟩
    · exact s
  apart := I.apart
/-- what a value owns -/
def Own1 (v : V) (r : Slot) (a : Addr) : Prop := v = .ref a ∧ ∃ t m, r = .own t m
theorem EnvR.prot {v : V} {r : Slot} (I : EnvR C Z Fr As σ H env) (h : ResR C Z Fr σ env H v r) : EnvR C Z (fun a => Fr a ∨ Own1 v r a) As σ H env := by
  have key : ∀ a, Own1 v r a → ¬ Z a ∧ H a ≠ none ∧ (∀ i, ¬ OwnAt σ env a i) ∧ ∀ ps, H a ≠ some (.tbl ps) := fun a ⟨e, t, m, er⟩ => by
    subst er
    obtain ⟨_, b, e2, r, z, _, no⟩ := h
    rw [e] at e2
    cases e2
    refine ⟨z, r.non, no, fun ps q => ?_⟩
    have mu := r.mut
    rw [q] at mu
    exact mu
  refine ⟨⟨I.ok.z, fun a q => q.elim (I.ok.f a) fun q => (key a q).2.1, fun a z f => f.elim (I.ok.zf a z) fun q => (key a q).1 z, I.ok.tab, fun P hP => ⟨(I.ok.nz P hP).1, fun f => f.elim (I.ok.nz P hP).2 fun q => ?_⟩⟩, I.len, fun j w x g1 g2 => ?_, I.apart⟩
  · obtain ⟨ps, y, _⟩ := I.ok.tab P hP
    exact (key P q).2.2.2 ps y
  · have s := I.slot j w x g1 g2
    rcases x with _ | ⟨d | ⟨t2, m2⟩ | ns⟩
    · exact True.intro
    · exact s
    · obtain ⟨b, q, y, z2, f2, k2⟩ := s
      subst q
      exact ⟨b, rfl, y, z2, fun f => f.elim f2 fun q => (key b q).2.2.1 j ⟨g1, t2, m2, g2⟩, k2⟩
    · exact s
theorem ResR.after {v : V} {r : Slot} (h : ResR C Z Fr σ env H v r) (x : Step Z (fun a => Fr a ∨ Own1 v r a) H Z' H') (I' : EnvR C Z' (fun a => Fr a ∨ Own1 v r a) As σ H' env') : ResR C Z' Fr σ env' H' v r := by
  cases r with
  | val d => exact Rp.step x h
  | scr ns =>
    obtain ⟨a, e, q⟩ := h
    exact ⟨a, e, x.sqs q⟩
  | own t m =>
    obtain ⟨e, a, rfl, r, z, f, _⟩ := h
    have own : Own1 (.ref a) (.own t m) a := ⟨rfl, t, m, rfl⟩
    refine ⟨e, a, rfl, r.step x (x.keep a (.inr (.inr own))), fun q => z (x.fr a q (.inr own)), f, fun i ⟨h1, t2, m2, h2⟩ => ?_⟩
    obtain ⟨b, e2, _, _, nf, _⟩ := I'.slot i _ _ h1 h2
    cases e2
    exact nf (.inr own)
theorem ResR.keep {v : V} {r : Slot} (h : ResR C Z Fr σ env H v r) (x : Step Z Fr H Z' H') (hz : ∀ a, Z' a → Z a) (e : ∀ a, H a ≠ none → H' a = H a) : ResR C Z' Fr σ env H' v r := by
  cases r with
  | val d => exact Rp.step x h
  | scr ns =>
    obtain ⟨a, e, q⟩ := h
    exact ⟨a, e, x.sqs q⟩
  | own t m =>
    obtain ⟨e1, a, rfl, r, z, f, no⟩ := h
    exact ⟨e1, a, rfl, r.step x (e a r.non), fun q => z (hz a q), f, no⟩
end
end DV

set_option Elab.async false
set_option linter.all false
set_option maxRecDepth 100000
set_option maxHeartbeats 4000000
namespace DV
open PySem PySem.Spec PyProof.Rows L2

/-! ### readings -/
def need {α : Type} (o : Option α) (k : α → Prop) : Prop := match o with
  | some a => k a
  | none => False
theorem need_out {α : Type} {o : Option α} {k : α → Prop} (h : need o k) : ∃ a, o = some a ∧ k a := by
  cases o with
  | none => exact h.elim
  | some a => exact ⟨a, rfl, h⟩
theorem need_in {α : Type} {o : Option α} {k : α → Prop} {a : α} (e : o = some a) (h : k a) : need o k := by
  subst e
  exact h
theorem need_some {α : Type} {a : α} {k : α → Prop} : need (some a) k = k a := rfl
abbrev DE := En → (Slot → En → Prop) → Prop
abbrev DT := En → (Bool → En → Prop) → Prop
abbrev DV := En → (D → En → Prop) → Prop
abbrev DVs := En → (List D → En → Prop) → Prop
/-- an operand: a value, or a variable that is looked at -/
inductive Opd where
  | res (r : Slot) | var (i : Nat)
abbrev DO := En → (Opd → En → Prop) → Prop
abbrev DOs := En → (List Opd → En → Prop) → Prop

def sl (env : En) (i : Nat) : Option Slot := (env[i]?).join
theorem sl_at {env : En} {i : Nat} {s : Slot} (h : sl env i = some s) : env[i]? = some (some s) := by
  unfold sl at h
  cases q : env[i]? with
  | none => rw [q] at h; cases h
  | some o => rw [q] at h; exact congrArg some h
def con (env : En) : Opd → Option Slot
  | .res r => some r
  | .var i => sl env i
/-- a value that is handed on: a list of nobody's is frozen -/
def frzS : Slot → Option D
  | .val d => some d
  | .own none (.lst ds) => some (.list ds)
  | .own none (.dK []) => some (.dict [])
  | _ => none

def CR (C : Cfg) (Z : Addr → Prop) (H : Hp) (x : V) : Slot → Prop
  | .val d => Rp C.K Z H x d
  | .own _ m => ∃ a, x = .ref a ∧ MOR C.K Z H a m
  | .scr ns => ∃ a, x = .ref a ∧ SqS C.K H a (ns.map V.int)
def OpdR (C : Cfg) (Z Fr : Addr → Prop) (σ : L2.St) (env : En) (H : Hp) (v : V) : Opd → Prop
  | .res r => ResR C Z Fr σ env H v r
  | .var i => σ[i]? = some (some v)
def OwnO (v : V) : Opd → Addr → Prop
  | .res r, a => Own1 v r a
  | .var _, _ => False

section
variable {C : Cfg} {Z Z' Fr Fr' : Addr → Prop} {As : Nat → Addr} {σ : L2.St} {H H' : Hp} {env env' : En}
theorem ResR.cr {v : V} : ∀ {r : Slot}, ResR C Z Fr σ env H v r → CR C Z H v r
  | .val _, h => h
  | .own _ _, ⟨_, a, e, m, _⟩ => ⟨a, e, m⟩
  | .scr _, h => h
theorem SlotR.cr {v : V} : ∀ {r : Slot}, SlotR C Z Fr As H (some v) (some r) → CR C Z H v r
  | .val _, ⟨u, e, h⟩ => by cases e; exact h
  | .own _ _, ⟨a, e, m, _⟩ => by cases e; exact ⟨a, rfl, m⟩
  | .scr _, ⟨a, e, m⟩ => by cases e; exact ⟨a, rfl, m⟩
theorem OpdR.cr {v : V} {o : Opd} {s : Slot} (I : EnvR C Z Fr As σ H env) (h : OpdR C Z Fr σ env H v o) (c : con env o = some s) : CR C Z H v s := by
  cases o with
  | res r => cases c; exact ResR.cr h
  | var i =>
    have h : σ[i]? = some (some v) := h
    exact SlotR.cr (I.slot i _ _ h (sl_at c))
theorem OpdR.prot {v : V} {o : Opd} (I : EnvR C Z Fr As σ H env) (h : OpdR C Z Fr σ env H v o) : EnvR C Z (fun a => Fr a ∨ OwnO v o a) As σ H env := by
  cases o with
  | res r => exact I.prot h
  | var i => exact I.weak fun a f => f.elim id fun z => z.elim
theorem OpdR.after {v : V} {o : Opd} (h : OpdR C Z Fr σ env H v o) (x : Step Z (fun a => Fr a ∨ OwnO v o a) H Z' H') (I' : EnvR C Z' (fun a => Fr a ∨ OwnO v o a) As σ H' env') : OpdR C Z' Fr σ env' H' v o := by
  cases o with
  | res r => exact ResR.after h x I'
  | var i => exact h
theorem ResR.weak {v : V} {r : Slot} (h : ResR C Z Fr σ env H v r) (hf : ∀ a, Fr' a → Fr a) : ResR C Z Fr' σ env H v r := by
  cases r with
  | val d => exact h
  | scr ns => exact h
  | own t m =>
    obtain ⟨e, a, ea, q, z, f, n⟩ := h
    exact ⟨e, a, ea, q, z, fun y => f (hf a y), n⟩
theorem OpdR.weak {v : V} {o : Opd} (h : OpdR C Z Fr σ env H v o) (hf : ∀ a, Fr' a → Fr a) : OpdR C Z Fr' σ env H v o := by
  cases o with
  | res r => exact ResR.weak h hf
  | var i => exact h
end

/-! ### judgements -/
def tE (C : Cfg) (w : DE) : TE := fun σ H Q => ∃ Z Fr As env, EnvR C Z Fr As σ H env ∧ w env fun r env' => ∀ v H' Z', Step Z Fr H Z' H' → EnvR C Z' Fr As σ H' env' → ResR C Z' Fr σ env' H' v r → Q v H'
def tV (C : Cfg) (w : DV) : TE := fun σ H Q => ∃ Z Fr As env, EnvR C Z Fr As σ H env ∧ w env fun d env' => ∀ v H' Z', Step Z Fr H Z' H' → EnvR C Z' Fr As σ H' env' → Rp C.K Z' H' v d → Q v H'
def tO (C : Cfg) (w : DO) : TE := fun σ H Q => ∃ Z Fr As env, EnvR C Z Fr As σ H env ∧ w env fun o env' => ∀ v H' Z', Step Z Fr H Z' H' → EnvR C Z' Fr As σ H' env' → OpdR C Z' Fr σ env' H' v o → Q v H'
def tVs (C : Cfg) (w : DVs) : TA := fun σ H Q => ∃ Z Fr As env, EnvR C Z Fr As σ H env ∧ w env fun ds env' => ∀ vs H' Z', Step Z Fr H Z' H' → EnvR C Z' Fr As σ H' env' → Rps C.K Z' H' vs ds → Q vs H'
def tT (C : Cfg) (w : DT) : TT := fun σ H Q => ∃ Z Fr As env, EnvR C Z Fr As σ H env ∧ w env fun b env' => ∀ H' Z', Step Z Fr H Z' H' → EnvR C Z' Fr As σ H' env' → Q b H'
/-- operands: those that are new objects stand apart -/
def OpdRs (C : Cfg) (Z : Addr → Prop) (σ : L2.St) (env : En) (H : Hp) : (Addr → Prop) → List V → List Opd → Prop
  | _, [], [] => True
  | Fr, v :: vs, o :: os => OpdR C Z Fr σ env H v o ∧ OpdRs C Z σ env H (fun a => Fr a ∨ OwnO v o a) vs os
  | _, _, _ => False
def tOs (C : Cfg) (w : DOs) : TA := fun σ H Q => ∃ Z Fr As env, EnvR C Z Fr As σ H env ∧ w env fun os env' => ∀ vs H' Z', Step Z Fr H Z' H' → EnvR C Z' Fr As σ H' env' → OpdRs C Z' σ env' H' Fr vs os → Q vs H'

def Mono {α β : Type} (w : α → (β → α → Prop) → Prop) : Prop := ∀ env Q Q', (∀ r e, Q r e → Q' r e) → w env Q → w env Q'
structure SE (tb : List Addr) (X : Cx) (e : Expr) (w : DE) : Prop where
  mono : Mono w
  pe : PE X e (tE ⟨X.K, tb⟩ w)
structure SV (tb : List Addr) (X : Cx) (e : Expr) (w : DV) : Prop where
  mono : Mono w
  pe : PE X e (tV ⟨X.K, tb⟩ w)
structure SO (tb : List Addr) (X : Cx) (e : Expr) (w : DO) : Prop where
  mono : Mono w
  pe : PE X e (tO ⟨X.K, tb⟩ w)
structure SVs (tb : List Addr) (X : Cx) (es : List Expr) (w : DVs) : Prop where
  mono : Mono w
  pe : PA X es (tVs ⟨X.K, tb⟩ w)
structure SOs (tb : List Addr) (X : Cx) (es : List Expr) (w : DOs) : Prop where
  mono : Mono w
  pe : PA X es (tOs ⟨X.K, tb⟩ w)
structure ST (tb : List Addr) (X : Cx) (e : Expr) (w : DT) : Prop where
  mono : Mono w
  pe : PT X e (tT ⟨X.K, tb⟩ w)
theorem _root_.L2.PE.imp {X : Cx} {e : Expr} {t t' : TE} (h : PE X e t) (i : ∀ σ H Q, t' σ H Q → t σ H Q) : PE X e t' := ⟨fun pins s σ H Q I q => h.run pins s σ H Q I (i σ H Q q)⟩
theorem _root_.L2.PT.imp {X : Cx} {e : Expr} {t t' : TT} (h : PT X e t) (i : ∀ σ H Q, t' σ H Q → t σ H Q) : PT X e t' := ⟨fun pins s σ H Q I q => h.run pins s σ H Q I (i σ H Q q)⟩
theorem _root_.L2.PA.imp {X : Cx} {e : List Expr} {t t' : TA} (h : PA X e t) (i : ∀ σ H Q, t' σ H Q → t σ H Q) : PA X e t' := ⟨fun pos pins s σ H Q I q => h.run pos pins s σ H Q I (i σ H Q q)⟩

section
variable {tb : List Addr} {X : Cx}
/-! ### constants and names -/
def dK (d : D) : DE := fun env Q => Q (.val d) env
theorem se_int {i j pos} : SE tb X (.Constant (.int i) j pos) (dK (.int i)) := ⟨fun _ _ _ h q => h _ _ q, pe_int.imp fun σ H Q ⟨Z, Fr, As, env, I, h⟩ => h _ _ _ Step.refl I (Rp.int i)⟩
theorem se_bool {b j pos} : SE tb X (.Constant (.bool b) j pos) (dK (.bool b)) := ⟨fun _ _ _ h q => h _ _ q, pe_bl.imp fun σ H Q ⟨Z, Fr, As, env, I, h⟩ => h _ _ _ Step.refl I (Rp.bl b)⟩
theorem se_none {j pos} : SE tb X (.Constant .none j pos) (dK .none) := ⟨fun _ _ _ h q => h _ _ q, pe_non.imp fun σ H Q ⟨Z, Fr, As, env, I, h⟩ => h _ _ _ Step.refl I Rp.non⟩
theorem se_str {x j pos} : SE tb X (.Constant (.str x) j pos) (dK (.str x)) := ⟨fun _ _ _ h q => h _ _ q, pe_str.imp fun σ H Q ⟨Z, Fr, As, env, I, h⟩ => h _ _ _ Step.refl I (Rp.str x)⟩
theorem se_globI {x : Str} {i : Int} {t : Tok} {pos : Pos} (hg : Gl X x) (hm : X.mg x = some (.int i t)) (hd : (x == ("__debug__" : Str)) = false := by decide) : SE tb X (.Name x pos) (dK (.int i)) :=
  ⟨fun _ _ _ h q => h _ _ q, (pe_glob (v := .int i) hg hm ⟨t, rfl⟩ hd).imp fun σ H Q ⟨Z, Fr, As, env, I, h⟩ => h _ _ _ Step.refl I (Rp.int i)⟩
theorem se_globS {x : Str} {y : Str} {t : Tok} {pos : Pos} (hg : Gl X x) (hm : X.mg x = some (.str y t)) (hd : (x == ("__debug__" : Str)) = false := by decide) : SE tb X (.Name x pos) (dK (.str y)) :=
  ⟨fun _ _ _ h q => h _ _ q, (pe_glob (v := .str y) hg hm ⟨t, rfl⟩ hd).imp fun σ H Q ⟨Z, Fr, As, env, I, h⟩ => h _ _ _ Step.refl I (Rp.str y)⟩
/-- a variable that is looked at -/
def dVarO (i : Nat) : DO := fun env Q => need (sl env i) fun _ => Q (.var i) env
theorem so_var (i : Nat) {x : Str} {pos : Pos} (hN : X.N[i]? = some x := by rfl) (hv : Vis X.env.scope x := by first | exact Or.inl rfl | exact Or.inr (Or.inl rfl) | exact Or.inr (Or.inr rfl)) (hd : (x == ("__debug__" : Str)) = false := by decide)
    (hcd : (x == ("__classdict__" : Str)) = false := by decide) : SO tb X (.Name x pos) (dVarO i) :=
  ⟨fun _ _ _ h q => let ⟨_, e, q⟩ := need_out q; need_in e (h _ _ q), (pe_var hN hv hd hcd).imp fun σ H Q ⟨Z, Fr, As, env, I, h⟩ => by
    obtain ⟨s, e, h⟩ := need_out h
    obtain ⟨v, h1, h2⟩ := I.at (sl_at e)
    have hv : ∃ u, v = some u := by
      cases s with
      | val d => obtain ⟨u, e, _⟩ := h2; exact ⟨u, e⟩
      | own t m => obtain ⟨a, e, _⟩ := h2; exact ⟨_, e⟩
      | scr ns => obtain ⟨a, e, _⟩ := h2; exact ⟨_, e⟩
    obtain ⟨u, rfl⟩ := hv
    exact ⟨u, h1, h u H Z Step.refl I h1⟩⟩
/-- a variable's value that is handed on; a list of its own is frozen -/
def dVar (i : Nat) : DV := fun env Q => need (sl env i) fun s => match s with
  | .val d => Q d env
  | .own none (.lst ds) => Q (.list ds) (env.set i (some (.val (.list ds))))
  | _ => False
theorem sv_var (i : Nat) {x : Str} {pos : Pos} (hN : X.N[i]? = some x := by rfl) (hv : Vis X.env.scope x := by first | exact Or.inl rfl | exact Or.inr (Or.inl rfl) | exact Or.inr (Or.inr rfl)) (hd : (x == ("__debug__" : Str)) = false := by decide)
    (hcd : (x == ("__classdict__" : Str)) = false := by decide) : SV tb X (.Name x pos) (dVar i) := by
  refine ⟨fun env Q Q' h q => ?_, (pe_var hN hv hd hcd).imp fun σ H Q ⟨Z, Fr, As, env, I, h⟩ => ?_⟩
  · obtain ⟨s, e, q⟩ := need_out q
    refine need_in e ?_
    revert q
    split
    · exact h _ _
    · exact h _ _
    · exact id
  · obtain ⟨s, e, h⟩ := need_out h
    have e' := sl_at e
    revert h
    split
    · intro h
      obtain ⟨v, h1, r⟩ := I.atVal e'
      exact ⟨v, h1, h v H Z Step.refl I r⟩
    · intro h
      obtain ⟨a, h1, _⟩ := I.atOwn e'
      obtain ⟨st, I', r⟩ := I.freeze e' h1
      exact ⟨_, h1, h _ _ _ st I' r⟩
    · exact fun h => h.elim
/-- .. as an expression -/
def dOf (w : DV) : DE := fun env Q => w env fun d e => Q (.val d) e
theorem se_sv {e : Expr} {w : DV} (h : SV tb X e w) : SE tb X e (dOf w) := ⟨fun env Q Q' k q => h.mono env _ _ (fun _ _ => k _ _) q, h.pe.imp fun _ _ _ q => q⟩
def dFz (w : DE) : DV := fun env Q => w env fun r e => need (frzS r) fun d => Q d e
/-- an expression's value handed on -/
theorem sv_se {e : Expr} {w : DE} (h : SE tb X e w) : SV tb X e (dFz w) := by
  refine ⟨fun env Q Q' k q => h.mono env _ _ (fun _ _ q => let ⟨_, e, q⟩ := need_out q; need_in e (k _ _ q)) q, h.pe.imp fun σ H Q ⟨Z, Fr, As, env, I, q⟩ => ⟨Z, Fr, As, env, I, h.mono env _ _ (fun r e q v H' Z' st I' R => ?_) q⟩⟩
  obtain ⟨d, ed, q⟩ := need_out q
  rcases r with d' | ⟨t, m⟩ | ns
  · cases ed
    exact q v H' Z' st I' R
  · rcases t with _ | t
    · rcases m with ds | kvs | kvs
      · cases ed
        obtain ⟨Z2, st2, I2, rp⟩ := I'.freezeRes R
        exact q v H' Z2 (st.trans st2) I2 rp
      · rcases kvs with _ | ⟨k, r⟩
        · cases ed
          obtain ⟨_, a, rfl, ⟨l, hl, kr⟩, z, f, no⟩ := R
          cases kr
          have st2 : Step Z' Fr H' (fun b => Z' b ∨ b = a) H' := Step.freeze f
          refine q _ H' _ (st.trans st2) ⟨I'.ok.freeze f (by rw [hl]; exact fun y => by cases y) (fun ps y => by rw [hl] at y; cases y), I'.len, fun j w x g1 g2 => ?_, I'.apart⟩ (.dct (.inr rfl) hl)
          have s := I'.slot j w x g1 g2
          rcases x with _ | ⟨d | ⟨t2, m2⟩ | ns⟩
          · exact True.intro
          · obtain ⟨u, q, y⟩ := s
            exact ⟨u, q, y.step st2⟩
          · obtain ⟨b, q, y, z2, f2, k2⟩ := s
            refine ⟨b, q, y.step st2 rfl, fun y => y.elim z2 fun y => ?_, f2, k2⟩
            subst q
            exact no j ⟨by rw [← y]; exact g1, t2, m2, g2⟩
          · exact s
        · cases ed
      · cases ed
    · cases ed
  · cases ed
def dRes (w : DE) : DO := fun env Q => w env fun r e => Q (.res r) e
theorem so_se {e : Expr} {w : DE} (h : SE tb X e w) : SO tb X e (dRes w) := ⟨fun env Q Q' k q => h.mono env _ _ (fun _ _ => k _ _) q, h.pe.imp fun _ _ _ q => q⟩
/-- a variable's object is moved out -/
def dMove (i : Nat) : DE := fun env Q => need (sl env i) fun s => match s with
  | .own none m => Q (.own none m) (env.set i none)
  | .own (some _) _ => False
  | s => Q s env
theorem se_move (i : Nat) {x : Str} {pos : Pos} (hN : X.N[i]? = some x := by rfl) (hv : Vis X.env.scope x := by first | exact Or.inl rfl | exact Or.inr (Or.inl rfl) | exact Or.inr (Or.inr rfl)) (hd : (x == ("__debug__" : Str)) = false := by decide)
    (hcd : (x == ("__classdict__" : Str)) = false := by decide) : SE tb X (.Name x pos) (dMove i) := by
  refine ⟨fun env Q Q' h q => ?_, (pe_var hN hv hd hcd).imp fun σ H Q ⟨Z, Fr, As, env, I, h⟩ => ?_⟩
  · obtain ⟨s, e, q⟩ := need_out q
    refine need_in e ?_
    revert q
    split
    · exact h _ _
    · exact id
    · exact h _ _
  · obtain ⟨s, e, h⟩ := need_out h
    have e' := sl_at e
    rcases s with d | ⟨t, m⟩ | ns
    · obtain ⟨v, h1, r⟩ := I.atVal e'
      exact ⟨v, h1, h v H Z Step.refl I r⟩
    · rcases t with _ | t
      · obtain ⟨a, h1, _⟩ := I.atOwn e'
        obtain ⟨I', r⟩ := I.move e' h1
        exact ⟨_, h1, h _ _ _ Step.refl I' r⟩
      · exact h.elim
    · obtain ⟨v, h1, a, ev, q⟩ := I.at e'
      subst ev
      exact ⟨_, h1, h _ H Z Step.refl I ⟨a, rfl, q⟩⟩

/-! ### displays -/
def dVNil : DVs := fun env Q => Q [] env
def dVCons (w : DV) (ws : DVs) : DVs := fun env Q => w env fun d e1 => ws e1 fun ds e2 => Q (d :: ds) e2
theorem svs_nil : SVs tb X [] dVNil := ⟨fun _ _ _ h q => h _ _ q, pa_nil.imp fun σ H Q ⟨Z, Fr, As, env, I, h⟩ => h _ _ _ Step.refl I .nil⟩
theorem svs_cons {e : Expr} {es : List Expr} {w : DV} {ws : DVs} (h : SV tb X e w) (hs : SVs tb X es ws) (hst : starEach (e :: es) X.env = (false, eval e X.env) :: starEach es X.env := by rfl) : SVs tb X (e :: es) (dVCons w ws) :=
  ⟨fun env Q Q' k q => h.mono env _ _ (fun _ e1 q => hs.mono e1 _ _ (fun _ _ => k _ _) q) q, (pa_cons h.pe hs.pe hst).imp fun σ H Q ⟨Z, Fr, As, env, I, q⟩ => by
    refine ⟨Z, Fr, As, env, I, h.mono env _ _ (fun d e1 q v H1 Z1 st1 I1 r1 => ?_) q⟩
    refine ⟨Z1, Fr, As, e1, I1, hs.mono e1 _ _ (fun ds e2 q vs H2 Z2 st2 I2 r2 => ?_) q⟩
    exact q _ _ _ (st1.trans st2) I2 (.cons (r1.step st2) r2)⟩
def dTup (ws : DVs) : DE := fun env Q => ws env fun ds e => ds.length ≤ sizeLine ∧ Q (.val (.tuple ds)) e
theorem se_tup {es : List Expr} {k : Nat} {pos : Pos} {ws : DVs} (h : SVs tb X es ws) : SE tb X (.Tuple es k pos) (dTup ws) :=
  ⟨fun env Q Q' k q => h.mono env _ _ (fun _ _ ⟨a, q⟩ => ⟨a, k _ _ q⟩) q, (pe_tup h.pe).imp fun σ H Q ⟨Z, Fr, As, env, I, q⟩ =>
    ⟨Z, Fr, As, env, I, h.mono env _ _ (fun ds e ⟨hz, q⟩ vs H1 Z1 st I1 r => ⟨by rw [r.length]; exact hz, fun p np =>
      q _ _ _ (st.trans (Step.new I1.ok np)) (I1.new np) (.tup (.inl (.inl upd_same)) (r.step (Step.new I1.ok np)))⟩) q⟩⟩
def dLst (ws : DVs) : DE := fun env Q => ws env fun ds e => ds.length ≤ sizeLine ∧ Q (.own none (.lst ds)) e
theorem resNew {C : Cfg} {Z Fr : Addr → Prop} {As : Nat → Addr} {σ : L2.St} {H : Hp} {env : En} {p : Addr} {o : HO} {m : MO} (I : EnvR C Z Fr As σ H env) (np : H p = none)
    (h : ∀ {Z' H'}, Step Z Fr H Z' H' → H' p = some o → MOR C.K Z' H' p m) : ResR C Z Fr σ env (upd H p o) (.ref p) (.own none m) :=
  let ⟨z, f, no⟩ := I.nobody np
  ⟨rfl, p, rfl, h (Step.new I.ok np) upd_same, z, f, no⟩
theorem se_lst {es : List Expr} {pos : Pos} {ws : DVs} (h : SVs tb X es ws) : SE tb X (.List es pos) (dLst ws) :=
  ⟨fun env Q Q' k q => h.mono env _ _ (fun _ _ ⟨a, q⟩ => ⟨a, k _ _ q⟩) q, (pe_lst h.pe).imp fun σ H Q ⟨Z, Fr, As, env, I, q⟩ =>
    ⟨Z, Fr, As, env, I, h.mono env _ _ (fun ds e ⟨hz, q⟩ vs H1 Z1 st I1 r => ⟨by rw [r.length]; exact hz, fun p np =>
      q _ _ _ (st.trans (Step.new I1.ok np)) (I1.new np) (resNew I1 np fun st2 e => ⟨vs, e, r.step st2⟩)⟩) q⟩⟩

/-! ### operators, by what the operands are -/
abbrev G2 := Slot → Slot → (Slot → Prop) → Prop
def MonoG (G : G2) : Prop := ∀ s1 s2 R R', (∀ r, R r → R' r) → G s1 s2 R → G s1 s2 R'
def Sem2 (C : Cfg) (r : R2) (G : G2) : Prop := ∀ (Z Fr : Addr → Prop) (As : Nat → Addr) (σ : L2.St) (env : En) (H : Hp) (x y : V) (s1 s2 : Slot) (R : Slot → Prop) (Q : VK), EnvR C Z Fr As σ H env → CR C Z H x s1 → CR C Z H y s2 → G s1 s2 R →
  (∀ v H' Z' r', R r' → Step Z Fr H Z' H' → EnvR C Z' Fr As σ H' env → ResR C Z' Fr σ env H' v r' → Q v H') → r x y H Q
def dOp2 (G : G2) (wa wb : DO) : DE := fun env Q => wa env fun o1 e1 => wb e1 fun o2 e2 => need (con e2 o1) fun s1 => need (con e2 o2) fun s2 => G s1 s2 fun r => Q r e2
theorem dOp2_mono {G : G2} {wa wb : DO} (hG : MonoG G) (ha : Mono wa) (hb : Mono wb) : Mono (dOp2 G wa wb) := fun env Q Q' k q =>
  ha env _ _ (fun _ e1 q => hb e1 _ _ (fun _ e2 q => let ⟨_, c1, q⟩ := need_out q; let ⟨_, c2, q⟩ := need_out q; need_in c1 (need_in c2 (hG _ _ _ _ (fun _ => k _ _) q))) q) q
theorem op2_lift {C : Cfg} {r : R2} {G : G2} {wa wb : DO} (ma : Mono wa) (mb : Mono wb) (hs : Sem2 C r G) : ∀ σ H Q, tE C (dOp2 G wa wb) σ H Q → tOp r (tO C wa) (tO C wb) σ H Q := fun σ H Q ⟨Z, Fr, As, env, I, q⟩ => by
  refine ⟨Z, Fr, As, env, I, ma env _ _ (fun o1 e1 q v1 H1 Z1 st1 I1 r1 => ?_) q⟩
  refine ⟨Z1, _, As, e1, r1.prot I1, mb e1 _ _ (fun o2 e2 q v2 H2 Z2 st2 I2 r2 => ?_) q⟩
  obtain ⟨s1, c1, q⟩ := need_out q
  obtain ⟨s2, c2, q⟩ := need_out q
  have wk : ∀ a, Fr a → Fr a ∨ OwnO v1 o1 a := fun a => .inl
  have I2' := I2.weak wk
  have r1' := r1.after st2 I2
  have r2' := r2.weak wk
  exact hs Z2 Fr As σ e2 H2 v1 v2 s1 s2 _ _ I2' (r1'.cr I2' c1) (r2'.cr I2' c2) q fun v H' Z' r' q st I' R => q v H' Z' ((st1.trans (st2.weak wk)).trans st) I' R
theorem se_bin {a b : Expr} {op : Operator} {pos : Pos} {r : R2} {G : G2} {wa wb : DO} (ho : OpR X (binaryOp op) r) (hs : Sem2 ⟨X.K, tb⟩ r G) (hG : MonoG G) (ha : SO tb X a wa) (hb : SO tb X b wb) : SE tb X (.BinOp a op b pos) (dOp2 G wa wb) :=
  ⟨dOp2_mono hG ha.mono hb.mono, (pe_op ho ha.pe hb.pe).imp (op2_lift ha.mono hb.mono hs)⟩
theorem se_cmp {a b : Expr} {op : CmpOp} {pos : Pos} {r : R2} {G : G2} {wa wb : DO} (ho : OpR X (compareOp op) r) (hs : Sem2 ⟨X.K, tb⟩ r G) (hG : MonoG G) (ha : SO tb X a wa) (hb : SO tb X b wb) (hm : behindInMarks op b = false) : SE tb X (.Compare a [op] [b] pos) (dOp2 G wa wb) :=
  ⟨dOp2_mono hG ha.mono hb.mono, (pe_cmpR ho ha.pe hb.pe hm).imp (op2_lift ha.mono hb.mono hs)⟩
/-- a value that is a truth value, as a test -/
def isB : Slot → Option Bool
  | .val (.bool b) => some b
  | _ => none
theorem isB_eq {r : Slot} {b : Bool} (h : isB r = some b) : r = .val (.bool b) := by
  unfold isB at h
  split at h
  · cases h; rfl
  · cases h
def dTst (w : DE) : DT := fun env Q => w env fun r e => need (isB r) fun b => Q b e
theorem tst_lift {C : Cfg} {w : DE} (m : Mono w) : ∀ σ H Q, tT C (dTst w) σ H Q → tE C w σ H fun x H' => ∃ k, x = .bl k ∧ Q k H' := fun σ H Q ⟨Z, Fr, As, env, I, q⟩ =>
  ⟨Z, Fr, As, env, I, m env _ _ (fun r e q v H' Z' st I' R => by
    obtain ⟨b, er, q⟩ := need_out q
    have er := isB_eq er
    subst er
    cases R
    exact ⟨b, rfl, q H' Z' st I'⟩) q⟩
theorem dTst_mono {w : DE} (m : Mono w) : Mono (dTst w) := fun env Q Q' k q => m env _ _ (fun _ _ q => let ⟨_, e, q⟩ := need_out q; need_in e (k _ _ q)) q
theorem st_cmp {a b : Expr} {op : CmpOp} {pos : Pos} {r : R2} {G : G2} {wa wb : DO} (ho : OpR X (compareOp op) r) (hs : Sem2 ⟨X.K, tb⟩ r G) (hG : MonoG G) (ha : SO tb X a wa) (hb : SO tb X b wb) (hm : behindInMarks op b = false) : ST tb X (.Compare a [op] [b] pos) (dTst (dOp2 G wa wb)) :=
  have M := dOp2_mono hG ha.mono hb.mono
  ⟨dTst_mono M, (pt_cmpR ho ha.pe hb.pe hm).imp fun σ H Q q => op2_lift ha.mono hb.mono hs σ H _ (tst_lift M σ H Q q)⟩
theorem st_val {e : Expr} {w : DE} (h : SE tb X e w) (he : ∀ whole, isTrue e X.env whole = (do let v ← whole; standAt e.pos; holding [v] (truthy v)) := by intro _; rfl) : ST tb X e (dTst w) :=
  ⟨dTst_mono h.mono, (pt_val h.pe he).imp fun σ H Q q => tst_lift h.mono σ H Q q⟩
def dNot (w : DT) : DT := fun env Q => w env fun b e => Q (!b) e
theorem st_not {a : Expr} {pos : Pos} {w : DT} (h : ST tb X a w) : ST tb X (.UnaryOp .Not a pos) (dNot w) :=
  ⟨fun env Q Q' k q => h.mono env _ _ (fun _ _ => k _ _) q, (pt_not h.pe).imp fun _ _ _ q => q⟩
end
end DV

set_option Elab.async false
set_option linter.all false
set_option maxRecDepth 100000
set_option maxHeartbeats 4000000
namespace DV
open PySem PySem.Spec PyProof.Rows L2

/-! ### what a slot holds -/
/-- a list -/
def lsO : Slot → Option (List D)
  | .val (.list ds) => some ds
  | .own _ (.lst ds) => some ds
  | _ => none
/-- a list or a tuple -/
def sqO : Slot → Option (List D)
  | .val (.list ds) => some ds
  | .val (.tuple ds) => some ds
  | .own _ (.lst ds) => some ds
  | .scr ns => some (ns.map .int)
  | _ => none
/-- as data -/
def daO : Slot → Option D
  | .val d => some d
  | .own _ (.lst ds) => some (.list ds)
  | .scr ns => some (.list (ns.map .int))
  | _ => none
section
variable {C : Cfg} {Z Z' Fr : Addr → Prop} {H H' : Hp} {K : Frag}
theorem CR.ls {x : V} {s : Slot} {ds : List D} (h : CR C Z H x s) (e : lsO s = some ds) : ∃ a vs, x = .ref a ∧ H a = some (.lst vs) ∧ Rps C.K Z H vs ds := by
  unfold lsO at e
  split at e
  · cases e
    cases h with
    | lst z q r => exact ⟨_, _, rfl, q, r⟩
  · cases e
    obtain ⟨a, ea, vs, q, r⟩ := h
    exact ⟨a, vs, ea, q, r⟩
  · cases e
theorem rps_ints : ∀ ns : List Int, Rps K Z H (ns.map V.int) (ns.map PyData.int)
  | [] => .nil
  | n :: r => .cons (.int n) (rps_ints r)
theorem CR.sq {x : V} {s : Slot} {ds : List D} (h : CR C Z H x s) (e : sqO s = some ds) : ∃ a vs, x = .ref a ∧ (SqL C.K H a vs ∨ SqT C.K H a vs) ∧ Rps C.K Z H vs ds := by
  unfold sqO at e
  split at e
  · cases e
    cases h with
    | lst z q r => exact ⟨_, _, rfl, .inl (.inl (.inl q)), r⟩
  · cases e
    cases h with
    | tup q r => exact ⟨_, _, rfl, .inr q, r⟩
  · cases e
    obtain ⟨a, ea, vs, q, r⟩ := h
    exact ⟨a, vs, ea, .inl (.inl (.inl q)), r⟩
  · cases e
    obtain ⟨a, ea, q⟩ := h
    exact ⟨a, _, ea, .inl q.sql, rps_ints _⟩
  · cases e
mutual
theorem Rp.dp : ∀ {v : V} {d : D}, Rp K Z H v d → d.canLay0 = true → Dp K H v d
  | _, _, .non, _ => .non
  | _, _, .bl b, _ => .bl b
  | _, _, .int i, _ => .int i
  | _, _, .str x, _ => .str x
  | _, _, .tup q r, c => .tup q (Rps.dp r (by simpa [PyData.canLay0] using c))
  | _, _, .lst _ q r, c => .lst (.inl (.inl q)) (Rps.dp r (by simpa [PyData.canLay0] using c))
  | _, _, .dct _ _, c => by simp [PyData.canLay0] at c
theorem Rps.dp : ∀ {vs : List V} {ds : List D}, Rps K Z H vs ds → PyData.canLayAll0 ds = true → DpAll K H vs ds
  | _, _, .nil, _ => .nil
  | _, _, .cons (d := d) (ds := ds) h r, c => by
    have c' : d.canLay0 = true ∧ PyData.canLayAll0 ds = true := by simpa [PyData.canLayAll0] using c
    exact .cons (Rp.dp h c'.1) (Rps.dp r c'.2)
end
theorem CR.dp {x : V} {s : Slot} {d : D} (h : CR C Z H x s) (e : daO s = some d) (c : d.canLay0 = true) : Dp C.K H x d := by
  unfold daO at e
  split at e
  · cases e
    exact Rp.dp h c
  · cases e
    obtain ⟨a, rfl, vs, q, r⟩ := h
    exact .lst (.inl (.inl q)) (r.dp (by simpa [PyData.canLay0] using c))
  · cases e
    obtain ⟨a, rfl, q⟩ := h
    exact .lst q.sql (Rps.dp (Z := Z) (rps_ints _) (by simpa [PyData.canLay0] using c))
  · cases e
end

/-! ### operators -/
def gI (g : Int → Int → D) : G2 := fun s1 s2 R => match s1, s2 with
  | .val (.int i), .val (.int j) => R (.val (g i j))
  | _, _ => False
theorem gI_mono (g : Int → Int → D) : MonoG (gI g) := fun s1 s2 R R' k h => by
  revert h
  unfold gI
  split
  · exact k _
  · exact id
theorem sem_I {C : Cfg} {g : Int → Int → V} {g' : Int → Int → D} (hg : ∀ K Z H i j, Rp K Z H (g i j) (g' i j)) : Sem2 C (rI0 g) (gI g') := fun Z Fr As σ env H x y s1 s2 R Q I c1 c2 q k => by
  revert q
  unfold gI
  split
  · intro q
    cases c1
    cases c2
    exact ⟨_, _, rfl, rfl, k _ _ _ _ q Step.refl I (hg _ _ _ _ _)⟩
  · exact fun h => h.elim
/-- with a condition -/
def gIc (c : Int → Int → Prop) (g : Int → Int → D) : G2 := fun s1 s2 R => match s1, s2 with
  | .val (.int i), .val (.int j) => c i j ∧ R (.val (g i j))
  | _, _ => False
theorem gIc_mono (c : Int → Int → Prop) (g : Int → Int → D) : MonoG (gIc c g) := fun s1 s2 R R' k h => by
  revert h
  unfold gIc
  split
  · exact fun ⟨a, q⟩ => ⟨a, k _ q⟩
  · exact id
theorem sem_Ic {C : Cfg} {c : Int → Int → Prop} {g : Int → Int → V} {g' : Int → Int → D} (hg : ∀ K Z H i j, Rp K Z H (g i j) (g' i j)) : Sem2 C (rI c g) (gIc c g') := fun Z Fr As σ env H x y s1 s2 R Q I c1 c2 q k => by
  revert q
  unfold gIc
  split
  · intro ⟨a, q⟩
    cases c1
    cases c2
    exact ⟨_, _, rfl, rfl, a, k _ _ _ _ q Step.refl I (hg _ _ _ _ _)⟩
  · exact fun h => h.elim
def gAdd : G2 := fun s1 s2 R => match s1, s2 with
  | .val (.int i), .val (.int j) => R (.val (.int (i + j)))
  | .val (.tuple xs), .val (.tuple ys) => xs.length + ys.length ≤ sizeLine ∧ R (.val (.tuple (xs ++ ys)))
  | .val (.str x), .val (.str y) => x.length + y.length ≤ sizeLine ∧ R (.val (.str (x ++ y)))
  | s1, s2 => need (lsO s1) fun xs => need (lsO s2) fun ys => xs.length + ys.length ≤ sizeLine ∧ R (.own none (.lst (xs ++ ys)))
theorem gAdd_mono : MonoG gAdd := fun s1 s2 R R' k h => by
  revert h
  unfold gAdd
  split
  · exact k _
  · exact fun ⟨a, q⟩ => ⟨a, k _ q⟩
  · exact fun ⟨a, q⟩ => ⟨a, k _ q⟩
  · intro h
    obtain ⟨xs, e1, h⟩ := need_out h
    obtain ⟨ys, e2, a, q⟩ := need_out h
    exact need_in e1 (need_in e2 ⟨a, k _ q⟩)
def rAddU (K : Frag) : R2 := fun x y H Q => ((rI0 (fun i j => .int (i + j)) x y H Q ∨ rCatA K x y H Q) ∨ (∃ i j, x = .str i ∧ y = .str j ∧ i.length + j.length ≤ sizeLine ∧ Q (.str (i ++ j)) H)) ∨ rCat x y H Q
theorem op_addU {X : Cx} : OpR X (binaryOp .Add) (rAddU X.K) := ((op_add.or op_catA).or op_add_str).or op_cat
theorem sem_add {C : Cfg} : Sem2 C (rAddU C.K) gAdd := fun Z Fr As σ env H x y s1 s2 R Q I c1 c2 q k => by
  revert q
  unfold gAdd
  split
  · intro q
    cases c1
    cases c2
    exact .inl (.inl (.inl ⟨_, _, rfl, rfl, k _ _ _ _ q Step.refl I (Rp.int _)⟩))
  · intro ⟨hz, q⟩
    cases c1 with
    | tup h1 r1 =>
      cases c2 with
      | @tup b ws _ h2 r2 =>
        refine .inl (.inl (.inr ⟨_, _, _, _, rfl, rfl, h1, h2, by rw [r1.length, r2.length]; exact hz, fun e => ?_, fun _ e => ?_, fun _ _ p np => ?_⟩))
        · subst e
          cases r1
          exact k _ _ _ _ q Step.refl I (Rp.tup h2 r2)
        · subst e
          cases r2
          rw [List.append_nil] at q
          exact k _ _ _ _ q Step.refl I (Rp.tup h1 r1)
        · exact k _ _ _ _ q (Step.new I.ok np) (I.new np) (Rp.tup (.inl (.inl upd_same)) ((r1.app r2).step (Step.new I.ok np)))
  · intro ⟨hz, q⟩
    cases c1
    cases c2
    exact .inl (.inr ⟨_, _, rfl, rfl, hz, k _ _ _ _ q Step.refl I (Rp.str _)⟩)
  · intro h
    obtain ⟨xs, e1, h⟩ := need_out h
    obtain ⟨ys, e2, hz, q⟩ := need_out h
    obtain ⟨a, vs, rfl, h1, r1⟩ := c1.ls e1
    obtain ⟨b, ws, rfl, h2, r2⟩ := c2.ls e2
    exact .inr ⟨a, b, vs, ws, rfl, rfl, h1, h2, by rw [r1.length, r2.length]; exact hz, fun p np =>
      k _ _ _ _ q (Step.new I.ok np) (I.new np) (resNew I np fun st e => ⟨_, e, (r1.app r2).step st⟩)⟩
/-- * : ints, a list times an int, a tuple times an int -/
def gMul : G2 := fun s1 s2 R => match s1, s2 with
  | .val (.int i), .val (.int j) => (CMul i j ∨ CMulW i j) ∧ R (.val (.int (i * j)))
  | .val (.tuple xs), .val (.int k) => (xs ≠ [] ∧ 2 ≤ k ∧ k ≤ 1000 ∧ xs.length ≤ 1000) ∧ R (.val (.tuple (List.replicate k.toNat xs).flatten))
  | _, _ => False
theorem gMul_mono : MonoG gMul := fun s1 s2 R R' k h => by
  revert h
  unfold gMul
  split
  · exact fun ⟨a, q⟩ => ⟨a, k _ q⟩
  · exact fun ⟨a, q⟩ => ⟨a, k _ q⟩
  · exact id
def rMulU (K : Frag) : R2 := fun x y H Q => (rI CMul (fun i j => .int (i * j)) x y H Q ∨ rI CMulW (fun i j => .int (i * j)) x y H Q) ∨ rRepT K x y H Q
theorem op_mulU {X : Cx} : OpR X (binaryOp .Mult) (rMulU X.K) := (op_mul.or op_mulW).or op_repT
theorem Rps.rep {K : Frag} {Z : Addr → Prop} {H : Hp} {vs : List V} {ds : List D} (h : Rps K Z H vs ds) : ∀ n : Nat, Rps K Z H (List.replicate n vs).flatten (List.replicate n ds).flatten
  | 0 => .nil
  | n + 1 => by
    rw [List.replicate_succ, List.replicate_succ, List.flatten_cons, List.flatten_cons]
    exact h.app (h.rep n)
theorem sem_mul {C : Cfg} : Sem2 C (rMulU C.K) gMul := fun Z Fr As σ env H x y s1 s2 R Q I c1 c2 q k => by
  revert q
  unfold gMul
  split
  · intro ⟨a, q⟩
    cases c1
    cases c2
    exact .inl (a.imp (fun a => ⟨_, _, rfl, rfl, a, k _ _ _ _ q Step.refl I (Rp.int _)⟩) fun a => ⟨_, _, rfl, rfl, a, k _ _ _ _ q Step.refl I (Rp.int _)⟩)
  · intro ⟨⟨a1, a2, a3, a4⟩, q⟩
    cases c1 with
    | @tup a vs _ h1 r1 =>
      cases c2
      refine .inr ⟨_, _, _, rfl, rfl, h1, fun e => a1 (by subst e; cases r1; rfl), a2, a3, by rw [r1.length]; exact a4, fun p np => ?_⟩
      exact k _ _ _ _ q (Step.new I.ok np) (I.new np) (Rp.tup (.inl (.inl upd_same)) ((r1.rep _).step (Step.new I.ok np)))
  · exact fun h => h.elim
/-- comparison of data -/
def EqOk (d e : D) : Prop := (SeqAt.shaped d = true ∧ SeqAt.shaped e = true) ∨ ∃ x y, d = .str x ∧ e = .str y
def gEq (neg : Bool) : G2 := fun s1 s2 R => need (daO s1) fun d => need (daO s2) fun e => EqOk d e ∧ R (.val (.bool (if neg then !PyData.eqv d e else PyData.eqv d e)))
theorem gEq_mono (neg : Bool) : MonoG (gEq neg) := fun s1 s2 R R' k h => by
  obtain ⟨d, e1, h⟩ := need_out h
  obtain ⟨e, e2, a, q⟩ := need_out h
  exact need_in e1 (need_in e2 ⟨a, k _ q⟩)
def rEqU (K : Frag) : R2 := fun x y H Q => rEqD K x y H Q ∨ rEq x y H Q
def rNeU (K : Frag) : R2 := fun x y H Q => rNeD K x y H Q ∨ rNe x y H Q
theorem CR.strD {C : Cfg} {Z : Addr → Prop} {H : Hp} {x : V} {s : Slot} {y : Str} (h : CR C Z H x s) (e : daO s = some (.str y)) : x = .str y := by
  unfold daO at e
  split at e
  · cases e; cases h; rfl
  · cases e
  · cases e
  · cases e
theorem sem_eq {C : Cfg} : Sem2 C (rEqU C.K) (gEq false) := fun Z Fr As σ env H x y s1 s2 R Q I c1 c2 q k => by
  obtain ⟨d, e1, h⟩ := need_out q
  obtain ⟨e, e2, a, q⟩ := need_out h
  rcases a with ⟨a1, a2⟩ | ⟨z1, z2, rfl, rfl⟩
  · exact .inl ⟨d, e, c1.dp e1 (SeqAt.canLay_of_shaped a1), c2.dp e2 (SeqAt.canLay_of_shaped a2), a1, a2, k _ _ _ _ q Step.refl I (Rp.bl _)⟩
  · have h1 := c1.strD e1
    have h2 := c2.strD e2
    subst h1 h2
    refine .inr ⟨rfl, ?_⟩
    rw [dec_str]
    refine k _ _ _ _ q Step.refl I ?_
    simp only [PyData.eqv, Bool.false_eq_true, if_false]
    exact Rp.bl _
theorem sem_ne {C : Cfg} : Sem2 C (rNeU C.K) (gEq true) := fun Z Fr As σ env H x y s1 s2 R Q I c1 c2 q k => by
  obtain ⟨d, e1, h⟩ := need_out q
  obtain ⟨e, e2, a, q⟩ := need_out h
  rcases a with ⟨a1, a2⟩ | ⟨z1, z2, rfl, rfl⟩
  · exact .inl ⟨d, e, c1.dp e1 (SeqAt.canLay_of_shaped a1), c2.dp e2 (SeqAt.canLay_of_shaped a2), a1, a2, k _ _ _ _ q Step.refl I (Rp.bl _)⟩
  · have h1 := c1.strD e1
    have h2 := c2.strD e2
    subst h1 h2
    refine .inr ⟨rfl, ?_⟩
    rw [dec_str]
    refine k _ _ _ _ q Step.refl I ?_
    simp only [PyData.eqv, if_true]
    exact Rp.bl _
/-- x in a list of data -/
def gIn (neg : Bool) : G2 := fun s1 s2 R => need (daO s1) fun d => need (lsO s2) fun ds => (SeqAt.shaped d = true ∧ SeqAt.shaped (.list ds) = true) ∧ R (.val (.bool (if neg then !(ds.any fun z => PyData.eqv z d) else ds.any fun z => PyData.eqv z d)))
theorem gIn_mono (neg : Bool) : MonoG (gIn neg) := fun s1 s2 R R' k h => by
  obtain ⟨d, e1, h⟩ := need_out h
  obtain ⟨e, e2, a, q⟩ := need_out h
  exact need_in e1 (need_in e2 ⟨a, k _ q⟩)
theorem CR.dpl {C : Cfg} {Z : Addr → Prop} {H : Hp} {x : V} {s : Slot} {ds : List D} (h : CR C Z H x s) (e : lsO s = some ds) (c : (PyData.list ds).canLay0 = true) : Dp C.K H x (.list ds) := by
  obtain ⟨a, vs, rfl, q, r⟩ := h.ls e
  exact .lst (.inl (.inl q)) (r.dp (by simpa [PyData.canLay0] using c))
theorem sem_in {C : Cfg} : Sem2 C (rInD C.K) (gIn false) := fun Z Fr As σ env H x y s1 s2 R Q I c1 c2 q k => by
  obtain ⟨d, e1, h⟩ := need_out q
  obtain ⟨ds, e2, ⟨a1, a2⟩, q⟩ := need_out h
  exact ⟨d, ds, c1.dp e1 (SeqAt.canLay_of_shaped a1), c2.dpl e2 (SeqAt.canLay_of_shaped a2), a1, a2, k _ _ _ _ q Step.refl I (Rp.bl _)⟩
theorem sem_notIn {C : Cfg} : Sem2 C (rNotInD C.K) (gIn true) := fun Z Fr As σ env H x y s1 s2 R Q I c1 c2 q k => by
  obtain ⟨d, e1, h⟩ := need_out q
  obtain ⟨ds, e2, ⟨a1, a2⟩, q⟩ := need_out h
  exact ⟨d, ds, c1.dp e1 (SeqAt.canLay_of_shaped a1), c2.dpl e2 (SeqAt.canLay_of_shaped a2), a1, a2, k _ _ _ _ q Step.refl I (Rp.bl _)⟩
/-- is None -/
def isNone : Slot → Bool
  | .val .none => true
  | _ => false
def gIs (neg : Bool) : G2 := fun s1 s2 R => match s2 with
  | .val .none => R (.val (.bool (if neg then !isNone s1 else isNone s1)))
  | _ => False
theorem gIs_mono (neg : Bool) : MonoG (gIs neg) := fun s1 s2 R R' k h => by
  revert h
  unfold gIs
  split
  · exact k _
  · exact id
theorem CR.none {C : Cfg} {Z : Addr → Prop} {H : Hp} {x : V} {s : Slot} (h : CR C Z H x s) : decide (x = .non) = isNone s := by
  rcases s with d | ⟨t, m⟩ | ns
  · cases h <;> rfl
  · obtain ⟨a, rfl, _⟩ := h; rfl
  · obtain ⟨a, rfl, _⟩ := h; rfl
theorem sem_is {C : Cfg} : Sem2 C (fun x y H Q => y = .non ∧ Q (.bl (decide (x = .non))) H) (gIs false) := fun Z Fr As σ env H x y s1 s2 R Q I c1 c2 q k => by
  revert q
  unfold gIs
  split
  · intro q
    cases c2
    exact ⟨rfl, k _ _ _ _ q Step.refl I (by rw [c1.none]; exact Rp.bl _)⟩
  · exact fun h => h.elim
theorem sem_isNot {C : Cfg} : Sem2 C (fun x y H Q => y = .non ∧ Q (.bl (!decide (x = .non))) H) (gIs true) := fun Z Fr As σ env H x y s1 s2 R Q I c1 c2 q k => by
  revert q
  unfold gIs
  split
  · intro q
    cases c2
    exact ⟨rfl, k _ _ _ _ q Step.refl I (by rw [c1.none]; exact Rp.bl _)⟩
  · exact fun h => h.elim
/-- < : ints, tuples of ints -/
def intsD : List D → Option (List Int)
  | [] => some []
  | .int i :: r => (intsD r).map (i :: ·)
  | _ => none
def gLt : G2 := fun s1 s2 R => match s1, s2 with
  | .val (.int i), .val (.int j) => R (.val (.bool (decide (i < j))))
  | .val (.tuple xs), .val (.tuple ys) => need (intsD xs) fun ns => need (intsD ys) fun ms => R (.val (.bool (HT.lexLt ns ms)))
  | _, _ => False
theorem gLt_mono : MonoG gLt := fun s1 s2 R R' k h => by
  revert h
  unfold gLt
  split
  · exact k _
  · intro h
    obtain ⟨d, e1, h⟩ := need_out h
    obtain ⟨e, e2, q⟩ := need_out h
    exact need_in e1 (need_in e2 (k _ q))
  · exact id
theorem Rps.intsV {K : Frag} {Z : Addr → Prop} {H : Hp} : ∀ {ds : List D} {vs : List V} {ns : List Int}, Rps K Z H vs ds → intsD ds = some ns → vs = ns.map V.int
  | [], _, _, h, e => by cases h; cases e; rfl
  | d :: ds, _, ns, h, e => by
    cases h with
    | cons h1 h2 =>
      cases h1 with
      | int i =>
        simp only [intsD, Option.map_eq_some_iff] at e
        obtain ⟨m, e1, rfl⟩ := e
        rw [Rps.intsV h2 e1]
        rfl
      | _ => cases e
def rLtU (K : Frag) : R2 := fun x y H Q => rI0 (fun i j => .bl (decide (i < j))) x y H Q ∨ rLtT K x y H Q
theorem op_ltU {X : Cx} (hu : X.A.units < cLine) : OpR X (compareOp .Lt) (rLtU X.K) := op_lt.or (op_ltT hu)
theorem sem_lt {C : Cfg} : Sem2 C (rLtU C.K) gLt := fun Z Fr As σ env H x y s1 s2 R Q I c1 c2 q k => by
  revert q
  unfold gLt
  split
  · intro q
    cases c1
    cases c2
    exact .inl ⟨_, _, rfl, rfl, k _ _ _ _ q Step.refl I (Rp.bl _)⟩
  · intro h
    obtain ⟨ns, e1, h⟩ := need_out h
    obtain ⟨ms, e2, q⟩ := need_out h
    cases c1 with
    | tup h1 r1 =>
      cases c2 with
      | tup h2 r2 =>
        have g1 := r1.intsV e1
        have g2 := r2.intsV e2
        subst g1 g2
        exact .inr ⟨_, _, _, _, rfl, rfl, h1, h2, k _ _ _ _ q Step.refl I (Rp.bl _)⟩
  · exact fun h => h.elim
/-- an item -/
def gIx : G2 := fun s1 s2 R => match s2 with
  | .val (.int i) => need (sqO s1) fun xs => need (atI xs i) fun d => R (.val d)
  | _ => False
theorem gIx_mono : MonoG gIx := fun s1 s2 R R' k h => by
  revert h
  unfold gIx
  split
  · intro h
    obtain ⟨d, e1, h⟩ := need_out h
    obtain ⟨e, e2, q⟩ := need_out h
    exact need_in e1 (need_in e2 (k _ q))
  · exact id
theorem Rps.atI {K : Frag} {Z : Addr → Prop} {H : Hp} {vs : List V} {ds : List D} {i : Int} {d : D} (h : Rps K Z H vs ds) (e : L2.atI ds i = some d) : ∃ v, L2.atI vs i = some v ∧ Rp K Z H v d := by
  unfold L2.atI at e ⊢
  obtain ⟨j, e1, e2⟩ := Option.bind_eq_some_iff.mp e
  obtain ⟨v, h1, h2⟩ := h.get e2
  exact ⟨v, by rw [h.length, e1]; exact h1, h2⟩
theorem sem_ix {C : Cfg} : Sem2 C (rIx C.K) gIx := fun Z Fr As σ env H x y s1 s2 R Q I c1 c2 q k => by
  revert q
  unfold gIx
  split
  · intro h
    obtain ⟨ds, e1, h⟩ := need_out h
    obtain ⟨d, e2, q⟩ := need_out h
    obtain ⟨a, vs, rfl, hq, r⟩ := c1.sq e1
    obtain ⟨v, h1, h2⟩ := r.atI e2
    cases c2
    rcases hq with hq | hq
    · exact .inl ⟨a, vs, _, v, rfl, rfl, hq, h1, k _ _ _ _ q Step.refl I h2⟩
    · exact .inr (.inl ⟨a, vs, _, v, rfl, rfl, hq, h1, k _ _ _ _ q Step.refl I h2⟩)
  · exact fun h => h.elim
section
variable {tb : List Addr} {X : Cx}
theorem se_ix {a b : Expr} {pos : Pos} {wa wb : DO} (ha : SO tb X a wa) (hb : SO tb X b wb) (hs : PlainIx b := by exact fun _ _ => rfl) : SE tb X (.Subscript a b pos) (dOp2 gIx wa wb) :=
  ⟨dOp2_mono gIx_mono ha.mono hb.mono, (pe_ix ix_seq ha.pe hb.pe hs).imp (op2_lift ha.mono hb.mono sem_ix)⟩
theorem se_add {a b : Expr} {pos : Pos} {wa wb : DO} (ha : SO tb X a wa) (hb : SO tb X b wb) : SE tb X (.BinOp a .Add b pos) (dOp2 gAdd wa wb) := se_bin op_addU sem_add gAdd_mono ha hb
def gSub : G2 := gI fun i j => .int (i - j)
theorem se_sub {a b : Expr} {pos : Pos} {wa wb : DO} (ha : SO tb X a wa) (hb : SO tb X b wb) : SE tb X (.BinOp a .Sub b pos) (dOp2 gSub wa wb) := se_bin op_sub (sem_I fun _ _ _ _ _ => .int _) (gI_mono _) ha hb
theorem se_mul {a b : Expr} {pos : Pos} {wa wb : DO} (ha : SO tb X a wa) (hb : SO tb X b wb) : SE tb X (.BinOp a .Mult b pos) (dOp2 gMul wa wb) := se_bin op_mulU sem_mul gMul_mono ha hb
def gMod : G2 := gIc (fun _ j => 0 < j) fun i j => .int (i % j)
theorem se_mod {a b : Expr} {pos : Pos} {wa wb : DO} (ha : SO tb X a wa) (hb : SO tb X b wb) : SE tb X (.BinOp a .Mod b pos) (dOp2 gMod wa wb) := se_bin op_mod (sem_Ic fun _ _ _ _ _ => .int _) (gIc_mono _ _) ha hb
def gDiv : G2 := gIc CDivW fun i j => .int (i / j)
theorem se_fdiv {a b : Expr} {pos : Pos} {wa wb : DO} (ha : SO tb X a wa) (hb : SO tb X b wb) : SE tb X (.BinOp a .FloorDiv b pos) (dOp2 gDiv wa wb) := se_bin op_fdivW (sem_Ic fun _ _ _ _ _ => .int _) (gIc_mono _ _) ha hb
def gPow : G2 := gIc CPow fun i j => .int (i ^ j.toNat)
theorem se_pow {a b : Expr} {pos : Pos} {wa wb : DO} (ha : SO tb X a wa) (hb : SO tb X b wb) : SE tb X (.BinOp a .Pow b pos) (dOp2 gPow wa wb) := se_bin op_pow (sem_Ic fun _ _ _ _ _ => .int _) (gIc_mono _ _) ha hb
def gLe : G2 := gI fun i j => .bool (decide (i ≤ j))
def gGt : G2 := gI fun i j => .bool (decide (j < i))
def gGe : G2 := gI fun i j => .bool (decide (j ≤ i))
theorem sem_le {C : Cfg} : Sem2 C (rI0 fun i j => .bl (decide (i ≤ j))) gLe := sem_I fun _ _ _ _ _ => .bl _
theorem sem_gt {C : Cfg} : Sem2 C (rI0 fun i j => .bl (decide (j < i))) gGt := sem_I fun _ _ _ _ _ => .bl _
theorem sem_ge {C : Cfg} : Sem2 C (rI0 fun i j => .bl (decide (j ≤ i))) gGe := sem_I fun _ _ _ _ _ => .bl _

/-! ### a chain of two comparisons -/
def dChain (G G' : G2) (wa wb wc : DO) : DE := fun env Q => wa env fun o1 e1 => wb e1 fun o2 e2 => need (con e2 o1) fun s1 => need (con e2 o2) fun s2 => G s1 s2 fun r => need (isB r) fun b =>
  if b = true then wc e2 fun o3 e3 => need (con e3 o2) fun s2' => need (con e3 o3) fun s3 => G' s2' s3 fun r' => Q r' e3 else Q (.val (.bool false)) e2
theorem dChain_mono {G G' : G2} {wa wb wc : DO} (hG : MonoG G) (hG' : MonoG G') (ha : Mono wa) (hb : Mono wb) (hc : Mono wc) : Mono (dChain G G' wa wb wc) := fun env Q Q' k q =>
  ha env _ _ (fun _ e1 q => hb e1 _ _ (fun _ e2 q => by
    obtain ⟨s1, c1, q⟩ := need_out q
    obtain ⟨s2, c2, q⟩ := need_out q
    refine need_in c1 (need_in c2 (hG _ _ _ _ (fun r q => ?_) q))
    obtain ⟨b, eb, q⟩ := need_out q
    refine need_in eb ?_
    cases b with
    | true =>
      rw [if_pos rfl] at q ⊢
      refine hc e2 _ _ (fun o3 e3 q => ?_) q
      obtain ⟨s1, c1, q⟩ := need_out q
      obtain ⟨s2, c2, q⟩ := need_out q
      exact need_in c1 (need_in c2 (hG' _ _ _ _ (fun _ => k _ _) q))
    | false => exact k _ _ q) q) q
theorem chain_lift {C : Cfg} {r r' : R2} {G G' : G2} {wa wb wc : DO} (ma : Mono wa) (mb : Mono wb) (mc : Mono wc) (hs : Sem2 C r G) (hs' : Sem2 C r' G') : ∀ σ H Q, tE C (dChain G G' wa wb wc) σ H Q → tChain r r' (tO C wa) (tO C wb) (tO C wc) σ H Q := fun σ H Q ⟨Z, Fr, As, env, I, q⟩ => by
  refine ⟨Z, Fr, As, env, I, ma env _ _ (fun o1 e1 q v1 H1 Z1 st1 I1 r1 => ?_) q⟩
  refine ⟨Z1, _, As, e1, r1.prot I1, mb e1 _ _ (fun o2 e2 q v2 H2 Z2 st2 I2 r2 => ?_) q⟩
  obtain ⟨s1, c1, q⟩ := need_out q
  obtain ⟨s2, c2, q⟩ := need_out q
  have wk : ∀ a, Fr a → Fr a ∨ OwnO v1 o1 a := fun a => .inl
  have I2' := I2.weak wk
  have r1' := r1.after st2 I2
  have r2' := r2.weak wk
  have I2p := r2'.prot I2'
  refine hs Z2 _ As σ e2 H2 v1 v2 s1 s2 _ _ I2p (r1'.cr I2' c1) (r2'.cr I2' c2) q fun v H3 Z3 r3 q st3 I3 R3 => ?_
  obtain ⟨b, eb, p⟩ := need_out q
  clear q
  have eb := isB_eq eb
  subst eb
  cases R3
  refine ⟨b, rfl, ?_⟩
  have wk2 : ∀ a, Fr a → Fr a ∨ OwnO v2 o2 a := fun a => .inl
  cases b with
  | true =>
    have q := p
    rw [if_pos rfl] at q ⊢
    refine ⟨Z3, _, As, e2, I3, mc e2 _ _ (fun o3 e3 q v3 H4 Z4 st4 I4 r4 => ?_) q⟩
    obtain ⟨s2', c2', q⟩ := need_out q
    obtain ⟨s3, c3, q⟩ := need_out q
    have r2'' := r2'.after (st3.trans st4) I4
    have I4' := I4.weak wk2
    have r4' := r4.weak wk2
    exact hs' Z4 Fr As σ e3 H4 v2 v3 s2' s3 _ _ I4' (r2''.cr I4' c2') (r4'.cr I4' c3) q fun v H' Z' r' q st I' R => q v H' Z' ((st1.trans (st2.weak wk)).trans (((st3.trans st4).weak wk2).trans st)) I' R
  | false =>
    have q := p
    rw [if_neg Bool.false_ne_true] at q ⊢
    exact q _ _ _ ((st1.trans (st2.weak wk)).trans (st3.weak wk2)) (I3.weak wk2) (Rp.bl false)
theorem se_chain {a b c : Expr} {op op' : CmpOp} {pos : Pos} {r r' : R2} {G G' : G2} {wa wb wc : DO} (ho : OpR X (compareOp op) r) (ho' : OpR X (compareOp op') r') (hs : Sem2 ⟨X.K, tb⟩ r G) (hs' : Sem2 ⟨X.K, tb⟩ r' G') (hG : MonoG G) (hG' : MonoG G')
    (ha : SO tb X a wa) (hb : SO tb X b wb) (hc : SO tb X c wc) (hm : lastMarks [op, op'] [b, c] = false := by with_unfolding_all rfl) : SE tb X (.Compare a [op, op'] [b, c] pos) (dChain G G' wa wb wc) :=
  ⟨dChain_mono hG hG' ha.mono hb.mono hc.mono, (pe_chain ho ho' ha.pe hb.pe hc.pe hm).imp (chain_lift ha.mono hb.mono hc.mono hs hs')⟩
theorem st_chain {a b c : Expr} {op op' : CmpOp} {pos : Pos} {r r' : R2} {G G' : G2} {wa wb wc : DO} (ho : OpR X (compareOp op) r) (ho' : OpR X (compareOp op') r') (hs : Sem2 ⟨X.K, tb⟩ r G) (hs' : Sem2 ⟨X.K, tb⟩ r' G') (hG : MonoG G) (hG' : MonoG G')
    (ha : SO tb X a wa) (hb : SO tb X b wb) (hc : SO tb X c wc) (hm : lastMarks [op, op'] [b, c] = false := by with_unfolding_all rfl) : ST tb X (.Compare a [op, op'] [b, c] pos) (dTst (dChain G G' wa wb wc)) :=
  have M := dChain_mono hG hG' ha.mono hb.mono hc.mono
  ⟨dTst_mono M, (pt_chain ho ho' ha.pe hb.pe hc.pe hm).imp fun σ H Q q => chain_lift ha.mono hb.mono hc.mono hs hs' σ H _ (tst_lift M σ H Q q)⟩

/-! ### and, or, if as values and tests -/
def dAndV (wa wb : DE) : DE := fun env Q => wa env fun r e => need (isB r) fun b => if b = true then wb e Q else Q (.val (.bool false)) e
def dOrV (wa wb : DE) : DE := fun env Q => wa env fun r e => need (isB r) fun b => if b = true then Q (.val (.bool true)) e else wb e Q
theorem dAndV_mono {wa wb : DE} (ha : Mono wa) (hb : Mono wb) : Mono (dAndV wa wb) := fun env Q Q' k q => ha env _ _ (fun r e q => by
  obtain ⟨b, eb, q⟩ := need_out q
  refine need_in eb ?_
  cases b with
  | true => exact hb e _ _ k q
  | false => exact k _ _ q) q
theorem dOrV_mono {wa wb : DE} (ha : Mono wa) (hb : Mono wb) : Mono (dOrV wa wb) := fun env Q Q' k q => ha env _ _ (fun r e q => by
  obtain ⟨b, eb, q⟩ := need_out q
  refine need_in eb ?_
  cases b with
  | true => exact k _ _ q
  | false => exact hb e _ _ k q) q
theorem se_one {a : Expr} {op} {pos : Pos} {w : DE} (h : SE tb X a w) : SE tb X (.BoolOp op [a] pos) w := ⟨h.mono, pe_one h.pe⟩
theorem se_and {a b : Expr} {rest : List Expr} {pos : Pos} {wa wb : DE} (ha : SE tb X a wa) (hb : SE tb X (.BoolOp .And (b :: rest) pos) wb) : SE tb X (.BoolOp .And (a :: b :: rest) pos) (dAndV wa wb) :=
  ⟨dAndV_mono ha.mono hb.mono, (pe_and ha.pe hb.pe).imp fun σ H Q ⟨Z, Fr, As, env, I, q⟩ => ⟨Z, Fr, As, env, I, ha.mono env _ _ (fun r e q v H1 Z1 st I1 R => by
    obtain ⟨b, eb, p⟩ := need_out q
    clear q
    have eb := isB_eq eb
    subst eb
    cases R
    have q := p
    refine ⟨b, rfl, ?_⟩
    cases b with
    | true => exact ⟨Z1, Fr, As, e, I1, hb.mono e _ _ (fun r e q v H2 Z2 st2 I2 R => q v H2 Z2 (st.trans st2) I2 R) q⟩
    | false => exact q _ H1 Z1 st I1 (Rp.bl false)) q⟩⟩
theorem se_or {a b : Expr} {rest : List Expr} {pos : Pos} {wa wb : DE} (ha : SE tb X a wa) (hb : SE tb X (.BoolOp .Or (b :: rest) pos) wb) : SE tb X (.BoolOp .Or (a :: b :: rest) pos) (dOrV wa wb) :=
  ⟨dOrV_mono ha.mono hb.mono, (pe_or ha.pe hb.pe).imp fun σ H Q ⟨Z, Fr, As, env, I, q⟩ => ⟨Z, Fr, As, env, I, ha.mono env _ _ (fun r e q v H1 Z1 st I1 R => by
    obtain ⟨b, eb, p⟩ := need_out q
    clear q
    have eb := isB_eq eb
    subst eb
    cases R
    have q := p
    refine ⟨b, rfl, ?_⟩
    cases b with
    | true => exact q _ H1 Z1 st I1 (Rp.bl true)
    | false => exact ⟨Z1, Fr, As, e, I1, hb.mono e _ _ (fun r e q v H2 Z2 st2 I2 R => q v H2 Z2 (st.trans st2) I2 R) q⟩) q⟩⟩
def dNotV (w : DE) : DE := fun env Q => w env fun r e => need (isB r) fun b => Q (.val (.bool (!b))) e
theorem se_not {a : Expr} {pos : Pos} {w : DE} (h : SE tb X a w) : SE tb X (.UnaryOp .Not a pos) (dNotV w) :=
  ⟨fun env Q Q' k q => h.mono env _ _ (fun r e q => let ⟨_, eb, q⟩ := need_out q; need_in eb (k _ _ q)) q, (pe_not h.pe).imp fun σ H Q ⟨Z, Fr, As, env, I, q⟩ => ⟨Z, Fr, As, env, I, h.mono env _ _ (fun r e q v H1 Z1 st I1 R => by
    obtain ⟨b, eb, p⟩ := need_out q
    clear q
    have eb := isB_eq eb
    subst eb
    cases R
    have q := p
    exact ⟨b, rfl, q _ H1 Z1 st I1 (Rp.bl _)⟩) q⟩⟩
structure SW (tb : List Addr) (X : Cx) (e : Expr) (w : DT) : Prop where
  mono : Mono w
  pe : PW X e (tT ⟨X.K, tb⟩ w)
theorem _root_.L2.PW.imp {X : Cx} {e : Expr} {t t' : TT} (h : PW X e t) (i : ∀ σ H Q, t' σ H Q → t σ H Q) : PW X e t' := ⟨fun wh pins s σ H Q I q => h.run wh pins s σ H Q I (i σ H Q q)⟩
theorem SW.st {e : Expr} {w : DT} (h : SW tb X e w) : ST tb X e w := ⟨h.mono, h.pe.pt⟩
def dAnd (wa wb : DT) : DT := fun env Q => wa env fun b e => if b = true then wb e Q else Q false e
def dOr (wa wb : DT) : DT := fun env Q => wa env fun b e => if b = true then Q true e else wb e Q
theorem sw_and1 {a : Expr} {pos : Pos} {w : DT} (h : ST tb X a w) : SW tb X (.BoolOp .And [a] pos) w := ⟨h.mono, pw_and1 h.pe⟩
theorem sw_or1 {a : Expr} {pos : Pos} {w : DT} (h : ST tb X a w) : SW tb X (.BoolOp .Or [a] pos) w := ⟨h.mono, pw_or1 h.pe⟩
theorem sw_and {a b : Expr} {rest : List Expr} {pos : Pos} {wa wb : DT} (ha : ST tb X a wa) (hb : SW tb X (.BoolOp .And (b :: rest) pos) wb) : SW tb X (.BoolOp .And (a :: b :: rest) pos) (dAnd wa wb) :=
  ⟨fun env Q Q' k q => ha.mono env _ _ (fun b e q => by
    cases b with
    | true => exact hb.mono e _ _ k q
    | false => exact k _ _ q) q, (pw_and ha.pe hb.pe).imp fun σ H Q ⟨Z, Fr, As, env, I, q⟩ => ⟨Z, Fr, As, env, I, ha.mono env _ _ (fun b e q H1 Z1 st I1 => by
    cases b with
    | true => exact ⟨Z1, Fr, As, e, I1, hb.mono e _ _ (fun r e q H2 Z2 st2 I2 => q H2 Z2 (st.trans st2) I2) q⟩
    | false => exact q H1 Z1 st I1) q⟩⟩
theorem sw_or {a b : Expr} {rest : List Expr} {pos : Pos} {wa wb : DT} (ha : ST tb X a wa) (hb : SW tb X (.BoolOp .Or (b :: rest) pos) wb) : SW tb X (.BoolOp .Or (a :: b :: rest) pos) (dOr wa wb) :=
  ⟨fun env Q Q' k q => ha.mono env _ _ (fun b e q => by
    cases b with
    | true => exact k _ _ q
    | false => exact hb.mono e _ _ k q) q, (pw_or ha.pe hb.pe).imp fun σ H Q ⟨Z, Fr, As, env, I, q⟩ => ⟨Z, Fr, As, env, I, ha.mono env _ _ (fun b e q H1 Z1 st I1 => by
    cases b with
    | true => exact q H1 Z1 st I1
    | false => exact ⟨Z1, Fr, As, e, I1, hb.mono e _ _ (fun r e q H2 Z2 st2 I2 => q H2 Z2 (st.trans st2) I2) q⟩) q⟩⟩
def dIf (w : DT) (wa wb : DE) : DE := fun env Q => w env fun b e => if b = true then wa e Q else wb e Q
theorem se_if {c a b : Expr} {pos : Pos} {w : DT} {wa wb : DE} (hc : ST tb X c w) (ha : SE tb X a wa) (hb : SE tb X b wb) : SE tb X (.IfExp c a b pos) (dIf w wa wb) :=
  ⟨fun env Q Q' k q => hc.mono env _ _ (fun b e q => by
    cases b with
    | true => exact ha.mono e _ _ k q
    | false => exact hb.mono e _ _ k q) q, (pe_ifExp hc.pe ha.pe hb.pe).imp fun σ H Q ⟨Z, Fr, As, env, I, q⟩ => ⟨Z, Fr, As, env, I, hc.mono env _ _ (fun b e q H1 Z1 st I1 => by
    cases b with
    | true => exact ⟨Z1, Fr, As, e, I1, ha.mono e _ _ (fun r e q v H2 Z2 st2 I2 R => q v H2 Z2 (st.trans st2) I2 R) q⟩
    | false => exact ⟨Z1, Fr, As, e, I1, hb.mono e _ _ (fun r e q v H2 Z2 st2 I2 R => q v H2 Z2 (st.trans st2) I2 R) q⟩) q⟩⟩
end
end DV

set_option Elab.async false
set_option linter.all false
set_option maxRecDepth 100000
set_option maxHeartbeats 4000000
namespace DV
open PySem PySem.Spec PyProof.Rows L2

/-! ### statements -/
structure DEnds where
  nx : En → Prop
  rt : Slot → En → Prop
  bk : En → Prop := fun _ => False
  ct : En → Prop := fun _ => False
structure LeE (A B : DEnds) : Prop where
  nx : ∀ e, A.nx e → B.nx e
  rt : ∀ r e, A.rt r e → B.rt r e
  bk : ∀ e, A.bk e → B.bk e
  ct : ∀ e, A.ct e → B.ct e
abbrev DS := En → DEnds → Prop
def MonoS (w : DS) : Prop := ∀ env A B, LeE A B → w env A → w env B
/-- what is wanted behind a statement, from the state (Z, H) on -/
def upE (C : Cfg) (Z Fr : Addr → Prop) (As : Nat → Addr) (H : Hp) (D : Ends) : DEnds where
  nx := fun e => ∀ σ' H' Z', Step Z Fr H Z' H' → EnvR C Z' Fr As σ' H' e → D.nx σ' H'
  rt := fun r e => ∀ v σ' H' Z', Step Z Fr H Z' H' → EnvR C Z' Fr As σ' H' e → ResR C Z' Fr σ' e H' v r → D.rt v H'
  bk := fun e => ∀ σ' H' Z', Step Z Fr H Z' H' → EnvR C Z' Fr As σ' H' e → D.bk σ' H'
  ct := fun e => ∀ σ' H' Z', Step Z Fr H Z' H' → EnvR C Z' Fr As σ' H' e → D.ct σ' H'
theorem upE_le {C : Cfg} {Z Z1 Fr : Addr → Prop} {As : Nat → Addr} {H H1 : Hp} {D : Ends} (st : Step Z Fr H Z1 H1) : LeE (upE C Z Fr As H D) (upE C Z1 Fr As H1 D) :=
  ⟨fun e q σ' H' Z' s I => q σ' H' Z' (st.trans s) I, fun r e q v σ' H' Z' s I R => q v σ' H' Z' (st.trans s) I R, fun e q σ' H' Z' s I => q σ' H' Z' (st.trans s) I, fun e q σ' H' Z' s I => q σ' H' Z' (st.trans s) I⟩
def tS (C : Cfg) (w : DS) : TS := fun D σ H => ∃ Z Fr As env, EnvR C Z Fr As σ H env ∧ w env (upE C Z Fr As H D)
structure SS (tb : List Addr) (X : Cx) (st : Stmt) (w : DS) : Prop where
  mono : MonoS w
  ps : PS X st (tS ⟨X.K, tb⟩ w)
structure SSs (tb : List Addr) (X : Cx) (sts : List Stmt) (w : DS) : Prop where
  mono : MonoS w
  ps : PSs X sts (tS ⟨X.K, tb⟩ w)
theorem _root_.L2.PS.imp {X : Cx} {e : Stmt} {t t' : TS} (h : PS X e t) (i : ∀ D σ H, t' D σ H → t D σ H) : PS X e t' := ⟨fun pins s σ H D I q => h.run pins s σ H D I (i D σ H q)⟩
theorem _root_.L2.PSs.imp {X : Cx} {e : List Stmt} {t t' : TS} (h : PSs X e t) (i : ∀ D σ H, t' D σ H → t D σ H) : PSs X e t' := ⟨fun pins s σ H D I q => h.run pins s σ H D I (i D σ H q)⟩
theorem LeE.refl {A : DEnds} : LeE A A := ⟨fun _ q => q, fun _ _ q => q, fun _ q => q, fun _ q => q⟩

section
variable {tb : List Addr} {X : Cx}
def dNext : DS := fun env D => D.nx env
theorem sss_nil : SSs tb X [] dNext := ⟨fun _ _ _ l q => l.nx _ q, pss_nil.imp fun D σ H ⟨Z, Fr, As, env, I, q⟩ => q σ H Z Step.refl I⟩
def dSeq (w u : DS) : DS := fun env D => w env { D with nx := fun e => u e D }
theorem sss_cons {st : Stmt} {rest : List Stmt} {w u : DS} (h : SS tb X st w) (hs : SSs tb X rest u) : SSs tb X (st :: rest) (dSeq w u) :=
  ⟨fun env A B l q => h.mono env { A with nx := fun e => u e A } { B with nx := fun e => u e B } ⟨fun e q => hs.mono e _ _ l q, l.rt, l.bk, l.ct⟩ q, (pss_cons h.ps hs.ps).imp fun D σ H ⟨Z, Fr, As, env, I, q⟩ =>
    ⟨Z, Fr, As, env, I, h.mono env { upE ⟨X.K, tb⟩ Z Fr As H D with nx := fun e => u e (upE ⟨X.K, tb⟩ Z Fr As H D) } _ ⟨fun e q σ' H' Z' st I' => ⟨Z', Fr, As, e, I', hs.mono e _ _ (upE_le st) q⟩, fun _ _ q => q, fun _ q => q, fun _ q => q⟩ q⟩⟩
theorem sss_one {st : Stmt} {w : DS} (h : SS tb X st w) : SSs tb X [st] w := ⟨h.mono, pss_one h.ps⟩
def dNever : DS := fun _ _ => False
theorem ss_never {st : Stmt} : SS tb X st dNever := ⟨fun _ _ _ _ q => q, ps_never.imp fun _ _ _ ⟨_, _, _, _, _, q⟩ => q⟩
theorem sss_never {sts : List Stmt} : SSs tb X sts dNever := ⟨fun _ _ _ _ q => q, pss_never.imp fun _ _ _ ⟨_, _, _, _, _, q⟩ => q⟩
def dNevE : DE := fun _ _ => False
/-- an expression that is never reached -/
theorem se_never {e : Expr} : SE tb X e dNevE := ⟨fun _ _ _ _ q => q, ⟨fun _ _ _ _ _ _ ⟨_, _, _, _, _, q⟩ => q.elim⟩⟩
theorem ss_pass {pos : Pos} : SS tb X (.Pass pos) dNext := ⟨fun _ _ _ l q => l.nx _ q, ps_pass.imp fun D σ H ⟨Z, Fr, As, env, I, q⟩ => q σ H Z Step.refl I⟩
def dBreak : DS := fun env D => D.bk env
theorem ss_break {pos : Pos} : SS tb X (.Break pos) dBreak := ⟨fun _ _ _ l q => l.bk _ q, ps_break.imp fun D σ H ⟨Z, Fr, As, env, I, q⟩ => q σ H Z Step.refl I⟩
def dCont : DS := fun env D => D.ct env
theorem ss_cont {pos : Pos} : SS tb X (.Continue pos) dCont := ⟨fun _ _ _ l q => l.ct _ q, ps_continue.imp fun D σ H ⟨Z, Fr, As, env, I, q⟩ => q σ H Z Step.refl I⟩
theorem ss_doc {x j pos pos'} : SS tb X (.Expr (.Constant (.str x) j pos) pos') dNext := ⟨fun _ _ _ l q => l.nx _ q, ps_doc.imp fun D σ H ⟨Z, Fr, As, env, I, q⟩ => q σ H Z Step.refl I⟩
def dExp (w : DE) : DS := fun env D => w env fun _ e => D.nx e
theorem ss_expr {e : Expr} {pos : Pos} {w : DE} (h : SE tb X e w) (hs : swapsWith e none pos.line X.env = pure false := by rfl) : SS tb X (.Expr e pos) (dExp w) :=
  ⟨fun env A B l q => h.mono env _ _ (fun _ _ => l.nx _) q, (ps_expr h.pe hs).imp fun D σ H ⟨Z, Fr, As, env, I, q⟩ => ⟨Z, Fr, As, env, I, h.mono env _ _ (fun r e q v H' Z' st I' R => q σ H' Z' st I') q⟩⟩
def dRet (w : DE) : DS := fun env D => w env fun r e => D.rt r e
theorem ss_ret {e : Expr} {pos : Pos} {w : DE} (h : SE tb X e w) : SS tb X (.Return (some e) pos) (dRet w) :=
  ⟨fun env A B l q => h.mono env _ _ (fun _ _ => l.rt _ _) q, (ps_ret h.pe).imp fun D σ H ⟨Z, Fr, As, env, I, q⟩ => ⟨Z, Fr, As, env, I, h.mono env _ _ (fun r e q v H' Z' st I' R => q v σ H' Z' st I' R) q⟩⟩
def dRetN : DS := fun env D => D.rt (.val .none) env
theorem ss_retN {pos : Pos} : SS tb X (.Return none pos) dRetN := ⟨fun _ _ _ l q => l.rt _ _ q, ps_retN.imp fun D σ H ⟨Z, Fr, As, env, I, q⟩ => q _ σ H Z Step.refl I Rp.non⟩
def dIfS (w : DT) (a b : DS) : DS := fun env D => w env fun c e => if c = true then a e D else b e D
theorem ss_if {c : Expr} {a b : List Stmt} {pos : Pos} {w : DT} {wa wb : DS} (hc : ST tb X c w) (ha : SSs tb X a wa) (hb : SSs tb X b wb) : SS tb X (.If c a b pos) (dIfS w wa wb) :=
  ⟨fun env A B l q => hc.mono env _ _ (fun c e q => by
    cases c with
    | true => exact ha.mono e _ _ l q
    | false => exact hb.mono e _ _ l q) q, (ps_if hc.pe ha.ps hb.ps).imp fun D σ H ⟨Z, Fr, As, env, I, q⟩ => ⟨Z, Fr, As, env, I, hc.mono env _ _ (fun c e q H' Z' st I' => by
    cases c with
    | true => exact ⟨Z', Fr, As, e, I', ha.mono e _ _ (upE_le st) q⟩
    | false => exact ⟨Z', Fr, As, e, I', hb.mono e _ _ (upE_le st) q⟩) q⟩⟩

/-! ### targets -/
abbrev DG := Slot → En → (En → Prop) → Prop
def MonoT (g : DG) : Prop := ∀ r env Q Q', (∀ e, Q e → Q' e) → g r env Q → g r env Q'
def tG (C : Cfg) (g : DG) : TG := fun v σ H Q => ∃ Z Fr As env r, EnvR C Z Fr As σ H env ∧ ResR C Z Fr σ env H v r ∧ g r env fun e => ∀ σ' H' Z', Step Z Fr H Z' H' → EnvR C Z' Fr As σ' H' e → Q σ' H'
structure SG (tb : List Addr) (X : Cx) (e : Expr) (g : DG) : Prop where
  mono : MonoT g
  pg : PG X e (tG ⟨X.K, tb⟩ g)
theorem _root_.L2.PG.imp {X : Cx} {e : Expr} {t t' : TG} (h : PG X e t) (i : ∀ v σ H Q, t' v σ H Q → t v σ H Q) : PG X e t' := ⟨fun pins s σ H v u Q I r q => h.run pins s σ H v u Q I r (i v σ H Q q)⟩
def gNm (i : Nat) : DG := fun r env Q => Q (env.set i (some r))
theorem sg_name (i : Nat) {x : Str} {pos : Pos} (hN : X.N.Nodup) (hi : X.N[i]? = some x := by rfl) (hx : Loc X.env.scope x := by first | exact Or.inl rfl | exact Or.inr rfl) (hf : X.fn x = true ∨ X.env.scope.names.lookup x = some .local := by first | exact .inl rfl | exact .inr rfl) : SG tb X (.Name x pos) (gNm i) :=
  ⟨fun _ _ _ _ k q => k _ q, (pg_name hN hi hx hf).imp fun v σ H Q ⟨Z, Fr, As, env, r, I, R, q⟩ => q _ H Z Step.refl (I.setRes R)⟩
abbrev DGs := List D → En → (En → Prop) → Prop
def MonoTs (g : DGs) : Prop := ∀ r env Q Q', (∀ e, Q e → Q' e) → g r env Q → g r env Q'
def tGs (C : Cfg) (g : DGs) : TGs := fun vs σ H Q => ∃ Z Fr As env ds, EnvR C Z Fr As σ H env ∧ Rps C.K Z H vs ds ∧ g ds env fun e => ∀ σ' H' Z', Step Z Fr H Z' H' → EnvR C Z' Fr As σ' H' e → Q σ' H'
structure SGs (tb : List Addr) (X : Cx) (es : List Expr) (g : DGs) : Prop where
  mono : MonoTs g
  pg : PGs X es (tGs ⟨X.K, tb⟩ g)
theorem _root_.L2.PGs.imp {X : Cx} {e : List Expr} {t t' : TGs} (h : PGs X e t) (i : ∀ v σ H Q, t' v σ H Q → t v σ H Q) : PGs X e t' := ⟨fun pins s σ H v u Q I r q => h.run pins s σ H v u Q I r (i v σ H Q q)⟩
def gNil' : DGs := fun ds env Q => match ds with
  | [] => Q env
  | _ => False
def gCons' (g : DG) (gs : DGs) : DGs := fun ds env Q => match ds with
  | d :: ds => g (.val d) env fun e => gs ds e Q
  | [] => False
theorem sgs_nil : SGs tb X [] gNil' := ⟨fun ds _ _ _ k q => by
    cases ds with
    | nil => exact k _ q
    | cons _ _ => exact q, pgs_nil.imp fun vs σ H Q ⟨Z, Fr, As, env, ds, I, R, q⟩ => by
    cases R with
    | nil => exact ⟨rfl, q σ H Z Step.refl I⟩
    | cons _ _ => exact q.elim⟩
theorem sgs_cons {e : Expr} {es : List Expr} {g : DG} {gs : DGs} (h : SG tb X e g) (hs : SGs tb X es gs) (ha : (assignEach (e :: es) X.env).map (·.2) = assign e X.env :: (assignEach es X.env).map (·.2) := by rfl) : SGs tb X (e :: es) (gCons' g gs) :=
  ⟨fun ds env Q Q' k q => by
    cases ds with
    | nil => exact q
    | cons d ds => exact h.mono _ env _ _ (fun e q => hs.mono _ e _ _ k q) q, (pgs_cons h.pg hs.pg ha).imp fun vs σ H Q ⟨Z, Fr, As, env, ds, I, R, q⟩ => by
    cases R with
    | nil => exact q.elim
    | cons r rs =>
      exact ⟨_, _, rfl, Z, Fr, As, env, .val _, I, r, h.mono _ env _ _ (fun e q σ' H' Z' st I' => ⟨Z', Fr, As, e, _, I', rs.step st, hs.mono _ e _ _ (fun e q σ2 H2 Z2 st2 I2 => q σ2 H2 Z2 (st.trans st2) I2) q⟩) q⟩⟩
def tuO : Slot → Option (List D)
  | .val (.tuple ds) => some ds
  | _ => none
def gTp (n : Nat) (gs : DGs) : DG := fun r env Q => need (tuO r) fun ds => ds.length = n ∧ gs ds env Q
theorem sg_tup {es : List Expr} {k : Nat} {pos : Pos} {gs : DGs} {n : Nat} (hc : X.calm = true) (h : SGs tb X es gs) (hn : (assignEach es X.env).length = n := by rfl) (hst : (assignEach es X.env).findIdx? (·.1) = none := by rfl) : SG tb X (.Tuple es k pos) (gTp n gs) :=
  ⟨fun r env Q Q' k q => let ⟨_, e, l, q⟩ := need_out q; need_in e ⟨l, h.mono _ env _ _ k q⟩, (pg_tup hc h.pg hn hst).imp fun v σ H Q ⟨Z, Fr, As, env, r, I, R, q⟩ => by
    obtain ⟨ds, e, l, p⟩ := need_out q
    clear q
    unfold tuO at e
    split at e
    · cases e
      cases R with
      | tup hq rs => exact ⟨_, _, rfl, hq, by rw [rs.length]; exact l, Z, Fr, As, env, _, I, rs, p⟩
    · cases e⟩

/-! ### assignments -/
def dAsg (w : DE) (g : DG) : DS := fun env D => w env fun r e => g r e D.nx
theorem dAsg_mono {w : DE} {g : DG} (mw : Mono w) (mg : MonoT g) : MonoS (dAsg w g) := fun env A B l q => mw env _ _ (fun r e q => mg r e _ _ l.nx q) q
theorem asg_lift {C : Cfg} {w : DE} {g : DG} (mw : Mono w) (mg : MonoT g) : ∀ D σ H, tS C (dAsg w g) D σ H → tAsg (tE C w) (tG C g) D σ H := fun D σ H ⟨Z, Fr, As, env, I, q⟩ =>
  ⟨Z, Fr, As, env, I, mw env _ _ (fun r e q v H' Z' st I' R => ⟨Z', Fr, As, e, r, I', R, mg r e _ _ (fun e q σ2 H2 Z2 st2 I2 => q σ2 H2 Z2 (st.trans st2) I2) q⟩) q⟩
theorem ss_asg {tg e : Expr} {pos : Pos} {w : DE} {g : DG} (he : SE tb X e w) (hg : SG tb X tg g) (hs : swapsWithSole [tg] e pos.line X.env = pure false := by rfl) (hw : swappedStores [tg] e X.env = pure none := by rfl)
    (h1 : (assignEach [tg] X.env).map (·.2) = [assign tg X.env] := by rfl) : SS tb X (.Assign [tg] e pos) (dAsg w g) :=
  ⟨dAsg_mono he.mono hg.mono, (ps_asg he.pe hg.pg hs hw h1).imp (asg_lift he.mono hg.mono)⟩
theorem ss_set (i : Nat) {x : Str} {e : Expr} {pos pos' : Pos} {w : DE} (hN : X.N.Nodup) (he : SE tb X e w) (hi : X.N[i]? = some x := by rfl) (hx : Loc X.env.scope x := by first | exact Or.inl rfl | exact Or.inr rfl) (hs : swapsWith e (some (.Name x pos')) pos.line X.env = pure false := by rfl)
    (hf : X.fn x = true ∨ X.env.scope.names.lookup x = some .local := by first | exact .inl rfl | exact .inr rfl) : SS tb X (.Assign [.Name x pos'] e pos) (dAsg w (gNm i)) :=
  ⟨dAsg_mono he.mono fun _ _ _ _ k q => k _ q, (ps_set hN hi hx he.pe hs hf).imp fun D σ H q => by
    obtain ⟨Z, Fr, As, env, I, q⟩ := q
    exact ⟨Z, Fr, As, env, I, he.mono env _ _ (fun r e q v H' Z' st I' R => q _ _ _ st (I'.setRes R)) q⟩⟩
/-! operands -/
def dONil : DOs := fun env Q => Q [] env
def dOCons (w : DO) (ws : DOs) : DOs := fun env Q => w env fun o e1 => ws e1 fun os e2 => Q (o :: os) e2
theorem sos_nil : SOs tb X [] dONil := ⟨fun _ _ _ h q => h _ _ q, pa_nil.imp fun σ H Q ⟨Z, Fr, As, env, I, h⟩ => h _ _ _ Step.refl I True.intro⟩
theorem sos_cons {e : Expr} {es : List Expr} {w : DO} {ws : DOs} (h : SO tb X e w) (hs : SOs tb X es ws) (hst : starEach (e :: es) X.env = (false, eval e X.env) :: starEach es X.env := by rfl) : SOs tb X (e :: es) (dOCons w ws) :=
  ⟨fun env Q Q' k q => h.mono env _ _ (fun _ e1 q => hs.mono e1 _ _ (fun _ _ => k _ _) q) q, (pa_cons h.pe hs.pe hst).imp fun σ H Q ⟨Z, Fr, As, env, I, q⟩ => by
    refine ⟨Z, Fr, As, env, I, h.mono env _ _ (fun o e1 q v H1 Z1 st1 I1 r1 => ?_) q⟩
    refine ⟨Z1, _, As, e1, r1.prot I1, hs.mono e1 _ _ (fun os e2 q vs H2 Z2 st2 I2 r2 => ?_) q⟩
    have wk : ∀ a, Fr a → Fr a ∨ OwnO v o a := fun a => .inl
    exact q _ _ _ (st1.trans (st2.weak wk)) (I2.weak wk) ⟨r1.after st2 I2, r2⟩⟩
/-- a, b = e1, e2 -/
def dPar (i j : Nat) (ws : DOs) : DS := fun env D => ws env fun os e => match os with
  | [.res r1, .res r2] => D.nx ((e.set i (some r1)).set j (some r2))
  | _ => False
theorem dPar_mono {i j : Nat} {ws : DOs} (m : Mono ws) : MonoS (dPar i j ws) := fun env A B l q => m env _ _ (fun os e q => by
  revert q
  split
  · exact l.nx _
  · exact id) q
theorem ResR.setOther {C : Cfg} {Z Fr : Addr → Prop} {σ : L2.St} {H : Hp} {env : En} {i : Nat} {v1 v2 : V} {r1 r2 : Slot} (h : ResR C Z (fun a => Fr a ∨ Own1 v1 r1 a) σ env H v2 r2) : ResR C Z Fr (σ.set i (some v1)) (env.set i (some r1)) H v2 r2 := by
  cases r2 with
  | val d => exact h
  | scr ns => exact h
  | own t m =>
    obtain ⟨e, a, rfl, q, z, f, no⟩ := h
    refine ⟨e, a, rfl, q, z, fun y => f (.inl y), fun k hk => ?_⟩
    rcases hk.of_set with ⟨_, e1, t1, m1, e2⟩ | ⟨_, hk⟩
    · cases e1
      cases e2
      exact f (.inr ⟨rfl, t1, m1, rfl⟩)
    · exact no k hk
theorem par_env {C : Cfg} {Z Fr : Addr → Prop} {As : Nat → Addr} {σ : L2.St} {H : Hp} {env : En} {i j : Nat} {v1 v2 : V} {r1 r2 : Slot} (I : EnvR C Z Fr As σ H env) (h : OpdRs C Z σ env H Fr [v1, v2] [.res r1, .res r2]) :
    EnvR C Z Fr As ((σ.set i (some v1)).set j (some v2)) H ((env.set i (some r1)).set j (some r2)) := (I.setRes h.1).setRes (ResR.setOther h.2.1)
theorem ss_par (i j : Nat) {x y : Str} {a b : Expr} {px py pt pos : Pos} {kt k2 pt2} {ws : DOs} (hc : X.calm = true) (hN : X.N.Nodup) (ha : SOs tb X [a, b] ws) (hi : X.N[i]? = some x := by rfl) (hj : X.N[j]? = some y := by rfl) (hij : i ≠ j := by decide)
    (hx : X.env.scope.names.lookup x = some .local := by rfl) (hy : X.env.scope.names.lookup y = some .local := by rfl)
    (hw : swappedStores [.Tuple [.Name x px, .Name y py] kt pt] (.Tuple [a, b] k2 pt2) X.env = pure (some [x, y]) := by rfl)
    (hs : swapsWithSole [.Tuple [.Name x px, .Name y py] kt pt] (.Tuple [a, b] k2 pt2) pos.line X.env = pure false := by rfl) :
    SS tb X (.Assign [.Tuple [.Name x px, .Name y py] kt pt] (.Tuple [a, b] k2 pt2) pos) (dPar i j ws) :=
  ⟨dPar_mono ha.mono, (ps_par hc hN hi hj hij hx hy ha.pe hw hs).imp fun D σ H ⟨Z, Fr, As, env, I, q⟩ => ⟨Z, Fr, As, env, I, ha.mono env _ _ (fun os e q vs H' Z' st I' R => by
    revert q
    split
    · intro q
      match vs, R with
      | [v1, v2], R => exact ⟨v1, v2, rfl, q _ _ _ st (par_env I' R)⟩
    · exact fun q => q.elim) q⟩⟩
/-- the same by a pair -/
theorem ss_parT (i j : Nat) {x y : Str} {a b : Expr} {px py pt pos : Pos} {kt k2 pt2} {ws : DOs} (hc : X.calm = true) (hN : X.N.Nodup) (ha : SOs tb X [a, b] ws) (hi : X.N[i]? = some x := by rfl) (hj : X.N[j]? = some y := by rfl)
    (hx : Loc X.env.scope x := by first | exact Or.inl rfl | exact Or.inr rfl) (hy : Loc X.env.scope y := by first | exact Or.inl rfl | exact Or.inr rfl)
    (hfx : X.fn x = true ∨ X.env.scope.names.lookup x = some .local := by first | exact .inl rfl | exact .inr rfl) (hfy : X.fn y = true ∨ X.env.scope.names.lookup y = some .local := by first | exact .inl rfl | exact .inr rfl)
    (hw : swappedStores [.Tuple [.Name x px, .Name y py] kt pt] (.Tuple [a, b] k2 pt2) X.env = pure none := by rfl)
    (hs : swapsWithSole [.Tuple [.Name x px, .Name y py] kt pt] (.Tuple [a, b] k2 pt2) pos.line X.env = pure false := by rfl)
    (h1 : (assignEach [Expr.Tuple [.Name x px, .Name y py] kt pt] X.env).map (·.2) = [assign (Expr.Tuple [.Name x px, .Name y py] kt pt) X.env] := by rfl)
    (hn : (assignEach [Expr.Name x px, .Name y py] X.env).length = 2 := by rfl) (hst : (assignEach [Expr.Name x px, .Name y py] X.env).findIdx? (·.1) = none := by rfl)
    (g1 : (assignEach [Expr.Name x px, .Name y py] X.env).map (·.2) = assign (.Name x px) X.env :: (assignEach [Expr.Name y py] X.env).map (·.2) := by rfl)
    (g2 : (assignEach [Expr.Name y py] X.env).map (·.2) = assign (.Name y py) X.env :: (assignEach [] X.env).map (·.2) := by rfl) :
    SS tb X (.Assign [.Tuple [.Name x px, .Name y py] kt pt] (.Tuple [a, b] k2 pt2) pos) (dPar i j ws) :=
  ⟨dPar_mono ha.mono, (ps_asg (pe_tup ha.pe) (pg_tup hc (pgs_cons (pg_name hN hi hx hfx) (pgs_cons (pg_name hN hj hy hfy) pgs_nil g2) g1) hn hst) hs hw h1).imp fun D σ H ⟨Z, Fr, As, env, I, q⟩ => ⟨Z, Fr, As, env, I, ha.mono env _ _ (fun os e q vs H' Z' st I' R => by
    revert q
    split
    · intro q
      match vs, R with
      | [v1, v2], R =>
        refine ⟨by show 2 ≤ sizeLine; decide, fun p np => ⟨p, _, rfl, .inl (.inl upd_same), rfl, v1, [v2], rfl, v2, [], rfl, rfl, q _ _ _ (st.trans (Step.new I'.ok np)) ?_⟩⟩
        exact (par_env I' R).new np
    · exact fun q => q.elim) q⟩⟩
/-! x[i] = e -/
def dSetIx (i : Nat) (wi : DO) (we : DV) : DS := fun env D => we env fun d e1 => need (sl e1 i) fun _ => wi e1 fun o e2 => need (con e2 o) fun s => need (sl e2 i) fun x => match x, s with
  | .own t (.lst ds), .val (.int k) => need (ixN ds.length k) fun j => D.nx (e2.set i (some (.own t (.lst (ds.set j d)))))
  | _, _ => False
theorem dSetIx_mono {i : Nat} {wi : DO} {we : DV} (mi : Mono wi) (me : Mono we) : MonoS (dSetIx i wi we) := fun env A B l q => me env _ _ (fun d e1 q => by
  obtain ⟨s0, c0, q⟩ := need_out q
  refine need_in c0 (mi e1 _ _ (fun o e2 q => ?_) q)
  obtain ⟨s, c, q⟩ := need_out q
  obtain ⟨x, cx, q⟩ := need_out q
  refine need_in c (need_in cx ?_)
  revert q
  split
  · intro q
    obtain ⟨j, cj, q⟩ := need_out q
    exact need_in cj (l.nx _ q)
  · exact id) q
theorem ss_setIx (i : Nat) {x : Str} {px : Pos} {b e : Expr} {pos pos' : Pos} {wi : DO} {we : DV} (he : SV tb X e we) (hb : SO tb X b wi) (hi : X.N[i]? = some x := by rfl) (hv : Vis X.env.scope x := by first | exact Or.inl rfl | exact Or.inr (Or.inl rfl) | exact Or.inr (Or.inr rfl))
    (ha : ∀ v, assign (.Subscript (.Name x px) b pos') X.env v = (do
      let ov ← holding [v] (eval (.Name x px) X.env)
      let iv ← holding [v, ov] (eval b X.env)
      standAt pos'
      holding [v, ov, iv] (setItem ov iv v)
      release [v, ov, iv] []) := by intro _; rfl)
    (hd : (x == ("__debug__" : Str)) = false := by decide) (hcd : (x == ("__classdict__" : Str)) = false := by decide)
    (hs : swapsWithSole [.Subscript (.Name x px) b pos'] e pos.line X.env = pure false := by rfl) (hw : swappedStores [.Subscript (.Name x px) b pos'] e X.env = pure none := by rfl)
    (h1 : (assignEach [Expr.Subscript (.Name x px) b pos'] X.env).map (·.2) = [assign (.Subscript (.Name x px) b pos') X.env] := by rfl) :
    SS tb X (.Assign [.Subscript (.Name x px) b pos'] e pos) (dSetIx i wi we) :=
  ⟨dSetIx_mono hb.mono he.mono, (ps_asg he.pe (pg_sub (pe_var hi hv hd hcd) hb.pe set_list ha) hs hw h1).imp fun D σ H ⟨Z, Fr, As, env, I, q⟩ => ⟨Z, Fr, As, env, I, he.mono env _ _ (fun d e1 q v H1 Z1 st1 I1 r1 => by
    obtain ⟨s0, c0, q⟩ := need_out q
    obtain ⟨w0, h0, hw0⟩ := I1.at (sl_at c0)
    have hex : ∃ u, w0 = some u := by
      cases s0 with
      | val d => obtain ⟨u, e, _⟩ := hw0; exact ⟨u, e⟩
      | own t m => obtain ⟨a, e, _⟩ := hw0; exact ⟨_, e⟩
      | scr ns => obtain ⟨a, e, _⟩ := hw0; exact ⟨_, e⟩
    obtain ⟨u0, rfl⟩ := hex
    refine ⟨u0, h0, Z1, Fr, As, e1, I1, hb.mono e1 _ _ (fun o e2 q v2 H2 Z2 st2 I2 r2 => ?_) q⟩
    obtain ⟨s, c, q⟩ := need_out q
    obtain ⟨x', cx, q⟩ := need_out q
    revert q
    split
    · intro q
      obtain ⟨j, cj, q⟩ := need_out q
      obtain ⟨a, g1, ⟨vs, g2, g3⟩, _⟩ := I2.atOwn (sl_at cx)
      rw [h0] at g1
      cases g1
      have cr := r2.cr I2 c
      cases cr
      have r1' := r1.step st2
      obtain ⟨I3, st3⟩ := I2.mutate (m' := .lst _) (sl_at cx) h0 (o := .lst (vs.set j v)) fun st e => ⟨_, e, Rps.setAt (r1'.step st) j (g3.step st)⟩
      exact ⟨a, vs, _, j, rfl, rfl, g2, by rw [g3.length]; exact cj, q _ _ _ ((st1.trans st2).trans st3) I3⟩
    · exact fun q => q.elim) q⟩⟩
/-! x += e -/
def dAugI (i : Nat) (wb : DO) (G : G2) : DS := fun env D => need (sl env i) fun s1 => wb env fun o e => need (con e o) fun s2 => match s1 with
  | .val d => G (.val d) s2 fun r => D.nx (e.set i (some r))
  | _ => False
theorem dAugI_mono {i : Nat} {wb : DO} {G : G2} (mb : Mono wb) (mG : MonoG G) : MonoS (dAugI i wb G) := fun env A B l q => by
  obtain ⟨s1, c1, q⟩ := need_out q
  refine need_in c1 (mb env _ _ (fun o e q => ?_) q)
  obtain ⟨s2, c2, q⟩ := need_out q
  refine need_in c2 ?_
  revert q
  split
  · exact mG _ _ _ _ fun _ => l.nx _
  · exact id
theorem ss_augI (i : Nat) {x : Str} {e : Expr} {pos pos' : Pos} {op : Operator} {r : R2} {G : G2} {wb : DO} (hN : X.N.Nodup) (ho : PIp X op r) (hsem : Sem2 ⟨X.K, tb⟩ r G) (mG : MonoG G) (he : SO tb X e wb) (hi : X.N[i]? = some x := by rfl) (hx : Loc X.env.scope x := by first | exact Or.inl rfl | exact Or.inr rfl)
    (hf : X.fn x = true ∨ X.env.scope.names.lookup x = some .local := by first | exact .inl rfl | exact .inr rfl) : SS tb X (.AugAssign (.Name x pos') op e pos) (dAugI i wb G) :=
  ⟨dAugI_mono he.mono mG, (ps_aug hN hi hx he.pe ho hf).imp fun D σ H ⟨Z, Fr, As, env, I, q⟩ => by
    obtain ⟨s1, c1, q⟩ := need_out q
    rcases s1 with d | ⟨t, m⟩ | ns
    · obtain ⟨v, h1, r1⟩ := I.atVal (sl_at c1)
      refine ⟨v, h1, Z, Fr, As, env, I, he.mono env _ _ (fun o e q v2 H2 Z2 st2 I2 r2 => ?_) q⟩
      obtain ⟨s2, c2, q⟩ := need_out q
      exact hsem Z2 Fr As σ e H2 v v2 (.val d) s2 _ _ I2 (r1.step st2) (r2.cr I2 c2) q fun v3 H3 Z3 r3 q st3 I3 R3 => q _ _ _ (st2.trans st3) (I3.setRes R3)
    · obtain ⟨a, h1, _⟩ := I.atOwn (sl_at c1)
      refine ⟨_, h1, Z, Fr, As, env, I, he.mono env _ _ (fun o e q v2 H2 Z2 st2 I2 r2 => ?_) q⟩
      obtain ⟨s2, c2, q⟩ := need_out q
      exact q.elim
    · obtain ⟨w, h1, a, rfl, _⟩ := I.at (sl_at c1)
      refine ⟨_, h1, Z, Fr, As, env, I, he.mono env _ _ (fun o e q v2 H2 Z2 st2 I2 r2 => ?_) q⟩
      obtain ⟨s2, c2, q⟩ := need_out q
      exact q.elim⟩
end
end DV

set_option Elab.async false
set_option linter.all false
set_option maxRecDepth 100000
set_option maxHeartbeats 4000000
namespace DV
open PySem PySem.Spec PyProof.Rows L2

/-! ### defs -/
/-- what a def does: its arguments, what follows (its value, the arguments behind it), what follows an error (its class) -/
abbrev FS := List Slot → (Slot → List Slot → Prop) → (Value → Prop) → Prop
def envA (args : List Slot) : En := args.map some
abbrev A0 : Nat → Addr := fun _ => 0
def spOf (C : Cfg) (fs : FS) : Sp := fun vs H Q E => ∃ Z Fr args, EnvR C Z Fr A0 (vs.map some) H (envA args) ∧ (∀ s ∈ args, ∀ t m, s = Slot.own t m → t = none) ∧
  fs args (fun r args' => ∀ v H' Z', Step Z Fr H Z' H' → EnvR C Z' Fr A0 (vs.map some) H' (envA args') → ResR C Z' Fr (vs.map some) (envA args') H' v r → Q v H')
    (fun cls => ∀ d H' Z', Step Z Fr H Z' H' → EnvR C Z' Fr A0 (vs.map some) H' (envA args) → E cls d H')
structure RoomG (k : Nat) (A : Around) : Prop where
  room : Room k A
  gd : A.guards = some []
theorem RoomG.mono {j k : Nat} {A : Around} (r : RoomG k A) (h : j ≤ k) : RoomG j A := ⟨r.room.mono h, r.gd⟩
structure FnG (P : Program) (w : World) (K : Frag) (mg : Str → Option Value) (base : Heap) (CX : CXT) (tb : List Addr) (k : Nat) (f : Addr) (fd : FuncData) (ps : List Str) (fs : FS) : Prop where
  mono : ∀ args Q Q' X X', (∀ r a, Q r a → Q' r a) → (∀ c, X c → X' c) → fs args Q X → fs args Q' X'
  len : ∀ args Q X, fs args Q X → args.length = ps.length
  run : ∀ (A : Around) (outer : List Env) (s : Shared) (H : Hp) (args : Args) (us : List Value) (vs : List V) (Q : VK) (E : XK), RoomG k A → Env0 P w K mg base A outer s H → BindsTo s fd args (ps.zip us) → Vals vs us → spOf ⟨K, tb⟩ fs vs H Q E →
    codeAny (model P w) A (.call (.ref f) args) (L2.CR CX outer P w H s Q E) s
section
variable {P : Program} {w : World} {K : Frag} {mg : Str → Option Value} {base : Heap} {CX : CXT} {tb : List Addr} {f : Addr} {fd : FuncData} {ps : List Str}
theorem FnG.at {j k : Nat} {fs : FS} (F : FnG P w K mg base CX tb j f fd ps fs) (h : j ≤ k) : FnG P w K mg base CX tb k f fd ps fs := ⟨F.mono, F.len, fun A outer s H args us vs Q E hr => F.run A outer s H args us vs Q E (hr.mono h)⟩
theorem FnG.imp {k : Nat} {fs fs' : FS} (F : FnG P w K mg base CX tb k f fd ps fs) (m : ∀ args Q Q' X X', (∀ r a, Q r a → Q' r a) → (∀ c, X c → X' c) → fs' args Q X → fs' args Q' X') (h : ∀ args Q X, fs' args Q X → fs args Q X) : FnG P w K mg base CX tb k f fd ps fs' :=
  ⟨m, fun args Q X q => F.len _ _ _ (h _ _ _ q), fun A outer s H args us vs Q E hr e0 hb r ⟨Z, Fr, as, I, ht, q⟩ => F.run A outer s H args us vs Q E hr e0 hb r ⟨Z, Fr, as, I, ht, h _ _ _ q⟩⟩
end
/-! the arguments in a def's frame -/
def tagA : Nat → List Slot → En
  | _, [] => []
  | k, .own _ m :: r => some (.own (some k) m) :: tagA (k + 1) r
  | k, .val d :: r => some (.val d) :: tagA (k + 1) r
  | k, .scr ns :: r => some (.scr ns) :: tagA (k + 1) r
theorem tagA_length : ∀ (k : Nat) (as : List Slot), (tagA k as).length = as.length
  | _, [] => rfl
  | k, .own _ m :: r => congrArg (· + 1) (tagA_length (k + 1) r)
  | k, .val d :: r => congrArg (· + 1) (tagA_length (k + 1) r)
  | k, .scr ns :: r => congrArg (· + 1) (tagA_length (k + 1) r)
def tag1 (k : Nat) : Slot → Slot
  | .own _ m => .own (some k) m
  | s => s
theorem tagA_get : ∀ (k : Nat) (as : List Slot) (i : Nat), (tagA k as)[i]? = (as[i]?).map fun s => some (tag1 (k + i) s)
  | _, [], i => by simp [tagA]
  | k, s :: r, 0 => by cases s <;> simp [tagA, tag1]
  | k, s :: r, i + 1 => by
    have e : k + (i + 1) = k + 1 + i := by omega
    cases s <;> simp [tagA, tagA_get (k + 1) r i, e]
/-- the arguments as a def leaves them: objects of the caller's are still where they were -/
def backA : Nat → List Slot → En → Option (List Slot)
  | _, [], _ => some []
  | k, .own _ _ :: r, e => match sl e k with
    | some (.own (some j) m) => if j = k then (backA (k + 1) r e).map (Slot.own none m :: ·) else none
    | _ => none
  | k, .val d :: r, e => (backA (k + 1) r e).map (Slot.val d :: ·)
  | k, .scr ns :: r, e => (backA (k + 1) r e).map (Slot.scr ns :: ·)
def backAt (e : En) (a' : List Slot) (k i : Nat) : Slot → Prop
  | .own _ _ => ∃ m, sl e k = some (.own (some k) m) ∧ a'[i]? = some (.own none m)
  | .val d => a'[i]? = some (.val d)
  | .scr ns => a'[i]? = some (.scr ns)
theorem backAt_cons {e : En} {a' : List Slot} {x : Slot} {k i : Nat} {s : Slot} (h : backAt e a' k i s) : backAt e (x :: a') k (i + 1) s := by
  cases s with
  | own t m => obtain ⟨m, h1, h2⟩ := h; exact ⟨m, h1, by simpa using h2⟩
  | val d => have h : a'[i]? = some (.val d) := h; show (x :: a')[i + 1]? = _; simpa using h
  | scr ns => have h : a'[i]? = some (.scr ns) := h; show (x :: a')[i + 1]? = _; simpa using h
theorem backA_ok : ∀ (as : List Slot) (k : Nat) (e : En) (a' : List Slot), backA k as e = some a' → a'.length = as.length ∧ ∀ i s, as[i]? = some s → backAt e a' (k + i) i s := by
  intro as
  induction as with
  | nil => intro k e a' h; cases h; exact ⟨rfl, fun i s h => by simp at h⟩
  | cons x r ih =>
    intro k e a' h
    have tail : ∀ {l : List Slot} {y : Slot}, backA (k + 1) r e = some l → backAt e (y :: l) k 0 x → (y :: l).length = (x :: r).length ∧ ∀ i s, (x :: r)[i]? = some s → backAt e (y :: l) (k + i) i s := fun {l y} hl h0 => by
      obtain ⟨h1, h2⟩ := ih (k + 1) e l hl
      refine ⟨by simp [h1], fun i s hi => ?_⟩
      cases i with
      | zero => simp at hi; subst hi; exact h0
      | succ i =>
        have q := h2 i s (by simpa using hi)
        rw [show k + (i + 1) = k + 1 + i by omega]
        exact backAt_cons q
    cases x with
    | own t m =>
      unfold backA at h
      split at h
      · rename_i j m' hj
        split at h
        · rename_i ej
          subst ej
          obtain ⟨l, hl, rfl⟩ := Option.map_eq_some_iff.mp h
          exact tail hl ⟨m', hj, rfl⟩
        · cases h
      · cases h
    | val d =>
      obtain ⟨l, hl, rfl⟩ := Option.map_eq_some_iff.mp h
      exact tail hl rfl
    | scr ns =>
      obtain ⟨l, hl, rfl⟩ := Option.map_eq_some_iff.mp h
      exact tail hl rfl
/-- a def's frame at its entry -/
def entryE (N : List Str) (args : List Slot) : En := tagA 0 args ++ List.replicate (N.length - args.length) none
/-- what is wanted at a def's end -/
def finE (args : List Slot) (Q : Slot → List Slot → Prop) : Slot → En → Prop := fun r e => need (backA 0 args e) fun a' => Q r a'

section
variable {C : Cfg} {Z Z' Fr : Addr → Prop} {σ : L2.St} {H H' : Hp}
/-- the addresses of the arguments -/
def adrs (vs : List V) : Nat → Addr := fun i => match vs[i]? with
  | some (.ref a) => a
  | _ => 0
theorem entry_env {N : List Str} {vs : List V} {args : List Slot} (hl : args.length ≤ N.length) (I : EnvR C Z Fr A0 (vs.map some) H (envA args)) : EnvR C Z Fr (adrs vs) (L2.start N vs) H (entryE N args) := by
  have len : vs.length = args.length := by
    have := I.len
    simpa [envA] using this
  have get : ∀ (i : Nat) (v : Option V) (x : Option Slot), (L2.start N vs)[i]? = some v → (entryE N args)[i]? = some x → x = none ∨ ∃ s u, args[i]? = some s ∧ x = some (tag1 i s) ∧ vs[i]? = some u ∧ v = some u := fun i v x h1 h2 => by
    unfold entryE at h2
    by_cases hi : i < args.length
    · rw [List.getElem?_append_left (by rw [tagA_length]; exact hi), tagA_get] at h2
      obtain ⟨s, hs, rfl⟩ := Option.map_eq_some_iff.mp h2
      unfold L2.start at h1
      rw [List.getElem?_append_left (by simp [len, hi]), List.getElem?_map] at h1
      obtain ⟨u, hu, rfl⟩ := Option.map_eq_some_iff.mp h1
      exact .inr ⟨s, u, hs, by simp, hu, rfl⟩
    · rw [List.getElem?_append_right (by rw [tagA_length]; omega), List.getElem?_replicate] at h2
      split at h2
      · cases h2; exact .inl rfl
      · cases h2
  have back : ∀ {a i}, OwnAt (L2.start N vs) (entryE N args) a i → OwnAt (vs.map some) (envA args) a i := fun {a i} ⟨h1, t, m, h2⟩ => by
    rcases get i _ _ h1 h2 with e | ⟨s, u, hs, ex, hu, ev⟩
    · cases e
    · cases ev
      cases s with
      | own t' m' => exact ⟨by simp [hu], t', m', by simp [envA, hs]⟩
      | val d => cases ex
      | scr ns => cases ex
  refine ⟨I.ok, ?_, fun i v x h1 h2 => ?_, fun a i j h1 h2 => I.apart a i j (back h1) (back h2)⟩
  · unfold L2.start entryE
    rw [List.length_append, List.length_append, tagA_length, List.length_map, List.length_replicate, List.length_replicate, len]
  · rcases get i v x h1 h2 with e | ⟨s, u, hs, ex, hu, ev⟩
    · subst e; exact True.intro
    · subst ex ev
      have q := I.slot i (some u) (some s) (by simp [hu]) (by simp [envA, hs])
      cases s with
      | val d => exact q
      | scr ns => exact q
      | own t m =>
        obtain ⟨a, ea, r, z, f, _⟩ := q
        refine ⟨a, ea, r, z, f, fun k hk => ?_⟩
        cases hk
        cases ea
        unfold adrs
        rw [hu]
theorem exit_env {N : List Str} {vs : List V} {args a' : List Slot} {σ' : L2.St} {e : En} {v : V} {r : Slot} (I : EnvR C Z Fr A0 (vs.map some) H (envA args)) (st : Step Z Fr H Z' H') (I' : EnvR C Z' Fr (adrs vs) σ' H' e)
    (R : ResR C Z' Fr σ' e H' v r) (hb : backA 0 args e = some a') : EnvR C Z' Fr A0 (vs.map some) H' (envA a') ∧ ResR C Z' Fr (vs.map some) (envA a') H' v r := by
  obtain ⟨bl, bk⟩ := backA_ok _ _ _ _ hb
  have len : vs.length = args.length := by
    have := I.len
    simpa [envA] using this
  -- an argument that is an object stands where it stood
  have own : ∀ {i a t m}, (vs.map some)[i]? = some (some (V.ref a)) → (envA a')[i]? = some (some (Slot.own t m)) → OwnAt σ' e a i ∧ sl e i = some (.own (some i) m) ∧ t = none := fun {i a t m} h1 h2 => by
    have ha : a'[i]? = some (.own t m) := by
      unfold envA at h2
      rw [List.getElem?_map] at h2
      obtain ⟨s, hs, es⟩ := Option.map_eq_some_iff.mp h2
      cases es
      exact hs
    have hi : i < args.length := by rw [← bl]; exact (List.getElem?_eq_some_iff.mp ha).1
    have q := bk i args[i] (List.getElem?_eq_getElem hi)
    cases es : args[i] with
    | val d =>
      rw [es] at q
      have q : a'[i]? = some (.val d) := q
      rw [q] at ha
      cases ha
    | scr ns =>
      rw [es] at q
      have q : a'[i]? = some (.scr ns) := q
      rw [q] at ha
      cases ha
    | own t0 m0 =>
      rw [es, Nat.zero_add] at q
      obtain ⟨m1, q1, q2⟩ := q
      rw [ha] at q2
      cases q2
      obtain ⟨b, g1, g2, g3, g4, g5, g6⟩ := I'.atOwn (sl_at q1)
      have eb := g5 i rfl
      have hv : vs[i]? = some (.ref a) := by
        rw [List.getElem?_map] at h1
        obtain ⟨s, hs, es⟩ := Option.map_eq_some_iff.mp h1
        cases es
        exact hs
      have : b = a := by rw [eb]; unfold adrs; rw [hv]
      subst this
      exact ⟨g6, q1, rfl⟩
  have E : EnvR C Z' Fr A0 (vs.map some) H' (envA a') := by
    refine ⟨I'.ok, by unfold envA; simp [len, bl], fun i w x h1 h2 => ?_, fun a i j h1 h2 => ?_⟩
    · have ha : ∃ s, a'[i]? = some s ∧ x = some s := by
        unfold envA at h2
        rw [List.getElem?_map] at h2
        obtain ⟨s, hs, es⟩ := Option.map_eq_some_iff.mp h2
        exact ⟨s, hs, es.symm⟩
      obtain ⟨s, ha, rfl⟩ := ha
      have hi : i < args.length := by rw [← bl]; exact (List.getElem?_eq_some_iff.mp ha).1
      have hs := List.getElem?_eq_getElem hi
      have q := bk i args[i] hs
      have old := I.slot i w (some args[i]) h1 (by unfold envA; rw [List.getElem?_map, hs]; rfl)
      cases es : args[i] with
      | val d =>
        rw [es] at q old
        have q : a'[i]? = some (.val d) := q
        rw [q] at ha
        cases ha
        obtain ⟨u, eu, ru⟩ := old
        exact ⟨u, eu, ru.step st⟩
      | scr ns =>
        rw [es] at q old
        have q : a'[i]? = some (.scr ns) := q
        rw [q] at ha
        cases ha
        obtain ⟨u, eu, ru⟩ := old
        exact ⟨u, eu, st.sqs ru⟩
      | own t0 m0 =>
        rw [es] at q old
        obtain ⟨m1, q1, q2⟩ := q
        rw [ha] at q2
        cases q2
        obtain ⟨a, ea, _⟩ := old
        subst ea
        obtain ⟨ow, q3, _⟩ := own h1 h2
        obtain ⟨b, g1, g2, g3, g4, g5, g6⟩ := I'.atOwn (sl_at q3)
        have : b = a := by
          have h := ow.1
          rw [g1] at h
          cases h
          rfl
        subst this
        exact ⟨b, rfl, g2, g3, g4, fun k hk => by cases hk⟩
    · obtain ⟨p1, t1, m1, p2⟩ := h1
      obtain ⟨q1, t2, m2, q2⟩ := h2
      exact I'.apart a i j (own p1 p2).1 (own q1 q2).1
  refine ⟨E, ?_⟩
  cases r with
  | val d => exact R
  | scr ns => exact R
  | own t m =>
    obtain ⟨et, a, ea, q, z, f, no⟩ := R
    exact ⟨et, a, ea, q, z, f, fun i ⟨h1, t1, m1, h2⟩ => no i (own h1 h2).1⟩
end

section
variable {P : Program} {w : World} {K : Frag} {mg : Str → Option Value} {base : Heap} {tb : List Addr} {f : Addr}
/-- a def by its body: no error leaves it -/
theorem fnG_of {x qual : Str} {st : Stmt} {fd : FuncData} {N ps : List Str} {k : Nat} {fs : FS} {wb : DS} (F : Fun K x qual st f fd) (S : FnScope N ps (defScope st)) (mono : ∀ args Q Q' X X', (∀ r a, Q r a → Q' r a) → (∀ c, X c → X' c) → fs args Q X → fs args Q' X')
    (len : ∀ args Q X, fs args Q X → args.length = ps.length)
    (hfs : ∀ args Q X, fs args Q X → (∀ s ∈ args, ∀ t m, s = Slot.own t m → t = none) → wb (entryE N args) { nx := finE args Q (.val .none), rt := finE args Q })
    (hbody : ∀ (cdv : Value) (A : Around) (outer : List Env) (s : Shared) (H : Hp) (E : XK), PySem.W.codeIn K cdv qual = true → RoomG k (A.deeper (envOfC qual (defScope st) s.heap.objs.size f cdv)) → fd.code = cdv →
      SSs tb (cxOf CX0 P w K mg base N qual (defScope st) f cdv A outer s H E).nox (defBody st) wb) : FnG P w K mg base CX0 tb (k + 1) f fd ps fs := by
  obtain ⟨oc, od, kV, doc, pm, an, cdv, ct, osl, rfl, lk, hcd⟩ := F.ex
  refine ⟨mono, len, fun A outer s H args us vs Q E hr e0 hb r ⟨Z, Fr, as, I, ht, q⟩ => ?_⟩
  have hla := len _ _ _ q
  have hl : vs.length = ps.length := by
    have := I.len
    rw [← hla]
    simpa [envA] using this
  have hpl : ps.length ≤ N.length := by
    have := congrArg List.length S.pre
    rw [List.length_take] at this
    omega
  have KX : K.In s.heap := e0.mod.kin.keeps fun b o e => (e0.bs b o e).1
  have lim : s.heap.NoLimit := e0.mod.nolimit.keeps fun b o e => (e0.bs b o e).1
  refine codeAny_call_function hr.room.depth (KX _ _ lk) rfl S.co S.gen rfl (PySem.W.codeRec_of KX hcd) (hb _ _ _ _ ?_)
  refine wpAny_newFunctionEnv_cells S.kind (fun y hy => ?_) fun env he s1 x => ?_
  · have hp : y.1 ∈ ps := (List.of_mem_zip (show (y.1, y.2) ∈ ps.zip us from hy)).1
    rcases S.par y.1 hp with z | z
    · exact .inl z
    · exact .inr ⟨z, PySem.W.cellsFrom_some _ _ _ (.inl z)⟩
  · subst he
    refine ⟨lim.keeps x.toInCall.keep, codeAny_func ?_⟩
    have B := (hbody cdv A outer s H E hcd ⟨hr.room.deeper _, hr.gd⟩ rfl).ps.nox
    have J := inv_start (CX := CX0) (E := E) S hr.room.hd e0 hl r x
    have want : tS ⟨K, tb⟩ wb { nx := fun _ H' => Q .non H', rt := Q } (L2.start N vs) H := by
      refine ⟨Z, Fr, adrs vs, entryE N as, entry_env (by rw [hla]; exact hpl) I, ?_⟩
      have fin : ∀ {r : Slot} {e : En} {v : V} {σ' : L2.St} {H' : Hp} {Z' : Addr → Prop}, finE as (fun r args' => ∀ v H' Z', Step Z Fr H Z' H' → EnvR ⟨K, tb⟩ Z' Fr A0 (vs.map some) H' (envA args') → ResR ⟨K, tb⟩ Z' Fr (vs.map some) (envA args') H' v r → Q v H') r e →
          Step Z Fr H Z' H' → EnvR ⟨K, tb⟩ Z' Fr (adrs vs) σ' H' e → ResR ⟨K, tb⟩ Z' Fr σ' e H' v r → Q v H' := fun {r e v σ' H' Z'} h st I' R => by
        obtain ⟨a', ha, h⟩ := need_out h
        obtain ⟨e1, e2⟩ := exit_env (N := N) I st I' R ha
        exact h v H' Z' st e1 e2
      have M := (hbody cdv A outer s H E hcd ⟨hr.room.deeper _, hr.gd⟩ rfl).mono
      exact M _ { nx := finE as _ (.val .none), rt := finE as _ } _ ⟨fun e q σ' H' Z' st I' => fin (r := .val .none) q st I' Rp.non, fun r e q v σ' H' Z' st I' R => fin q st I' R, fun e q => q.elim, fun e q => q.elim⟩ (hfs as _ _ q ht)
    refine wpAny_mono (B.run [] s1 (L2.start N vs) H _ J want) (fun fl s' hs => ?_) fun e s' hs => hs
    cases fl with
    | ret u =>
      obtain ⟨v, σ', H', J', rv, qq⟩ := hs
      exact ⟨v, H', J'.os, J'.bare, J'.base, J'.hok, rv, qq⟩
    | next =>
      obtain ⟨σ', H', J', qq⟩ := hs
      exact ⟨V.non, H', J'.os, J'.bare, J'.base, J'.hok, rfl, qq⟩
    | brk => exact (let ⟨_, _, _, z⟩ := hs; z.elim)
    | cont => exact (let ⟨_, _, _, z⟩ := hs; z.elim)
end

/-! ### calls of defs -/
/-- the operands' contents as arguments: distinct variables -/
def argO (e : En) : List Opd → Option (List Slot)
  | [] => some []
  | o :: os => match con e o with
    | some (.own _ m) => (argO e os).map (Slot.own none m :: ·)
    | some s => (argO e os).map (s :: ·)
    | none => none
/-- variables whose objects are handed over -/
def varsO (e : En) : List Opd → List Nat
  | [] => []
  | .var i :: os => match sl e i with
    | some (.own _ _) => i :: varsO e os
    | _ => varsO e os
  | .res _ :: os => varsO e os
/-- the variables behind the call -/
def wrB : En → List Opd → List Slot → Option En
  | e, [], [] => some e
  | e, .var i :: os, a :: as => match sl e i with
    | some (.own t _) => match a with
      | .own _ m => wrB (e.set i (some (.own t m))) os as
      | _ => none
    | _ => wrB e os as
  | e, .res _ :: os, _ :: as => wrB e os as
  | _, _, _ => none
end DV

set_option Elab.async false
set_option linter.all false
set_option maxRecDepth 100000
set_option maxHeartbeats 4000000
namespace DV
open PySem PySem.Spec PyProof.Rows L2

theorem sl_set_ne {e : En} {i k : Nat} {x : Option Slot} (h : i ≠ k) : sl (e.set i x) k = sl e k := by
  unfold sl
  rw [List.getElem?_set_ne h]
theorem sl_set_eq {e : En} {i : Nat} {x : Option Slot} (h : i < e.length) : sl (e.set i x) i = x := by
  unfold sl
  rw [List.getElem?_set_self h]
  cases x <;> rfl
theorem sl_lt {e : En} {i : Nat} {s : Slot} (h : sl e i = some s) : i < e.length := (List.getElem?_eq_some_iff.mp (sl_at h)).1
theorem varsO_set {e : En} {i : Nat} {t t' : Option Nat} {m m' : MO} (h : sl e i = some (.own t m)) : ∀ os : List Opd, varsO (e.set i (some (.own t' m'))) os = varsO e os
  | [] => rfl
  | .res _ :: os => varsO_set h os
  | .var k :: os => by
    have ih := varsO_set (t' := t') (m' := m') h os
    unfold varsO
    rw [ih]
    by_cases ek : i = k
    · subst ek
      rw [sl_set_eq (sl_lt h), h]
    · rw [sl_set_ne ek]
theorem mem_vars {e : En} {i : Nat} {t : Option Nat} {m : MO} (h : sl e i = some (.own t m)) : ∀ {os : List Opd} {j : Nat}, os[j]? = some (.var i) → i ∈ varsO e os
  | [], j, hj => by simp at hj
  | o :: os, 0, hj => by
    simp at hj
    subst hj
    unfold varsO
    rw [h]
    exact List.mem_cons_self
  | .res _ :: os, j + 1, hj => by
    unfold varsO
    exact mem_vars h (j := j) (by simpa using hj)
  | .var k :: os, j + 1, hj => by
    have ih := mem_vars h (os := os) (j := j) (by simpa using hj)
    unfold varsO
    split
    · exact List.mem_cons_of_mem _ ih
    · exact ih
theorem of_vars {e : En} {i : Nat} : ∀ {os : List Opd}, i ∈ varsO e os → ∃ (j : Nat) (t : Option Nat) (m : MO), os[j]? = some (.var i) ∧ sl e i = some (.own t m)
  | [], h => by cases h
  | .res _ :: os, h => by
    unfold varsO at h
    obtain ⟨j, t, m, h1, h2⟩ := of_vars h
    exact ⟨j + 1, t, m, by simpa using h1, h2⟩
  | .var k :: os, h => by
    unfold varsO at h
    split at h
    · rename_i t m hk
      rcases List.mem_cons.mp h with rfl | h
      · exact ⟨0, t, m, rfl, hk⟩
      · obtain ⟨j, t, m, h1, h2⟩ := of_vars h
        exact ⟨j + 1, t, m, by simpa using h1, h2⟩
    · obtain ⟨j, t, m, h1, h2⟩ := of_vars h
      exact ⟨j + 1, t, m, by simpa using h1, h2⟩
theorem wrB_ok : ∀ (os : List Opd) (e : En) (as : List Slot) (e' : En), wrB e os as = some e' → (varsO e os).Nodup →
    e'.length = e.length ∧ as.length = os.length ∧ (∀ k, k ∉ varsO e os → sl e' k = sl e k) ∧ ∀ (j i : Nat) (t : Option Nat) (m : MO), os[j]? = some (.var i) → sl e i = some (.own t m) → ∃ t' m', as[j]? = some (.own t' m') ∧ sl e' i = some (.own t m') := by
  intro os
  induction os with
  | nil =>
    intro e as e' h _
    cases as with
    | nil =>
      have h : some e = some e' := h
      cases h
      exact ⟨rfl, rfl, fun _ _ => rfl, fun j i t m hj => by simp at hj⟩
    | cons a as => cases h
  | cons o os ih =>
    intro e as e' h nd
    cases as with
    | nil => cases o <;> cases h
    | cons a as =>
      cases o with
      | res r =>
        have h : wrB e os as = some e' := h
        have nd : (varsO e os).Nodup := nd
        obtain ⟨h1, h2, h3, h4⟩ := ih e as e' h nd
        refine ⟨h1, by simp [h2], h3, fun j i t m hj hs => ?_⟩
        cases j with
        | zero => simp at hj
        | succ j =>
          obtain ⟨t', m', q1, q2⟩ := h4 j i t m (by simpa using hj) hs
          exact ⟨t', m', by simpa using q1, q2⟩
      | var k =>
        unfold wrB at h
        unfold varsO at nd ⊢
        split at h
        · rename_i t m hk
          rw [hk] at nd
          obtain ⟨nk, nd'⟩ := List.nodup_cons.mp nd
          split at h
          · rename_i ta ma
            have ev := varsO_set (t' := t) (m' := ma) hk os
            obtain ⟨h1, h2, h3, h4⟩ := ih _ as e' h (by rw [ev]; exact nd')
            rw [ev] at h3
            have hk' : sl e' k = some (.own t ma) := by rw [h3 k nk, sl_set_eq (sl_lt hk)]
            refine ⟨by rw [h1, List.length_set], by simp [h2], fun l hl => ?_, fun j i t2 m2 hj hs => ?_⟩
            · have hl' : l ≠ k ∧ l ∉ varsO e os := by simpa using hl
              rw [h3 l hl'.2, sl_set_ne (Ne.symm hl'.1)]
            · cases j with
              | zero =>
                simp at hj
                subst hj
                rw [hk] at hs
                cases hs
                exact ⟨ta, ma, rfl, hk'⟩
              | succ j =>
                have hj' : os[j]? = some (.var i) := by simpa using hj
                have hi := mem_vars hs hj'
                have ne : k ≠ i := fun y => nk (by rw [y]; exact hi)
                obtain ⟨t', m', q1, q2⟩ := h4 j i t2 m2 hj' (by rw [sl_set_ne ne]; exact hs)
                exact ⟨t', m', by simpa using q1, q2⟩
          · cases h
        · rename_i hk
          have nd' : (varsO e os).Nodup := by
            revert nd
            split
            · rename_i t m hk2
              exact (hk _ _ hk2).elim
            · exact id
          have ev : (match sl e k with | some (.own _ _) => k :: varsO e os | _ => varsO e os) = varsO e os := by
            split
            · rename_i t m hk2
              exact (hk _ _ hk2).elim
            · rfl
          obtain ⟨h1, h2, h3, h4⟩ := ih e as e' h nd'
          refine ⟨h1, by simp [h2], fun l hl => h3 l hl, fun j i t m hj hs => ?_⟩
          cases j with
          | zero =>
            simp at hj
            subst hj
            exact (hk _ _ hs).elim
          | succ j =>
            obtain ⟨t', m', q1, q2⟩ := h4 j i t m (by simpa using hj) hs
            exact ⟨t', m', by simpa using q1, q2⟩

def untag : Slot → Slot
  | .own _ m => .own none m
  | s => s
theorem argO_ok : ∀ {e : En} {os : List Opd} {as : List Slot}, argO e os = some as → as.length = os.length ∧ ∀ (j : Nat) (o : Opd), os[j]? = some o → ∃ s, con e o = some s ∧ as[j]? = some (untag s)
  | e, [], as, h => by cases h; exact ⟨rfl, fun j o h => by simp at h⟩
  | e, o :: os, as, h => by
    have key : ∀ s, con e o = some s → (argO e os).map (untag s :: ·) = some as → as.length = (o :: os).length ∧ ∀ (j : Nat) (o' : Opd), (o :: os)[j]? = some o' → ∃ s, con e o' = some s ∧ as[j]? = some (untag s) := fun s hs h => by
      obtain ⟨l, hl, rfl⟩ := Option.map_eq_some_iff.mp h
      obtain ⟨h1, h2⟩ := argO_ok hl
      refine ⟨by simp [h1], fun j o' hj => ?_⟩
      cases j with
      | zero => simp at hj; subst hj; exact ⟨s, hs, rfl⟩
      | succ j =>
        obtain ⟨s', q1, q2⟩ := h2 j o' (by simpa using hj)
        exact ⟨s', q1, by simpa using q2⟩
    unfold argO at h
    split at h
    · rename_i t m hc
      exact key _ hc h
    · rename_i s hn hc
      refine key s hc ?_
      cases s with
      | own t m => exact (hn _ _ rfl).elim
      | val d => exact h
      | scr ns => exact h
    · cases h

section
variable {C : Cfg} {Z Z' Fr : Addr → Prop} {As : Nat → Addr} {σ : L2.St} {H H' : Hp} {e : En}
theorem OpdRs.get : ∀ {vs : List V} {os : List Opd} {Fr : Addr → Prop} {j : Nat} {o : Opd}, OpdRs C Z σ e H Fr vs os → os[j]? = some o → ∃ v, vs[j]? = some v ∧ OpdR C Z Fr σ e H v o
  | [], [], _, _, _, _, h => by simp at h
  | v :: vs, o :: os, Fr, 0, o', R, h => by simp at h; subst h; exact ⟨v, rfl, R.1⟩
  | v :: vs, o :: os, Fr, j + 1, o', R, h => by
    obtain ⟨u, h1, h2⟩ := OpdRs.get (j := j) R.2 (by simpa using h)
    exact ⟨u, by simpa using h1, h2.weak fun a => .inl⟩
theorem OpdRs.length : ∀ {vs : List V} {os : List Opd} {Fr : Addr → Prop}, OpdRs C Z σ e H Fr vs os → vs.length = os.length
  | [], [], _, _ => rfl
  | v :: vs, o :: os, Fr, R => congrArg (· + 1) (OpdRs.length R.2)
  | [], o :: os, _, R => R.elim
  | v :: vs, [], _, R => R.elim
/-- two new objects among the operands are two -/
theorem OpdRs.apart : ∀ {vs : List V} {os : List Opd} {Fr : Addr → Prop} {i j : Nat} {a : Addr} {r1 r2 : Slot}, OpdRs C Z σ e H Fr vs os → i < j → os[i]? = some (.res r1) → os[j]? = some (.res r2) → vs[i]? = some (.ref a) → vs[j]? = some (.ref a) →
    (∃ t m, r1 = .own t m) → (∃ t m, r2 = .own t m) → False
  | [], [], _, _, _, _, _, _, _, _, h, _, _, _, _, _ => by simp at h
  | v :: vs, o :: os, Fr, 0, j + 1, a, r1, r2, R, _, h1, h2, h3, h4, h5, ⟨t2, m2, e2⟩ => by
    simp at h1 h3
    subst h1 h3
    obtain ⟨u, g1, g2⟩ := OpdRs.get (j := j) R.2 (by simpa using h2)
    have g1' : vs[j]? = some (.ref a) := by simpa using h4
    rw [g1] at g1'
    cases g1'
    subst e2
    obtain ⟨_, b, eb, _, _, f, _⟩ := g2
    cases eb
    exact f (.inr ⟨rfl, h5⟩)
  | v :: vs, o :: os, Fr, i + 1, j + 1, a, r1, r2, R, hij, h1, h2, h3, h4, h5, h6 => OpdRs.apart (i := i) (j := j) R.2 (by omega) (by simpa using h1) (by simpa using h2) (by simpa using h3) (by simpa using h4) h5 h6
  | [], o :: os, _, _, _, _, _, _, R, _, _, _, _, _, _, _ => R.elim
  | v :: vs, [], _, _, _, _, _, _, R, _, _, _, _, _, _, _ => R.elim

/-- the caller's own objects that are not handed over -/
abbrev FrC (Fr : Addr → Prop) (σ : L2.St) (e : En) (os : List Opd) : Addr → Prop := fun a => Fr a ∨ ∃ i, OwnAt σ e a i ∧ i ∉ varsO e os
theorem call_in {vs : List V} {os : List Opd} {args : List Slot} (I : EnvR C Z Fr As σ H e) (R : OpdRs C Z σ e H Fr vs os) (ha : argO e os = some args) (nd : (varsO e os).Nodup) :
    EnvR C Z (FrC Fr σ e os) A0 (vs.map some) H (envA args) := by
  obtain ⟨al, ag⟩ := argO_ok ha
  have vl := R.length
  -- what stands at a place
  have at_ : ∀ (j : Nat) (s : Slot), args[j]? = some s → ∃ o v s', os[j]? = some o ∧ vs[j]? = some v ∧ con e o = some s' ∧ s = untag s' ∧ OpdR C Z Fr σ e H v o := fun j s hs => by
    have hj : j < os.length := by rw [← al]; exact (List.getElem?_eq_some_iff.mp hs).1
    have ho := List.getElem?_eq_getElem hj
    obtain ⟨s', q1, q2⟩ := ag j _ ho
    obtain ⟨v, q3, q4⟩ := R.get ho
    rw [hs] at q2
    cases q2
    exact ⟨_, v, s', ho, q3, q1, rfl, q4⟩
  have addr : ∀ {a j}, OwnAt (vs.map some) (envA args) a j → ∃ o v t m, os[j]? = some o ∧ v = V.ref a ∧ vs[j]? = some v ∧ con e o = some (.own t m) ∧ OpdR C Z Fr σ e H v o := fun {a j} ⟨h1, t, m, h2⟩ => by
    have hs : args[j]? = some (.own t m) := by
      unfold envA at h2
      rw [List.getElem?_map] at h2
      obtain ⟨s, hs, es⟩ := Option.map_eq_some_iff.mp h2
      cases es
      exact hs
    obtain ⟨o, v, s', q1, q2, q3, q4, q5⟩ := at_ j _ hs
    rw [List.getElem?_map, q2] at h1
    cases h1
    cases s' with
    | own t' m' => exact ⟨o, _, t', m', q1, rfl, q2, q3, q5⟩
    | val d => cases q4
    | scr ns => cases q4
  have okF : Ok C Z (FrC Fr σ e os) H := by
    have own : ∀ a i, OwnAt σ e a i → H a ≠ none ∧ ¬ Z a ∧ ∀ P ∈ C.tb, P ≠ a := fun a i ⟨h1, t, m, h2⟩ => by
      obtain ⟨b, g1, g2, g3, g4, g5, g6⟩ := I.atOwn h2
      rw [h1] at g1
      cases g1
      refine ⟨g2.non, g3, fun P hP y => ?_⟩
      subst y
      obtain ⟨ps, y, _⟩ := I.ok.tab P hP
      have mu := g2.mut
      rw [y] at mu
      exact mu
    exact ⟨I.ok.z, fun a q => q.elim (I.ok.f a) fun ⟨i, h, _⟩ => (own a i h).1, fun a z q => q.elim (I.ok.zf a z) fun ⟨i, h, _⟩ => (own a i h).2.1 z, I.ok.tab, fun P hP => ⟨(I.ok.nz P hP).1, fun q => q.elim (I.ok.nz P hP).2 fun ⟨i, h, _⟩ => (own P i h).2.2 P hP rfl⟩⟩
  refine ⟨okF, by simp [envA, vl, al], fun j w x h1 h2 => ?_, fun a i j h1 h2 => ?_⟩
  · unfold envA at h2
    rw [List.getElem?_map] at h2
    obtain ⟨s, hs, rfl⟩ := Option.map_eq_some_iff.mp h2
    obtain ⟨o, v, s', q1, q2, q3, q4, q5⟩ := at_ j s hs
    rw [List.getElem?_map, q2] at h1
    cases h1
    have cr := q5.cr I q3
    cases s' with
    | val d => subst q4; exact ⟨v, rfl, cr⟩
    | scr ns => subst q4; obtain ⟨a, ea, q⟩ := cr; exact ⟨a, by rw [ea], q⟩
    | own t m =>
      subst q4
      cases o with
      | res r =>
        cases q3
        obtain ⟨et, a, ea, m1, z, f, no⟩ := q5
        exact ⟨a, by rw [ea], m1, z, fun q => q.elim f fun ⟨i, h, _⟩ => no i h, fun k hk => by cases hk⟩
      | var i =>
        have q3 : sl e i = some (.own t m) := q3
        obtain ⟨b, g1, g2, g3, g4, g5, g6⟩ := I.atOwn (sl_at q3)
        have q5 : σ[i]? = some (some v) := q5
        rw [g1] at q5
        cases q5
        refine ⟨b, rfl, g2, g3, fun q => q.elim g4 fun ⟨k, h, nk⟩ => ?_, fun k hk => by cases hk⟩
        have := I.apart b i k g6 h
        subst this
        exact nk (mem_vars q3 q1)
  · by_cases hij : i = j
    · exact hij
    · exfalso
      obtain ⟨o1, v1, t1, m1, p1, p2, p3, p4, p5⟩ := addr h1
      obtain ⟨o2, v2, t2, m2, q1, q2, q3, q4, q5⟩ := addr h2
      subst p2 q2
      cases o1 with
      | res r1 =>
        cases o2 with
        | res r2 =>
          cases p4
          cases q4
          rcases Nat.lt_or_gt_of_ne hij with h | h
          · exact R.apart h p1 q1 p3 q3 ⟨_, _, rfl⟩ ⟨_, _, rfl⟩
          · exact R.apart h q1 p1 q3 p3 ⟨_, _, rfl⟩ ⟨_, _, rfl⟩
        | var k =>
          cases p4
          obtain ⟨_, b, eb, _, _, _, no⟩ := p5
          cases eb
          exact no k ⟨q5, t2, m2, sl_at q4⟩
      | var k1 =>
        cases o2 with
        | res r2 =>
          cases q4
          obtain ⟨_, b, eb, _, _, _, no⟩ := q5
          cases eb
          exact no k1 ⟨p5, t1, m1, sl_at p4⟩
        | var k2 =>
          have e12 := I.apart a k1 k2 ⟨p5, t1, m1, sl_at p4⟩ ⟨q5, t2, m2, sl_at q4⟩
          subst e12
          have p4 : sl e k1 = some (.own t1 m1) := p4
          -- the same variable twice
          have dup : ∀ (os : List Opd) (i j : Nat), i < j → os[i]? = some (.var k1) → os[j]? = some (.var k1) → ¬ (varsO e os).Nodup := by
            intro os
            induction os with
            | nil => intro i j _ h; simp at h
            | cons o os ih =>
              intro i j hlt h h' nd
              cases j with
              | zero => omega
              | succ j =>
                have h' : os[j]? = some (.var k1) := by simpa using h'
                cases i with
                | zero =>
                  simp at h
                  subst h
                  unfold varsO at nd
                  rw [p4] at nd
                  exact (List.nodup_cons.mp nd).1 (mem_vars p4 h')
                | succ i =>
                  refine ih i j (by omega) (by simpa using h) h' ?_
                  cases o with
                  | res r => exact nd
                  | var k =>
                    unfold varsO at nd
                    revert nd
                    split
                    · exact fun nd => (List.nodup_cons.mp nd).2
                    · exact id
          rcases Nat.lt_or_gt_of_ne hij with h | h
          · exact dup os i j h p1 q1 nd
          · exact dup os j i h q1 p1 nd
theorem call_out {vs : List V} {os : List Opd} {args' : List Slot} {e' : En} {v : V} {r : Slot} (I : EnvR C Z Fr As σ H e) (R : OpdRs C Z σ e H Fr vs os) (nd : (varsO e os).Nodup)
    (st : Step Z (FrC Fr σ e os) H Z' H') (I' : EnvR C Z' (FrC Fr σ e os) A0 (vs.map some) H' (envA args')) (RR : ResR C Z' (FrC Fr σ e os) (vs.map some) (envA args') H' v r) (hw : wrB e os args' = some e') :
    Step Z Fr H Z' H' ∧ EnvR C Z' Fr As σ H' e' ∧ ResR C Z' Fr σ e' H' v r := by
  obtain ⟨el, al, hn, hv⟩ := wrB_ok os e args' e' hw nd
  have wk : ∀ a, Fr a → FrC Fr σ e os a := fun a => .inl
  -- a variable that was handed over
  have given_ : ∀ i, i ∈ varsO e os → ∃ (j : Nat) (t : Option Nat) (m m' : MO) (t' : Option Nat) (a : Addr), os[j]? = some (.var i) ∧ sl e i = some (.own t m) ∧ sl e' i = some (.own t m') ∧ σ[i]? = some (some (.ref a)) ∧ OwnAt (vs.map some) (envA args') a j ∧ (envA args')[j]? = some (some (.own t' m')) ∧ (vs.map some)[j]? = some (some (.ref a)) := fun i hi => by
    obtain ⟨j, t, m, h1, h2⟩ := of_vars hi
    obtain ⟨t', m', h3, h4⟩ := hv j i t m h1 h2
    obtain ⟨u, h5, h6⟩ := R.get h1
    obtain ⟨b, g1, _⟩ := I.atOwn (sl_at h2)
    have h6 : σ[i]? = some (some u) := h6
    rw [g1] at h6
    cases h6
    have p1 : (envA args')[j]? = some (some (.own t' m')) := by unfold envA; rw [List.getElem?_map, h3]; rfl
    have p2 : (vs.map some)[j]? = some (some (V.ref b)) := by rw [List.getElem?_map, h5]; rfl
    exact ⟨j, t, m, m', t', b, h1, h2, h4, g1, ⟨p2, t', m', p1⟩, p1, p2⟩
  have same : ∀ {a i}, OwnAt σ e' a i → OwnAt σ e a i := fun {a i} ⟨h1, t, m, h2⟩ => by
    by_cases hi : i ∈ varsO e os
    · obtain ⟨j, t1, m1, _, _, b, _, h3, _, _⟩ := given_ i hi
      exact ⟨h1, t1, m1, sl_at h3⟩
    · have h3 : sl e' i = some (.own t m) := by unfold sl; rw [h2]; rfl
      rw [hn i hi] at h3
      exact ⟨h1, t, m, sl_at h3⟩
  refine ⟨st.weak wk, ⟨(I'.weak wk).ok, by rw [el]; exact I.len, fun i w x h1 h2 => ?_, fun a i j h1 h2 => I.apart a i j (same h1) (same h2)⟩, ?_⟩
  · rcases x with _ | s
    · exact True.intro
    · have h3 : sl e' i = some s := by unfold sl; rw [h2]; rfl
      by_cases hi : i ∈ varsO e os
      · obtain ⟨j, t, m, m', t', a, p1, p2, p3, p4, p5, p6, p7⟩ := given_ i hi
        rw [p3] at h3
        cases h3
        rw [p4] at h1
        cases h1
        obtain ⟨b, g1, g2, g3, g4, _⟩ := I'.slot j _ _ p7 p6
        cases g1
        obtain ⟨b, _, _, _, _, g5, _⟩ := I.atOwn (sl_at p2)
        refine ⟨a, rfl, g2, g3, fun f => g4 (.inl f), fun k hk => ?_⟩
        obtain ⟨b, q1, _, _, _, g5, _⟩ := I.atOwn (sl_at p2)
        rw [p4] at q1
        cases q1
        exact g5 k hk
      · rw [hn i hi] at h3
        have old := I.slot i w (some s) h1 (sl_at h3)
        cases s with
        | val d => obtain ⟨u, eu, ru⟩ := old; exact ⟨u, eu, ru.step st⟩
        | scr ns => obtain ⟨u, eu, ru⟩ := old; exact ⟨u, eu, st.sqs ru⟩
        | own t m =>
          obtain ⟨a, ea, g1, g2, g3, g4⟩ := old
          subst ea
          have fr : FrC Fr σ e os a := .inr ⟨i, ⟨h1, t, m, sl_at h3⟩, hi⟩
          exact ⟨a, rfl, g1.step st (st.keep a (.inr fr)), fun z => g2 (st.fr a z fr), g3, g4⟩
  · cases r with
    | val d => exact RR
    | scr ns => exact RR
    | own t m =>
      obtain ⟨et, a, ea, g1, g2, g3, g4⟩ := RR
      refine ⟨et, a, ea, g1, g2, fun f => g3 (.inl f), fun i hi => ?_⟩
      by_cases hv : i ∈ varsO e os
      · obtain ⟨j, t, m, m', t', b, p1, p2, p3, p4, p5, p6, p7⟩ := given_ i hv
        have := hi.1
        rw [p4] at this
        cases this
        exact g4 j p5
      · exact g3 (.inr ⟨i, same hi, hv⟩)
end

/-! ### the call of a def -/
def dCall (fs : FS) (ws : DOs) : DE := fun env Q => ws env fun os e => need (argO e os) fun args => (varsO e os).Nodup ∧ fs args (fun r args' => need (wrB e os args') fun e' => Q r e') (fun _ => False)
section
variable {tb : List Addr} {X : Cx} {k : Nat} {f : Addr} {fd : FuncData} {ps : List Str} {fs : FS} {ws : DOs}
theorem call_lift {C : Cfg} {X : Cx} {sp : Sp} {E : XK} (m : Mono ws) (mf : ∀ args Q Q' X X', (∀ r a, Q r a → Q' r a) → (∀ c, X c → X' c) → fs args Q X → fs args Q' X') : ∀ σ H Q, tE C (dCall fs ws) σ H Q → tOs C ws σ H fun vs H1 => spOf C fs vs H1 Q E := fun σ H Q ⟨Z, Fr, As, env, I, q⟩ =>
  ⟨Z, Fr, As, env, I, m env _ _ (fun os e q vs H1 Z1 st1 I1 R => by
    obtain ⟨args, ha, nd, q⟩ := need_out q
    refine ⟨Z1, _, args, call_in I1 R ha nd, fun s hs t m hm => ?_, mf _ _ _ _ _ (fun r args' q v H' Z' st I' RR => ?_) (fun c z => z.elim) q⟩
    · subst hm
      obtain ⟨al, ag⟩ := argO_ok ha
      obtain ⟨j, hj⟩ := List.getElem?_of_mem hs
      have hl : j < os.length := by rw [← al]; exact (List.getElem?_eq_some_iff.mp hj).1
      obtain ⟨s', _, q2⟩ := ag j _ (List.getElem?_eq_getElem hl)
      rw [hj] at q2
      cases s' with
      | own t' m' => cases q2; rfl
      | val d => cases q2
      | scr ns => cases q2
    · obtain ⟨e', hw, q⟩ := need_out q
      obtain ⟨p1, p2, p3⟩ := call_out I1 R nd st I' RR hw
      exact q v H' Z' (st1.trans p1) p2 p3) q⟩
theorem run_fnG {CX : CXT} {E : XK} {pins : List (Addr × Obj)} {σ : L2.St} {H : Hp} {s : Shared} {Q : VK} {us : List Value} {vs : List V} (F : FnG X.prog X.w X.K X.mg X.base CX tb k f fd ps fs) (hr : RoomG k X.A) (hb : Binds X.K fd ps []) (hx : Passes CX X E)
    (I : Inv X pins σ H s) (r : Vals vs us) (h : spOf ⟨X.K, tb⟩ fs vs H Q E) : wpAny (model X.prog X.w) X.A (call (.ref f) us) (EP X pins σ Q) X.xe s := by
  have hl : us.length = ps.length := by
    obtain ⟨Z, Fr, args, I', _, q⟩ := h
    rw [← F.len _ _ _ q, ← r.length]
    simpa [envA] using I'.len
  have bind := hb s us I.kIn (by rw [List.append_nil]; exact hl)
  rw [List.append_nil] at bind
  refine wpAny_call (codeAny_mono (F.run X.A X.stack s H ⟨us, []⟩ us vs Q E hr I.env0 bind r h) fun res s' hq => ?_)
  cases res with
  | error x => exact hx pins σ H s x s' I hq
  | ok fl =>
    cases fl with
    | ret u => exact I.after hq
    | _ => exact False.elim hq
theorem se_call {x : Str} {e : Expr} {es : List Expr} {p pos : Pos} (F : FnG X.prog X.w X.K X.mg X.base CX0 tb k f fd ps fs) (hr : RoomG k X.A) (hm : X.mg x = some (.ref f)) (hk : PySem.W.keepIn X.K (.ref f) = true) (hb : Binds X.K fd ps [])
    (ha : SOs tb X (e :: es) ws) (hg : Gl X x := by rfl) (hdb : (x == ("__debug__" : Str)) = false := by decide) (he : starEach (e :: es) X.env = (false, eval e X.env) :: starEach es X.env := by rfl) (hpl : (backTo pos (starEach es X.env)).any (·.1) = false := by rfl) :
    SE tb X (.Call (.Name x p) (e :: es) [] pos) (dCall fs ws) := by
  refine ⟨fun env Q Q' k q => ha.mono env _ _ (fun os e q => ?_) q, ⟨fun pins s σ H Q I h => ?_⟩⟩
  · obtain ⟨args, c, nd, q⟩ := need_out q
    refine need_in c ⟨nd, F.mono _ _ _ _ _ (fun r a q => ?_) (fun _ => id) q⟩
    obtain ⟨e', c, q⟩ := need_out q
    exact need_in c (k _ _ q)
  · refine wpAny_Call_Name_kw (ld_glob I hg hm ?_ hdb)
    have h2 := call_lift (X := X) (sp := fun _ _ _ _ => True) (E := E0) ha.mono F.mono σ H Q h
    refine PySem.W.callWith_K (h₀ := X.base) I.ok.mod.kin hk (thn (ha.pe.run pos pins s σ H _ I h2) fun us s1 ⟨vs, H1, I1, rv, q⟩ => ⟨I1.kIn, ?_⟩) he hpl
    exact run_fnG F hr hb pass0 I1 rv q
theorem dCall_mono (F : ∀ args Q Q' X X', (∀ r a, Q r a → Q' r a) → (∀ c, X c → X' c) → fs args Q X → fs args Q' X') (m : Mono ws) : Mono (dCall fs ws) := fun env Q Q' k q => m env _ _ (fun os e q => by
  obtain ⟨args, c, nd, q⟩ := need_out q
  refine need_in c ⟨nd, F _ _ _ _ _ (fun r a q => ?_) (fun _ => id) q⟩
  obtain ⟨e', c, q⟩ := need_out q
  exact need_in c (k _ _ q)) q
theorem dONil_mono : Mono dONil := fun _ _ _ h q => h _ _ q
theorem se_call0 {x : Str} {p pos : Pos} (F : FnG X.prog X.w X.K X.mg X.base CX0 tb k f fd ps fs) (hr : RoomG k X.A) (hm : X.mg x = some (.ref f)) (hk : PySem.W.keepIn X.K (.ref f) = true) (hb : Binds X.K fd ps [])
    (hg : Gl X x := by rfl) (hdb : (x == ("__debug__" : Str)) = false := by decide) : SE tb X (.Call (.Name x p) [] [] pos) (dCall fs dONil) := by
  refine ⟨dCall_mono F.mono dONil_mono, ⟨fun pins s σ H Q I h => ?_⟩⟩
  refine wpAny_Call_Name_kw (ld_glob I hg hm ?_ hdb)
  have h2 := call_lift (X := X) (ws := dONil) (sp := fun _ _ _ _ => True) (E := E0) dONil_mono F.mono σ H Q h
  obtain ⟨Z, Fr, As, env, I0, q⟩ := h2
  exact PySem.W.callWith_K0 I.kIn hk (run_fnG (us := []) F hr hb pass0 I .nil (q [] H Z Step.refl I0 True.intro))
/-- by keywords: the order of the parameters is g's -/
def dCallK (fs : FS) (g : List Opd → List Opd) (ws : DOs) : DE := fun env Q => ws env fun os e => need (argO e (g os)) fun args => (varsO e (g os)).Nodup ∧ fs args (fun r args' => need (wrB e (g os) args') fun e' => Q r e') (fun _ => False)
end
end DV

set_option Elab.async false
set_option linter.all false
set_option maxRecDepth 100000
set_option maxHeartbeats 4000000
namespace DV
open PySem PySem.Spec PyProof.Rows L2

/-! ### what a loop walks -/
theorem _root_.L2.PI.imp {X : Cx} {tg e : Expr} {t t' : TI} (h : PI X tg e t) (i : ∀ σ H Q, t' σ H Q → t σ H Q) : PI X tg e t' := ⟨fun pins s σ H Q I q => h.run pins s σ H Q I (i σ H Q q)⟩
/-- x, a list or a tuple -/
def iSeqA (K : Frag) (tl : TE) : TI := fun σ H R => tl σ H fun x H1 => ∃ a, x = .ref a ∧ (((∃ xs, SqL K H1 a xs) ∧ R (Itl K a) H1) ∨ ((∃ xs, SqT K H1 a xs) ∧ R (Itt K a) H1))
theorem pi_seqA {X : Cx} {tg l : Expr} {tl : TE} (hl : PE X l tl) : PI X tg l (iSeqA X.K tl) := by
  refine ⟨fun pins s σ H R I h => ?_⟩
  refine thn (hl.run pins s σ H _ I h) fun v s1 ⟨x, H1, I1, r1, q1⟩ => ?_
  obtain ⟨a, e, q⟩ := q1
  subst e
  cases r1
  rcases q with ⟨⟨xs, hq⟩, q⟩ | ⟨⟨xs, hq⟩, q⟩
  · obtain ⟨its, rv, p, hz⟩ := I1.list hq
    refine wpAny_pyIter_list p.isList ?_
    refine ⟨s1.heap.objs.size, [s1.heap.objs.size], _, _, H1, rfl, I1.kept (t' := s1.toks) fun b o e => Heap.get?_push_of_some _ e, turn_list a _, ⟨_, Heap.get?_push_size _ rfl, rfl, rfl⟩, fun b hb => ?_, q⟩
    have e : b = s1.heap.objs.size := by simpa using hb
    subst e
    exact I1.fpOk (Nat.le_refl _) (I1.hok.fresh (Nat.le_refl _))
  · obtain ⟨its, rv, p, hz⟩ := I1.tuple hq
    refine wpAny_pyIter_tuple (show s1.heap.IsTuple a its.toArray from p) ?_
    refine ⟨s1.heap.objs.size, [s1.heap.objs.size], _, _, H1, rfl, I1.kept (t' := s1.toks) fun b o e => Heap.get?_push_of_some _ e, turn_tuple a _, ⟨_, Heap.get?_push_size _ rfl, rfl, rfl⟩, fun b hb => ?_, q⟩
    have e : b = s1.heap.objs.size := by simpa using hb
    subst e
    exact I1.fpOk (Nat.le_refl _) (I1.hok.fresh (Nat.le_refl _))

abbrev DI := En → (List D → En → Prop) → Prop
def ItOk (C : Cfg) (Z Fr : Addr → Prop) (H : Hp) (J : It) (ds : List D) : Prop :=
  ∀ Z2 H2 i, Step Z Fr H Z2 H2 → Ok C Z2 Fr H2 → (∀ d, ds[i]? = some d → J.go i H2 ∧ ∀ x H3, J.yld i H2 x H3 → (H3 = H2 ∨ ∃ p o, H2 p = none ∧ H3 = upd H2 p o) ∧ Rp C.K Z2 H3 x d) ∧ (ds.length ≤ i → J.stop i H2)
def tI (C : Cfg) (w : DI) : TI := fun σ H R => ∃ Z Fr As env, EnvR C Z Fr As σ H env ∧ w env fun ds env' => ∀ J H' Z', Step Z Fr H Z' H' → EnvR C Z' Fr As σ H' env' → ItOk C Z' Fr H' J ds → R J H'
structure SI (tb : List Addr) (X : Cx) (tg e : Expr) (w : DI) : Prop where
  mono : Mono w
  pi : PI X tg e (tI ⟨X.K, tb⟩ w)
def seqD : D → Option (List D)
  | .list ds => some ds
  | .tuple ds => some ds
  | _ => none
theorem getElem?_lt' {α : Type} {l : List α} {i : Nat} {x : α} (h : l[i]? = some x) : i < l.length := (List.getElem?_eq_some_iff.mp h).1
section
variable {C : Cfg} {Z Fr : Addr → Prop} {H : Hp} {a b : Addr} {vs us : List V} {ds es : List D}
theorem itOk_list (z : Z a) (h : H a = some (.lst vs)) (r : Rps C.K Z H vs ds) : ItOk C Z Fr H (Itl C.K a) ds := fun Z2 H2 i st ok => by
  have h2 : H2 a = some (.lst vs) := (st.keep a (.inl z)).trans h
  have q : SqL C.K H2 a vs := .inl (.inl h2)
  refine ⟨fun d e => ?_, fun l => ⟨vs, q, by rw [r.length]; exact l⟩⟩
  obtain ⟨v, ev, rv⟩ := (r.step st).get e
  refine ⟨⟨vs, v, q, ev⟩, fun x H3 ⟨e3, k⟩ => ?_⟩
  subst e3
  have := k vs q
  rw [ev] at this
  cases this
  exact ⟨.inl rfl, rv⟩
theorem itOk_tup (h : SqT C.K H a vs) (r : Rps C.K Z H vs ds) : ItOk C Z Fr H (Itt C.K a) ds := fun Z2 H2 i st ok => by
  have q : SqT C.K H2 a vs := st.sqt h
  refine ⟨fun d e => ?_, fun l => ⟨vs, q, by rw [r.length]; exact l⟩⟩
  obtain ⟨v, ev, rv⟩ := (r.step st).get e
  refine ⟨⟨vs, v, q, ev⟩, fun x H3 ⟨e3, k⟩ => ?_⟩
  subst e3
  have := k vs q
  rw [ev] at this
  cases this
  exact ⟨.inl rfl, rv⟩
/-- lo, lo + 1, .. -/
def rngD (lo : Int) (n : Nat) : List D := (List.range n).map fun i => .int (lo + (i : Nat))
theorem rngD_get {lo : Int} {n i : Nat} {d : D} (h : (rngD lo n)[i]? = some d) : i < n ∧ d = .int (lo + (i : Nat)) := by
  have hl := getElem?_lt' h
  simp only [rngD, List.length_map, List.length_range] at hl
  refine ⟨hl, ?_⟩
  simp only [rngD, List.getElem?_map, List.getElem?_range hl, Option.map_some] at h
  exact (Option.some.inj h).symm
theorem rngD_length {lo : Int} {n : Nat} : (rngD lo n).length = n := by simp [rngD]
theorem itOk_rng {lo : Int} {n : Nat} : ItOk C Z Fr H (Itr lo n) (rngD lo n) := fun Z2 H2 i st ok => by
  refine ⟨fun d e => ?_, fun l => by rw [rngD_length] at l; exact l⟩
  obtain ⟨hl, rfl⟩ := rngD_get e
  refine ⟨hl, fun x H3 ⟨e3, k⟩ => ?_⟩
  subst e3 k
  exact ⟨.inl rfl, .int _⟩
/-- lo, lo + c, .. -/
def rngC (lo c : Int) (n : Nat) : List D := (List.range n).map fun i => .int (lo + (i : Nat) * c)
theorem itOk_rngC {lo c : Int} {n : Nat} : ItOk C Z Fr H (Itc lo c n) (rngC lo c n) := fun Z2 H2 i st ok => by
  refine ⟨fun d e => ?_, fun l => by simp only [rngC, List.length_map, List.length_range] at l; exact l⟩
  have hl := getElem?_lt' e
  simp only [rngC, List.length_map, List.length_range] at hl
  simp only [rngC, List.getElem?_map, List.getElem?_range hl, Option.map_some] at e
  refine ⟨hl, fun x H3 ⟨e3, k⟩ => ?_⟩
  cases e
  subst e3 k
  exact ⟨.inl rfl, .int _⟩
/-- (0, x0), (1, x1), .. -/
def enD (ds : List D) : List D := ds.zipIdx.map fun p => .tuple [.int (p.2 : Nat), p.1]
theorem enD_get {i : Nat} {d : D} (h : (enD ds)[i]? = some d) : ∃ x, ds[i]? = some x ∧ d = .tuple [.int (i : Nat), x] := by
  simp only [enD, List.getElem?_map, List.getElem?_zipIdx, Option.map_map, Option.map_eq_some_iff] at h
  obtain ⟨x, e, q⟩ := h
  exact ⟨x, e, by rw [← q]; simp⟩
theorem enD_length : (enD ds).length = ds.length := by simp [enD]
theorem itOk_enum (z : Z a) (h : H a = some (.lst vs)) (r : Rps C.K Z H vs ds) : ItOk C Z Fr H (Ite C.K a) (enD ds) := fun Z2 H2 i st ok => by
  have h2 : H2 a = some (.lst vs) := (st.keep a (.inl z)).trans h
  have q : SqL C.K H2 a vs := .inl (.inl h2)
  refine ⟨fun d e => ?_, fun l => ⟨vs, q, by rw [r.length]; rw [enD_length] at l; exact l⟩⟩
  obtain ⟨d', e', rfl⟩ := enD_get e
  obtain ⟨v, ev, rv⟩ := (r.step st).get e'
  refine ⟨⟨vs, v, q, ev⟩, fun x H3 ⟨p, y, ex, np, e3, k⟩ => ?_⟩
  have := k vs q
  rw [ev] at this
  cases this
  subst e3 ex
  exact ⟨.inr ⟨p, _, np, rfl⟩, .tup (.inl (.inl upd_same)) (.cons (.int _) (.cons (rv.step (Step.new ok np)) .nil))⟩
def zipD (ds es : List D) : List D := (ds.zip es).map fun p => .tuple [p.1, p.2]
theorem zipD_get {i : Nat} {d : D} (h : (zipD ds es)[i]? = some d) : ∃ x y, ds[i]? = some x ∧ es[i]? = some y ∧ d = .tuple [x, y] := by
  simp only [zipD, List.getElem?_map, Option.map_eq_some_iff] at h
  obtain ⟨⟨x, y⟩, e, q⟩ := h
  obtain ⟨e1, e2⟩ := List.getElem?_zip_eq_some.mp e
  exact ⟨x, y, e1, e2, q.symm⟩
theorem zipD_end {i : Nat} (h : (zipD ds es).length ≤ i) : ds.length ≤ i ∨ es.length ≤ i := by
  simp only [zipD, List.length_map, List.length_zip] at h
  omega
theorem itOk_zip (z : Z a) (h : H a = some (.lst vs)) (r : Rps C.K Z H vs ds) (z' : Z b) (h' : H b = some (.lst us)) (r' : Rps C.K Z H us es) : ItOk C Z Fr H (Itz C.K a b) (zipD ds es) := fun Z2 H2 i st ok => by
  have q : SqL C.K H2 a vs := .inl (.inl ((st.keep a (.inl z)).trans h))
  have q' : SqL C.K H2 b us := .inl (.inl ((st.keep b (.inl z')).trans h'))
  refine ⟨fun d e => ?_, fun l => ⟨vs, us, q, q', by rw [r.length, r'.length]; exact zipD_end l⟩⟩
  obtain ⟨d1, d2, e1, e2, rfl⟩ := zipD_get e
  obtain ⟨v, ev, rv⟩ := (r.step st).get e1
  obtain ⟨u, eu, ru⟩ := (r'.step st).get e2
  refine ⟨⟨vs, us, v, u, q, q', ev, eu⟩, fun x H3 ⟨p, y, y', ex, np, e3, k, k'⟩ => ?_⟩
  have k := k vs q
  have k' := k' us q'
  rw [ev] at k
  rw [eu] at k'
  cases k
  cases k'
  subst e3 ex
  exact ⟨.inr ⟨p, _, np, rfl⟩, .tup (.inl (.inl upd_same)) (.cons (rv.step (Step.new ok np)) (.cons (ru.step (Step.new ok np)) .nil))⟩
theorem itOk_zipT (h : SqT C.K H a vs) (r : Rps C.K Z H vs ds) (h' : SqT C.K H b us) (r' : Rps C.K Z H us es) : ItOk C Z Fr H (RZ.ItzT C.K a b) (zipD ds es) := fun Z2 H2 i st ok => by
  have q : SqT C.K H2 a vs := st.sqt h
  have q' : SqT C.K H2 b us := st.sqt h'
  refine ⟨fun d e => ?_, fun l => ⟨vs, us, q, q', by rw [r.length, r'.length]; exact zipD_end l⟩⟩
  obtain ⟨d1, d2, e1, e2, rfl⟩ := zipD_get e
  obtain ⟨v, ev, rv⟩ := (r.step st).get e1
  obtain ⟨u, eu, ru⟩ := (r'.step st).get e2
  refine ⟨⟨vs, us, v, u, q, q', ev, eu⟩, fun x H3 ⟨p, y, y', ex, np, e3, k, k'⟩ => ?_⟩
  have k := k vs q
  have k' := k' us q'
  rw [ev] at k
  rw [eu] at k'
  cases k
  cases k'
  subst e3 ex
  exact ⟨.inr ⟨p, _, np, rfl⟩, .tup (.inl (.inl upd_same)) (.cons (rv.step (Step.new ok np)) (.cons (ru.step (Step.new ok np)) .nil))⟩
/-- from the end -/
theorem itOk_rev (z : Z a) (h : H a = some (.lst vs)) (r : Rps C.K Z H vs ds) : ItOk C Z Fr H (Itv C.K a vs.length) ds.reverse := fun Z2 H2 i st ok => by
  have q : SqL C.K H2 a vs := .inl (.inl ((st.keep a (.inl z)).trans h))
  refine ⟨fun d e => ?_, fun l => by rw [List.length_reverse, ← r.length] at l; exact l⟩
  have hl := getElem?_lt' e
  rw [List.length_reverse] at hl
  rw [List.getElem?_reverse hl] at e
  obtain ⟨v, ev, rv⟩ := (r.step st).get e
  rw [← r.length] at ev hl
  refine ⟨⟨hl, vs, v, q, ev⟩, fun x H3 ⟨e3, k⟩ => ?_⟩
  subst e3
  have := k vs q
  rw [ev] at this
  cases this
  exact ⟨.inl rfl, rv⟩
theorem itOk_revT (h : SqT C.K H a vs) (r : Rps C.K Z H vs ds) : ItOk C Z Fr H (RT.ItvT C.K a vs.length) ds.reverse := fun Z2 H2 i st ok => by
  have q : SqT C.K H2 a vs := st.sqt h
  refine ⟨fun d e => ?_, fun l => by rw [List.length_reverse, ← r.length] at l; exact l⟩
  have hl := getElem?_lt' e
  rw [List.length_reverse] at hl
  rw [List.getElem?_reverse hl] at e
  obtain ⟨v, ev, rv⟩ := (r.step st).get e
  rw [← r.length] at ev hl
  refine ⟨⟨hl, vs, v, q, ev⟩, fun x H3 ⟨e3, k⟩ => ?_⟩
  subst e3
  have := k vs q
  rw [ev] at this
  cases this
  exact ⟨.inl rfl, rv⟩
end

section
variable {tb : List Addr} {X : Cx} {tg : Expr}
/-- over a list or a tuple -/
def dSq (w : DV) : DI := fun env Q => w env fun d e => need (seqD d) fun ds => Q ds e
theorem dSq_mono {w : DV} (m : Mono w) : Mono (dSq w) := fun env Q Q' k q => m env _ _ (fun _ _ q => let ⟨_, e, q⟩ := need_out q; need_in e (k _ _ q)) q
theorem si_seq {e : Expr} {w : DV} (h : SV tb X e w) : SI tb X tg e (dSq w) := ⟨dSq_mono h.mono, (pi_seqA h.pe).imp fun σ H R ⟨Z, Fr, As, env, I, q⟩ =>
  ⟨Z, Fr, As, env, I, h.mono env _ _ (fun d e q v H' Z' st I' r => by
    obtain ⟨ds, ed, q⟩ := need_out q
    cases r with
    | lst z h r => cases ed; exact ⟨_, rfl, .inl ⟨⟨_, .inl (.inl h)⟩, q _ _ _ st I' (itOk_list (C := ⟨X.K, tb⟩) z h r)⟩⟩
    | tup h r => cases ed; exact ⟨_, rfl, .inr ⟨⟨_, h⟩, q _ _ _ st I' (itOk_tup (C := ⟨X.K, tb⟩) h r)⟩⟩
    | _ => cases ed) q⟩⟩
def dRng1 (w : DVs) : DI := fun env Q => w env fun ds e => match ds with
  | [.int j] => (-(2 ^ 62) ≤ j ∧ j < 2 ^ 62) ∧ Q (rngD 0 j.toNat) e
  | _ => False
theorem si_rng1 {a : Expr} {p pos : Pos} {w : DVs} (hg : Gl X "range") (hm : X.mg "range" = none) (ha : SVs tb X [a] w) (hs : starEach [a] X.env = [(false, eval a X.env)] := by rfl) : SI tb X tg (.Call (.Name "range" p) [a] [] pos) (dRng1 w) :=
  ⟨fun env Q Q' k q => ha.mono env _ _ (fun ds e q => by
    revert q
    split
    · exact fun ⟨a, q⟩ => ⟨a, k _ _ q⟩
    · exact id) q, (pi_range1 hg hm ha.pe hs).imp fun σ H R ⟨Z, Fr, As, env, I, q⟩ => ⟨Z, Fr, As, env, I, ha.mono env _ _ (fun ds e q vs H' Z' st I' r => by
    revert q
    split
    · rintro ⟨⟨h1, h2⟩, q⟩
      match vs, r with
      | [_], .cons (.int j) .nil => exact ⟨_, rfl, h1, h2, q _ _ _ st I' (itOk_rng (C := ⟨X.K, tb⟩))⟩
    · exact fun q => q.elim) q⟩⟩
def dRng2 (w : DVs) : DI := fun env Q => w env fun ds e => match ds with
  | [.int i, .int j] => (-(2 ^ 62) ≤ i ∧ i < 2 ^ 62 ∧ -(2 ^ 62) ≤ j ∧ j < 2 ^ 62) ∧ Q (rngD i (j - i).toNat) e
  | _ => False
theorem si_rng2 {a b : Expr} {p pos : Pos} {w : DVs} (hg : Gl X "range") (hm : X.mg "range" = none) (ha : SVs tb X [a, b] w) (hs : starEach [a, b] X.env = [(false, eval a X.env), (false, eval b X.env)] := by rfl) (hs2 : starEach [b] X.env = [(false, eval b X.env)] := by rfl) :
    SI tb X tg (.Call (.Name "range" p) [a, b] [] pos) (dRng2 w) :=
  ⟨fun env Q Q' k q => ha.mono env _ _ (fun ds e q => by
    revert q
    split
    · exact fun ⟨a, q⟩ => ⟨a, k _ _ q⟩
    · exact id) q, (pi_range2 hg hm ha.pe hs hs2).imp fun σ H R ⟨Z, Fr, As, env, I, q⟩ => ⟨Z, Fr, As, env, I, ha.mono env _ _ (fun ds e q vs H' Z' st I' r => by
    revert q
    split
    · rintro ⟨h1, q⟩
      match vs, r with
      | [_, _], .cons (.int i) (.cons (.int j) .nil) => exact ⟨_, _, rfl, h1, q _ _ _ st I' (itOk_rng (C := ⟨X.K, tb⟩))⟩
    · exact fun q => q.elim) q⟩⟩
def dRng3 (w : DVs) : DI := fun env Q => w env fun ds e => match ds with
  | [.int i, .int j, .int c] => ∃ n, RgC i j c n ∧ Q (rngC i c n) e
  | _ => False
theorem si_rng3 {a b c : Expr} {p pos : Pos} {w : DVs} (hg : Gl X "range") (hm : X.mg "range" = none) (ha : SVs tb X [a, b, c] w)
    (hs : starEach [a, b, c] X.env = (false, eval a X.env) :: starEach [b, c] X.env := by rfl) (hpl : (backTo pos (starEach [b, c] X.env)).any (·.1) = false := by rfl) :
    SI tb X tg (.Call (.Name "range" p) [a, b, c] [] pos) (dRng3 w) :=
  ⟨fun env Q Q' k q => ha.mono env _ _ (fun ds e q => by
    revert q
    split
    · exact fun ⟨n, a, q⟩ => ⟨n, a, k _ _ q⟩
    · exact id) q, (pi_range3 hg hm ha.pe hs hpl).imp fun σ H R ⟨Z, Fr, As, env, I, q⟩ => ⟨Z, Fr, As, env, I, ha.mono env _ _ (fun ds e q vs H' Z' st I' r => by
    revert q
    split
    · rintro ⟨n, h1, q⟩
      match vs, r with
      | [_, _, _], .cons (.int i) (.cons (.int j) (.cons (.int c) .nil)) => exact ⟨_, _, _, n, rfl, h1, q _ _ _ st I' (itOk_rngC (C := ⟨X.K, tb⟩))⟩
    · exact fun q => q.elim) q⟩⟩
def liO : D → Option (List D)
  | .list ds => some ds
  | _ => none
def dEnm (w : DVs) : DI := fun env Q => w env fun ds e => match ds with
  | [.list ds] => Q (enD ds) e
  | _ => False
theorem si_enum {e : Expr} {p pos tpos : Pos} {elts : List Expr} {kk : Nat} {w : DVs} (hg : Gl X "enumerate") (hm : X.mg "enumerate" = none) (ha : SVs tb X [e] w) (hs : starEach [e] X.env = [(false, eval e X.env)] := by rfl) :
    SI tb X (.Tuple elts kk tpos) (.Call (.Name "enumerate" p) [e] [] pos) (dEnm w) :=
  ⟨fun env Q Q' k q => ha.mono env _ _ (fun ds e q => by
    revert q
    split
    · exact k _ _
    · exact id) q, (pi_enum hg hm ha.pe hs).imp fun σ H R ⟨Z, Fr, As, env, I, q⟩ => ⟨Z, Fr, As, env, I, ha.mono env _ _ (fun ds e q vs H' Z' st I' r => by
    revert q
    split
    · intro q
      match vs, r with
      | [_], .cons (.lst z h r) .nil => exact ⟨_, _, rfl, .inl (.inl h), q _ _ _ st I' (itOk_enum (C := ⟨X.K, tb⟩) z h r)⟩
    · exact fun q => q.elim) q⟩⟩
def dZip (w : DVs) : DI := fun env Q => w env fun ds e => match ds with
  | [.list ds, .list es] => Q (zipD ds es) e
  | [.tuple ds, .tuple es] => Q (zipD ds es) e
  | _ => False
theorem si_zip {e e2 : Expr} {p pos tpos : Pos} {elts : List Expr} {kk : Nat} {w : DVs} (hg : Gl X "zip") (hm : X.mg "zip" = none) (ha : SVs tb X [e, e2] w)
    (hs : starEach [e, e2] X.env = (false, eval e X.env) :: starEach [e2] X.env := by rfl) (hpl : (backTo pos (starEach [e2] X.env)).any (·.1) = false := by rfl) :
    SI tb X (.Tuple elts kk tpos) (.Call (.Name "zip" p) [e, e2] [] pos) (dZip w) :=
  ⟨fun env Q Q' k q => ha.mono env _ _ (fun ds e q => by
    revert q
    split
    · exact k _ _
    · exact k _ _
    · exact id) q, (RZ.pi_zipA hg hm ha.pe hs hpl).imp fun σ H R ⟨Z, Fr, As, env, I, q⟩ => ⟨Z, Fr, As, env, I, ha.mono env _ _ (fun ds e q vs H' Z' st I' r => by
    revert q
    split
    · intro q
      match vs, r with
      | [_, _], .cons (.lst z h r) (.cons (.lst z' h' r') .nil) => exact ⟨_, _, _, _, rfl, .inl ⟨.inl (.inl h), .inl (.inl h'), q _ _ _ st I' (itOk_zip (C := ⟨X.K, tb⟩) z h r z' h' r')⟩⟩
    · intro q
      match vs, r with
      | [_, _], .cons (.tup h r) (.cons (.tup h' r') .nil) => exact ⟨_, _, _, _, rfl, .inr ⟨h, h', q _ _ _ st I' (itOk_zipT (C := ⟨X.K, tb⟩) h r h' r')⟩⟩
    · exact fun q => q.elim) q⟩⟩
def dRev (w : DV) : DI := fun env Q => w env fun d e => need (seqD d) fun ds => Q ds.reverse e
theorem si_rev {e : Expr} {p pos : Pos} {w : DV} (hg : Gl X "reversed") (hm : X.mg "reversed" = none) (h : SV tb X e w) (hs : starEach [e] X.env = (false, eval e X.env) :: starEach [] X.env := by rfl) : SI tb X tg (.Call (.Name "reversed" p) [e] [] pos) (dRev w) :=
  ⟨fun env Q Q' k q => h.mono env _ _ (fun _ _ q => let ⟨_, e, q⟩ := need_out q; need_in e (k _ _ q)) q, (RT.pi_revA hg hm h.pe hs).imp fun σ H R ⟨Z, Fr, As, env, I, q⟩ =>
  ⟨Z, Fr, As, env, I, h.mono env _ _ (fun d e q v H' Z' st I' r => by
    obtain ⟨ds, ed, q⟩ := need_out q
    cases r with
    | lst z h r => cases ed; exact ⟨_, _, rfl, .inl ⟨.inl (.inl h), q _ _ _ st I' (itOk_rev (C := ⟨X.K, tb⟩) z h r)⟩⟩
    | tup h r => cases ed; exact ⟨_, _, rfl, .inr ⟨h, q _ _ _ st I' (itOk_revT (C := ⟨X.K, tb⟩) h r)⟩⟩
    | _ => cases ed) q⟩⟩

/-! ### for -/
def dForL (g : DG) (b : DS) : List D → En → DEnds → Prop
  | [], env, D => D.nx env
  | d :: ds, env, D => g (.val d) env fun e => b e { nx := fun e => dForL g b ds e D, ct := fun e => dForL g b ds e D, bk := D.nx, rt := D.rt }
theorem dForL_mono {g : DG} {b : DS} (mg : MonoT g) (mb : MonoS b) : ∀ ds, MonoS (dForL g b ds)
  | [] => fun _ _ _ l q => l.nx _ q
  | d :: ds => fun env A B l q => mg _ env _ _ (fun e q => mb e { nx := fun e => dForL g b ds e A, ct := fun e => dForL g b ds e A, bk := A.nx, rt := A.rt } _ ⟨fun e q => dForL_mono mg mb ds e _ _ l q, l.rt, l.nx, fun e q => dForL_mono mg mb ds e _ _ l q⟩ q) q
def dFor (wi : DI) (g : DG) (b : DS) : DS := fun env D => wi env fun ds e => dForL g b ds e D
/-- an item has come -/
theorem yld_env {C : Cfg} {Z Fr : Addr → Prop} {As : Nat → Addr} {σ : L2.St} {H H3 : Hp} {env : En} (I : EnvR C Z Fr As σ H env) (y : H3 = H ∨ ∃ p o, H p = none ∧ H3 = upd H p o) : EnvR C Z Fr As σ H3 env ∧ Step Z Fr H Z H3 := by
  rcases y with rfl | ⟨p, o, np, rfl⟩
  · exact ⟨I, Step.refl⟩
  · exact ⟨I.new np, Step.new I.ok np⟩
theorem ss_for {iter : Expr} {body : List Stmt} {wi : DI} {g : DG} {b : DS} {pos : Pos} (hp : PassesOwn (model X.prog X.w) X.A X.env X.xe) (hc : X.calm = true) (hi : SI tb X tg iter wi) (hg : SG tb X tg g) (hb : SSs tb X body b)
    (hs : ∀ x, foldedSetIterable iter X.env x = pure x := by intro _; rfl) : SS tb X (.For tg iter body [] pos) (dFor wi g b) :=
  ⟨fun env A B l q => hi.mono env _ _ (fun ds e q => dForL_mono hg.mono hb.mono ds e _ _ l q) q, (ps_for hp hc hi.pi hg.pg hb.ps hs).imp fun D σ H ⟨Z, Fr, As, env, I, q⟩ => by
    refine ⟨Z, Fr, As, env, I, hi.mono env _ _ (fun ds e q J H1 Z1 st1 I1 ok => ?_) q⟩
    refine ⟨fun i m σ2 H2 => i + m = ds.length ∧ ∃ Z2 env2, Step Z1 Fr H1 Z2 H2 ∧ EnvR ⟨X.K, tb⟩ Z2 Fr As σ2 H2 env2 ∧ dForL g b (ds.drop i) env2 (upE ⟨X.K, tb⟩ Z2 Fr As H2 D),
      ⟨ds.length, Nat.zero_add _, Z1, e, Step.refl, I1, dForL_mono hg.mono hb.mono ds e _ _ (upE_le st1) q⟩, ?_⟩
    rintro i m σ2 H2 ⟨im, Z2, env2, st2, I2, q2⟩
    obtain ⟨go, stop⟩ := ok Z2 H2 i st2 I2.ok
    by_cases hl : i < ds.length
    · refine .inr ?_
      have ed : ds[i]? = some ds[i] := List.getElem?_eq_getElem hl
      obtain ⟨go, yl⟩ := go _ ed
      rw [List.drop_eq_getElem_cons hl] at q2
      refine ⟨go, fun σ' H' => ∃ Z3 env3, Step Z1 Fr H1 Z3 H' ∧ EnvR ⟨X.K, tb⟩ Z3 Fr As σ' H' env3 ∧ dForL g b (ds.drop (i + 1)) env3 (upE ⟨X.K, tb⟩ Z3 Fr As H' D), fun σ' H' h => ⟨m - 1, by omega, by omega, h⟩, fun x H3 y => ?_⟩
      obtain ⟨y1, rx⟩ := yl x H3 y
      obtain ⟨I3, st3⟩ := yld_env I2 y1
      refine ⟨Z2, Fr, As, env2, .val ds[i], I3, rx, hg.mono _ env2 _ _ (fun e4 q4 σ4 H4 Z4 st4 I4 => ⟨Z4, Fr, As, e4, I4, hb.mono e4 _ _ ?_ q4⟩) q2⟩
      have lift : ∀ e5, dForL g b (ds.drop (i + 1)) e5 (upE ⟨X.K, tb⟩ Z2 Fr As H2 D) → ∀ σ' H' Z', Step Z4 Fr H4 Z' H' → EnvR ⟨X.K, tb⟩ Z' Fr As σ' H' e5 →
          ∃ Z3 env3, Step Z1 Fr H1 Z3 H' ∧ EnvR ⟨X.K, tb⟩ Z3 Fr As σ' H' env3 ∧ dForL g b (ds.drop (i + 1)) env3 (upE ⟨X.K, tb⟩ Z3 Fr As H' D) := fun e5 q5 σ' H' Z' st5 I5 =>
        ⟨Z', e5, ((st2.trans st3).trans st4).trans st5, I5, dForL_mono hg.mono hb.mono _ e5 _ _ (upE_le ((st3.trans st4).trans st5)) q5⟩
      exact ⟨lift, fun r e5 q5 v σ' H' Z' st5 I5 R5 => q5 v σ' H' Z' ((st3.trans st4).trans st5) I5 R5, fun e5 q5 σ' H' Z' st5 I5 => q5 σ' H' Z' ((st3.trans st4).trans st5) I5, lift⟩
    · refine .inl ⟨stop (by omega), ?_⟩
      rw [List.drop_eq_nil_of_le (by omega)] at q2
      exact q2 σ2 H2 Z2 Step.refl I2⟩

/-! ### while: by fuel -/
def dWhN (c : DT) (b : DS) : Nat → En → DEnds → Prop
  | 0, _, _ => False
  | n + 1, env, D => c env fun t e => if t = true then b e { nx := fun e => dWhN c b n e D, ct := fun e => dWhN c b n e D, bk := D.nx, rt := D.rt } else D.nx e
theorem dWhN_mono {c : DT} {b : DS} (mc : Mono c) (mb : MonoS b) : ∀ n, MonoS (dWhN c b n)
  | 0 => fun _ _ _ _ q => q
  | n + 1 => fun env A B l q => mc env _ _ (fun t e q => by
    cases t with
    | true => exact mb e { nx := fun e => dWhN c b n e A, ct := fun e => dWhN c b n e A, bk := A.nx, rt := A.rt } _ ⟨fun e q => dWhN_mono mc mb n e _ _ l q, l.rt, l.nx, fun e q => dWhN_mono mc mb n e _ _ l q⟩ q
    | false => exact l.nx _ q) q
def dWh (c : DT) (b : DS) : DS := fun env D => ∃ n, dWhN c b n env D
theorem ss_while {c : Expr} {body : List Stmt} {pos : Pos} {w : DT} {b : DS} (hp : PassesOwn (model X.prog X.w) X.A X.env X.xe) (hc : ST tb X c w) (hb : SSs tb X body b) : SS tb X (.While c body [] pos) (dWh w b) :=
  ⟨fun env A B l ⟨n, q⟩ => ⟨n, dWhN_mono hc.mono hb.mono n env _ _ l q⟩, (ps_while hp hc.pe hb.ps).imp fun D σ H ⟨Z, Fr, As, env, I, n, q⟩ => by
    refine ⟨fun m σ2 H2 => ∃ Z2 env2, Step Z Fr H Z2 H2 ∧ EnvR ⟨X.K, tb⟩ Z2 Fr As σ2 H2 env2 ∧ dWhN w b m env2 (upE ⟨X.K, tb⟩ Z2 Fr As H2 D), ⟨n, Z, env, Step.refl, I, q⟩, ?_⟩
    rintro m σ2 H2 ⟨Z2, env2, st2, I2, q2⟩
    cases m with
    | zero => exact q2.elim
    | succ m =>
      refine ⟨Z2, Fr, As, env2, I2, hc.mono env2 _ _ (fun t e3 q3 H3 Z3 st3 I3 => ?_) q2⟩
      cases t with
      | false => exact q3 σ2 H3 Z3 st3 I3
      | true =>
        refine ⟨fun σ' H' => ∃ Z4 env4, Step Z Fr H Z4 H' ∧ EnvR ⟨X.K, tb⟩ Z4 Fr As σ' H' env4 ∧ dWhN w b m env4 (upE ⟨X.K, tb⟩ Z4 Fr As H' D), fun σ' H' h => ⟨m, Nat.lt_succ_self _, h⟩, Z3, Fr, As, e3, I3, hb.mono e3 _ _ ?_ q3⟩
        have lift : ∀ e5, dWhN w b m e5 (upE ⟨X.K, tb⟩ Z2 Fr As H2 D) → ∀ σ' H' Z', Step Z3 Fr H3 Z' H' → EnvR ⟨X.K, tb⟩ Z' Fr As σ' H' e5 →
            ∃ Z4 env4, Step Z Fr H Z4 H' ∧ EnvR ⟨X.K, tb⟩ Z4 Fr As σ' H' env4 ∧ dWhN w b m env4 (upE ⟨X.K, tb⟩ Z4 Fr As H' D) := fun e5 q5 σ' H' Z' st5 I5 =>
          ⟨Z', e5, (st2.trans st3).trans st5, I5, dWhN_mono hc.mono hb.mono m e5 _ _ (upE_le (st3.trans st5)) q5⟩
        exact ⟨lift, fun r e5 q5 v σ' H' Z' st5 I5 R5 => q5 v σ' H' Z' (st3.trans st5) I5 R5, fun e5 q5 σ' H' Z' st5 I5 => q5 σ' H' Z' (st3.trans st5) I5, lift⟩⟩
end
end DV

set_option Elab.async false
set_option linter.all false
set_option maxRecDepth 100000
set_option maxHeartbeats 4000000
namespace DV
open PySem PySem.Spec PyProof.Rows L2

/-! ### the block of a comprehension -/
def wipeE : List Nat → En → En
  | [], env => env
  | v :: vs, env => (wipeE vs env).set v none
def keepS : Option Slot → Option Slot
  | some (.val d) => some (.val d)
  | some (.scr ns) => some (.scr ns)
  | _ => none
/-- the def's own variables of these names come back -/
def backE (e0 : En) : List Nat → En → En
  | [], env => env
  | v :: vs, env => (backE e0 vs env).set v (keepS (sl e0 v))
section
variable {C : Cfg} {Z Z' Fr Fr' : Addr → Prop} {As : Nat → Addr} {σ σ' : L2.St} {H H' : Hp} {env env' e0 : En}
theorem EnvR.unset {i : Nat} (I : EnvR C Z Fr As σ H env) : EnvR C Z Fr As (σ.set i none) H (env.set i none) where
  ok := I.ok
  len := by rw [List.length_set, List.length_set]; exact I.len
  slot := fun j w x h1 h2 => by
    rcases getElem?_set' h2 with ⟨_, h2, _⟩ | ⟨e, h2⟩
    · subst h2; exact True.intro
    · rw [List.getElem?_set_ne e] at h1
      exact I.slot j w x h1 h2
  apart := fun a j k h1 h2 => by
    have back : ∀ {j}, OwnAt (σ.set i none) (env.set i none) a j → OwnAt σ env a j := fun {j} ⟨g1, t, m, g2⟩ => by
      rcases getElem?_set' g2 with ⟨_, g2, _⟩ | ⟨e, g2⟩
      · cases g2
      · rw [List.getElem?_set_ne e] at g1
        exact ⟨g1, t, m, g2⟩
    exact I.apart a j k (back h1) (back h2)
theorem EnvR.wipe (I : EnvR C Z Fr As σ H env) : ∀ vs, EnvR C Z Fr As (L2.wipe σ vs) H (wipeE vs env)
  | [] => I
  | _ :: vs => (I.wipe vs).unset
theorem backE_length : ∀ vs, (backE e0 vs env).length = env.length
  | [] => rfl
  | v :: vs => by unfold backE; rw [List.length_set, backE_length vs]
theorem backE_in {i : Nat} {x : Option Slot} : ∀ {vs : List Nat}, (backE e0 vs env)[i]? = some x → (i ∈ vs ∧ x = keepS (sl e0 i)) ∨ (i ∉ vs ∧ env[i]? = some x)
  | [], h => .inr ⟨by simp, h⟩
  | v :: vs, h => by
    unfold backE at h
    rcases getElem?_set' h with ⟨e, h1, _⟩ | ⟨e, h1⟩
    · subst e; exact .inl ⟨by simp, h1⟩
    · rcases backE_in h1 with ⟨m, h⟩ | ⟨m, h⟩
      · exact .inl ⟨List.mem_cons_of_mem _ m, h⟩
      · exact .inr ⟨fun z => (List.mem_cons.mp z).elim (fun z => e z.symm) m, h⟩
/-- behind the block -/
theorem EnvR.back {vs : List Nat} (I0 : EnvR C Z Fr As σ H e0) (st : Step Z Fr H Z' H') (I : EnvR C Z' Fr As (L2.wipe σ vs) H' env) : EnvR C Z' Fr As σ H' (backE e0 vs env) where
  ok := I.ok
  len := by rw [backE_length, ← I.len, wipe_length]
  slot := fun j w x h1 h2 => by
    rcases backE_in h2 with ⟨m, e⟩ | ⟨m, h2⟩
    · subst e
      cases q : sl e0 j with
      | none => exact True.intro
      | some s =>
        have s0 := I0.slot j w _ h1 (sl_at q)
        cases s with
        | val d => obtain ⟨u, e, r⟩ := s0; exact ⟨u, e, r.step st⟩
        | scr ns => obtain ⟨a, e, r⟩ := s0; exact ⟨a, e, st.sqs r⟩
        | own t m => exact True.intro
    · exact I.slot j w x (by rw [wipe_out m]; exact h1) h2
  apart := fun a j k h1 h2 => by
    have go : ∀ {j}, OwnAt σ (backE e0 vs env) a j → OwnAt (L2.wipe σ vs) env a j := fun {j} ⟨g1, t, m, g2⟩ => by
      rcases backE_in g2 with ⟨mm, e⟩ | ⟨mm, g2⟩
      · cases q : sl e0 j with
        | none => rw [q] at e; cases e
        | some s => rw [q] at e; cases s <;> cases e
      · exact ⟨by rw [wipe_out mm]; exact g1, t, m, g2⟩
    exact I.apart a j k (go h1) (go h2)
/-- an object of a frame's is changed -/
theorem EnvR.updFr {p : Addr} {o o' : HO} (I : EnvR C Z (fun a => Fr a ∨ a = p) As σ H env) (h : H p = some o) (mu : Mut (some o)) : EnvR C Z (fun a => Fr a ∨ a = p) As σ (upd H p o') env ∧ ∀ {Fr2 : Addr → Prop}, (∀ a, Fr2 a → Fr a) → (∀ a, Fr2 a → a ≠ p) → Step Z Fr2 H Z (upd H p o') := by
  have hne : ∀ b u, H b = some u → ¬ Mut (some u) → b ≠ p := fun b u q nm y => by rw [y, h] at q; cases q; exact nm mu
  have nz : ¬ Z p := fun z => I.ok.zf p z (.inr rfl)
  have st : ∀ {Fr2 : Addr → Prop}, (∀ a, Fr2 a → Fr a) → (∀ a, Fr2 a → a ≠ p) → Step Z Fr2 H Z (upd H p o') := fun {Fr2} _ hf => by
    refine ⟨fun _ q => q, fun b q => upd_ne fun y => ?_, fun b vs q => by rw [upd_ne (hne b _ q fun y => y)]; exact q, fun b o u q => by rw [upd_ne (hne b _ q fun y => y)]; exact q, fun _ q _ => q, fun b q => ?_⟩
    · rw [y] at q
      exact q.elim nz fun f => hf p f rfl
    · by_cases y : b = p
      · rw [y, upd_same]; exact fun q => by cases q
      · rw [upd_ne y]; exact q
  refine ⟨⟨⟨fun b q => (st (Fr2 := fun _ => False) (fun _ q => q.elim) (fun _ q => q.elim)).non b (I.ok.z b q), fun b q => (st (Fr2 := fun _ => False) (fun _ q => q.elim) (fun _ q => q.elim)).non b (I.ok.f b q), I.ok.zf, fun P hP => ?_, I.ok.nz⟩, I.len, fun j w x g1 g2 => ?_, I.apart⟩, st⟩
  · obtain ⟨ps, q, y⟩ := I.ok.tab P hP
    exact ⟨ps, by rw [upd_ne (hne P _ q fun y => y)]; exact q, y⟩
  · have s := I.slot j w x g1 g2
    have st' := st (Fr2 := fun _ => False) (fun _ q => q.elim) (fun _ q => q.elim)
    rcases x with _ | ⟨d | ⟨t2, m2⟩ | ns⟩
    · exact True.intro
    · obtain ⟨u, q, y⟩ := s
      exact ⟨u, q, y.step st'⟩
    · obtain ⟨b, q, y, z2, f2, k2⟩ := s
      exact ⟨b, q, y.step st' (upd_ne fun e => f2 (.inr e)), z2, f2, k2⟩
    · obtain ⟨u, q, y⟩ := s
      exact ⟨u, q, st'.sqs y⟩
end

/-! ### targets that touch the block's names alone -/
def tGW (C : Cfg) (vs : List Nat) (g : DG) : TG := fun v σ H Q => ∃ Z Fr As env r, EnvR C Z Fr As σ H env ∧ ResR C Z Fr σ env H v r ∧ g r env fun e => ∀ σ' H' Z', Step Z Fr H Z' H' → EnvR C Z' Fr As σ' H' e → wipe σ' vs = wipe σ vs → Q σ' H'
structure SGb (vs : List Nat) (tb : List Addr) (X : Cx) (e : Expr) (g : DG) : Prop where
  mono : MonoT g
  pg : PG X e (tGW ⟨X.K, tb⟩ vs g)
def tGsW (C : Cfg) (vs : List Nat) (g : DGs) : TGs := fun us σ H Q => ∃ Z Fr As env ds, EnvR C Z Fr As σ H env ∧ Rps C.K Z H us ds ∧ g ds env fun e => ∀ σ' H' Z', Step Z Fr H Z' H' → EnvR C Z' Fr As σ' H' e → wipe σ' vs = wipe σ vs → Q σ' H'
structure SGbs (vs : List Nat) (tb : List Addr) (X : Cx) (es : List Expr) (g : DGs) : Prop where
  mono : MonoTs g
  pg : PGs X es (tGsW ⟨X.K, tb⟩ vs g)
theorem wipe_set {σ : L2.St} {i : Nat} {v : Option V} : ∀ {vs : List Nat}, i ∈ vs → wipe (σ.set i v) vs = wipe σ vs
  | [], h => by simp at h
  | j :: vs, h => by
    unfold wipe
    by_cases hm : i ∈ vs
    · rw [wipe_set hm]
    · have e : i = j := (List.mem_cons.mp h).elim id fun z => absurd z hm
      subst e
      apply List.ext_getElem?
      intro k
      by_cases hk : i = k
      · subst hk
        rw [List.getElem?_set, List.getElem?_set]
        simp only [if_true, wipe_length, List.length_set]
      · rw [List.getElem?_set_ne hk, List.getElem?_set_ne hk]
        by_cases hv : k ∈ vs
        · have : ∀ (σ1 σ2 : L2.St) (us : List Nat), σ1.length = σ2.length → k ∈ us → (wipe σ1 us)[k]? = (wipe σ2 us)[k]? := by
            intro σ1 σ2 us hl
            induction us with
            | nil => intro h; simp at h
            | cons u us ih =>
              intro h
              unfold wipe
              by_cases hu : u = k
              · subst hu
                rw [List.getElem?_set, List.getElem?_set, wipe_length, wipe_length, hl]
                simp only [if_true]
              · rw [List.getElem?_set_ne hu, List.getElem?_set_ne hu]
                exact ih ((List.mem_cons.mp h).elim (fun z => absurd z.symm hu) id)
          exact this _ _ _ (by rw [List.length_set]) hv
        · rw [wipe_out hv, wipe_out hv, List.getElem?_set_ne hk]
section
variable {vs : List Nat} {tb : List Addr} {X : Cx}
theorem sgb_name (i : Nat) {x : Str} {pos : Pos} (hN : X.N.Nodup) (hm : i ∈ vs := by decide) (hi : X.N[i]? = some x := by rfl) (hx : Loc X.env.scope x := by first | exact Or.inl rfl | exact Or.inr rfl) (hf : X.fn x = true ∨ X.env.scope.names.lookup x = some .local := by first | exact .inl rfl | exact .inr rfl) : SGb vs tb X (.Name x pos) (gNm i) :=
  ⟨fun _ _ _ _ k q => k _ q, (pg_name hN hi hx hf).imp fun v σ H Q ⟨Z, Fr, As, env, r, I, R, q⟩ => q _ H Z Step.refl (I.setRes R) (wipe_set hm)⟩
theorem sgbs_nil : SGbs vs tb X [] gNil' := ⟨fun ds _ _ _ k q => by
    cases ds with
    | nil => exact k _ q
    | cons _ _ => exact q, pgs_nil.imp fun us σ H Q ⟨Z, Fr, As, env, ds, I, R, q⟩ => by
    cases R with
    | nil => exact ⟨rfl, q σ H Z Step.refl I rfl⟩
    | cons _ _ => exact q.elim⟩
theorem sgbs_cons {e : Expr} {es : List Expr} {g : DG} {gs : DGs} (h : SGb vs tb X e g) (hs : SGbs vs tb X es gs) (ha : (assignEach (e :: es) X.env).map (·.2) = assign e X.env :: (assignEach es X.env).map (·.2) := by rfl) : SGbs vs tb X (e :: es) (gCons' g gs) :=
  ⟨fun ds env Q Q' k q => by
    cases ds with
    | nil => exact q
    | cons d ds => exact h.mono _ env _ _ (fun e q => hs.mono _ e _ _ k q) q, (pgs_cons h.pg hs.pg ha).imp fun us σ H Q ⟨Z, Fr, As, env, ds, I, R, q⟩ => by
    cases R with
    | nil => exact q.elim
    | cons r rs =>
      exact ⟨_, _, rfl, Z, Fr, As, env, .val _, I, r, h.mono _ env _ _ (fun e q σ' H' Z' st I' hw => ⟨Z', Fr, As, e, _, I', rs.step st, hs.mono _ e _ _ (fun e q σ2 H2 Z2 st2 I2 hw2 => q σ2 H2 Z2 (st.trans st2) I2 (hw2.trans hw)) q⟩) q⟩⟩
theorem sgb_tup {es : List Expr} {k : Nat} {pos : Pos} {gs : DGs} {n : Nat} (hc : X.calm = true) (h : SGbs vs tb X es gs) (hn : (assignEach es X.env).length = n := by rfl) (hst : (assignEach es X.env).findIdx? (·.1) = none := by rfl) : SGb vs tb X (.Tuple es k pos) (gTp n gs) :=
  ⟨fun r env Q Q' k q => let ⟨_, e, l, q⟩ := need_out q; need_in e ⟨l, h.mono _ env _ _ k q⟩, (pg_tup hc h.pg hn hst).imp fun v σ H Q ⟨Z, Fr, As, env, r, I, R, q⟩ => by
    obtain ⟨ds, e, l, p⟩ := need_out q
    clear q
    unfold tuO at e
    split at e
    · cases e
      cases R with
      | tup hq rs => exact ⟨_, _, rfl, hq, by rw [rs.length]; exact l, Z, Fr, As, env, _, I, rs, p⟩
    · cases e⟩
structure STs (tb : List Addr) (X : Cx) (es : List Expr) (w : DT) : Prop where
  mono : Mono w
  pt : PTs X es (tT ⟨X.K, tb⟩ w)
theorem _root_.L2.PTs.imp {X : Cx} {e : List Expr} {t t' : TT} (h : PTs X e t) (i : ∀ σ H Q, t' σ H Q → t σ H Q) : PTs X e t' := ⟨fun pins s σ H Q I q => h.run pins s σ H Q I (i σ H Q q)⟩
def dYes : DT := fun env Q => Q true env
theorem sts_nil : STs tb X [] dYes := ⟨fun _ _ _ k q => k _ _ q, pts_nil.imp fun σ H Q ⟨Z, Fr, As, env, I, q⟩ => q H Z Step.refl I⟩
theorem sts_one {c : Expr} {w : DT} (h : ST tb X c w) : STs tb X [c] w := ⟨h.mono, pts_one h.pe⟩

/-! ### [elt for tg in iter if ..] -/
def dLcL (g : DG) (t : DT) (w : DV) (vs : List Nat) : List D → En → (List D → En → Prop) → Prop
  | [], env, Q => Q [] env
  | d :: ds, env, Q => g (.val d) (wipeE vs env) fun e1 => t e1 fun b e2 => if b = true then w e2 fun y e3 => dLcL g t w vs ds e3 fun ys e => Q (y :: ys) e else dLcL g t w vs ds e2 Q
theorem dLcL_mono {g : DG} {t : DT} {w : DV} {vs : List Nat} (mg : MonoT g) (mt : Mono t) (mw : Mono w) : ∀ ds env Q Q', (∀ r e, Q r e → Q' r e) → dLcL g t w vs ds env Q → dLcL g t w vs ds env Q'
  | [], _, _, _, k, q => k _ _ q
  | d :: ds, env, Q, Q', k, q => mg _ _ _ _ (fun e1 q => mt e1 _ _ (fun b e2 q => by
    cases b with
    | true => exact mw e2 _ _ (fun y e3 q => dLcL_mono mg mt mw ds e3 _ _ (fun _ _ => k _ _) q) q
    | false => exact dLcL_mono mg mt mw ds e2 _ _ k q) q) q
def dLc (wi : DI) (g : DG) (t : DT) (w : DV) (vs : List Nat) : DE := fun env Q => wi env fun ds e => ds.length ≤ sizeLine ∧ dLcL g t w vs ds (wipeE vs e) fun ys e' => Q (.own none (.lst ys)) (backE e vs (wipeE vs e'))
theorem dLc_mono {wi : DI} {g : DG} {t : DT} {w : DV} {vs : List Nat} (mi : Mono wi) (mg : MonoT g) (mt : Mono t) (mw : Mono w) : Mono (dLc wi g t w vs) := fun env Q Q' k q =>
  mi env _ _ (fun ds e ⟨l, q⟩ => ⟨l, dLcL_mono mg mt mw ds _ _ _ (fun _ _ => k _ _) q⟩) q
theorem lc_lift {C : Cfg} {wi : DI} {g : DG} {t : DT} {w : DV} {vs : List Nat} (mi : Mono wi) (mg : MonoT g) (mt : Mono t) (mw : Mono w) : ∀ σ H Q, tE C (dLc wi g t w vs) σ H Q → tLc (tI C wi) (tGW C vs g) (tT C t) (tV C w) vs σ H Q := fun σ H Q ⟨Z, Fr, As, env, I, q⟩ => by
  refine ⟨Z, Fr, As, env, I, mi env _ _ (fun ds e1 ⟨hl, q⟩ J H1 Z1 st1 I1 ok p np => ?_) q⟩
  have nb := I1.nobody np
  -- the frame with the new list
  have I1n : EnvR C Z1 Fr As σ (upd H1 p (.lst [])) e1 := I1.new np
  have stn : Step Z1 Fr H1 Z1 (upd H1 p (.lst [])) := Step.new I1.ok np
  have I1p : EnvR C Z1 (fun a => Fr a ∨ a = p) As σ (upd H1 p (.lst [])) e1 := by
    have R : ResR C Z1 Fr σ e1 (upd H1 p (.lst [])) (.ref p) (.own none (.lst [])) := resNew I1 np fun st2 e => ⟨[], e, .nil⟩
    exact (I1n.prot R).weak fun a h => h.imp id fun e => ⟨by rw [e], none, _, rfl⟩
  refine ⟨fun i m H2 => i + m = ds.length ∧ ∃ Z2 env2 acc ys, Step Z1 Fr H1 Z2 H2 ∧ (∀ a, Z2 a → a ≠ p) ∧ EnvR C Z2 (fun a => Fr a ∨ a = p) As (wipe σ vs) H2 (wipeE vs env2) ∧ H2 p = some (.lst acc) ∧ Rps C.K Z2 H2 acc ys ∧ ys.length + m ≤ sizeLine ∧
      dLcL g t w vs (ds.drop i) env2 fun ys' e' => ∀ v H' Z', Step Z2 Fr H2 Z' H' → EnvR C Z' Fr As σ H' (backE e1 vs (wipeE vs e')) → ResR C Z' Fr σ (backE e1 vs (wipeE vs e')) H' v (.own none (.lst (ys ++ ys'))) → Q v H',
    ⟨ds.length, Nat.zero_add _, Z1, wipeE vs e1, [], [], stn, fun a z e => nb.1 (by rw [← e]; exact z), ?_, upd_same, .nil, by simpa using hl, ?_⟩, ?_⟩
  · have := (I1p.wipe vs)
    have h2 := this.wipe vs
    have ew : wipe (wipe σ vs) vs = wipe σ vs := by
      have : ∀ us : List Nat, (∀ u ∈ us, u ∈ vs) → wipe (wipe σ us) vs = wipe σ vs := by
        intro us
        induction us with
        | nil => intro _; rfl
        | cons u us ih =>
          intro h
          show wipe ((wipe σ us).set u none) vs = _
          rw [wipe_set (h u (by simp)), ih fun x hx => h x (by simp [hx])]
      exact this vs fun _ h => h
    rw [ew] at h2
    exact h2
  · refine dLcL_mono mg mt mw ds _ _ _ (fun ys' e' q v H' Z' st I' R => q v H' Z' ((st1.trans stn).trans st) I' R) q
  · rintro i m H2 ⟨im, Z2, env2, acc, ys, st2, zp, I2, hp, ra, hy, q2⟩
    have okp : Ok C Z2 Fr H2 := (I2.weak (fun a h => .inl h)).ok
    obtain ⟨go, stop⟩ := ok Z2 H2 i st2 okp
    by_cases hlt : i < ds.length
    · refine .inr ?_
      have ed : ds[i]? = some ds[i] := List.getElem?_eq_getElem hlt
      obtain ⟨go, yl⟩ := go _ ed
      rw [List.drop_eq_getElem_cons hlt] at q2
      refine ⟨go, fun H' => ∃ Z2 env2 acc ys, Step Z1 Fr H1 Z2 H' ∧ (∀ a, Z2 a → a ≠ p) ∧ EnvR C Z2 (fun a => Fr a ∨ a = p) As (wipe σ vs) H' (wipeE vs env2) ∧ H' p = some (.lst acc) ∧ Rps C.K Z2 H' acc ys ∧ ys.length + (m - 1) ≤ sizeLine ∧
        dLcL g t w vs (ds.drop (i + 1)) env2 fun ys' e' => ∀ v H'' Z', Step Z2 Fr H' Z' H'' → EnvR C Z' Fr As σ H'' (backE e1 vs (wipeE vs e')) → ResR C Z' Fr σ (backE e1 vs (wipeE vs e')) H'' v (.own none (.lst (ys ++ ys'))) → Q v H'', fun H' h => ⟨m - 1, by omega, by omega, h⟩, fun x H3 y => ?_⟩
      obtain ⟨y1, rx⟩ := yl x H3 y
      obtain ⟨I3, st3⟩ := yld_env I2 y1
      have wk : ∀ a, Fr a → Fr a ∨ a = p := fun a => .inl
      refine ⟨Z2, _, As, wipeE vs env2, .val ds[i], I3, rx, mg _ _ _ _ (fun e4 q4 σ4 H4 Z4 st4 I4 hw4 => ?_) q2⟩
      refine ⟨hw4.trans ?_, Z4, _, As, e4, I4, mt e4 _ _ (fun b e5 q5 H5 Z5 st5 I5 => ?_) q4⟩
      · have : ∀ us : List Nat, (∀ u ∈ us, u ∈ vs) → wipe (wipe σ us) vs = wipe σ vs := by
          intro us
          induction us with
          | nil => intro _; rfl
          | cons u us ih =>
            intro h
            show wipe ((wipe σ us).set u none) vs = _
            rw [wipe_set (h u (by simp)), ih fun x hx => h x (by simp [hx])]
        exact this vs fun _ h => h
      have hw5 : wipe σ4 vs = wipe σ vs := by
        refine hw4.trans ?_
        have : ∀ us : List Nat, (∀ u ∈ us, u ∈ vs) → wipe (wipe σ us) vs = wipe σ vs := by
          intro us
          induction us with
          | nil => intro _; rfl
          | cons u us ih =>
            intro h
            show wipe ((wipe σ us).set u none) vs = _
            rw [wipe_set (h u (by simp)), ih fun x hx => h x (by simp [hx])]
        exact this vs fun _ h => h
      have st25 : Step Z2 (fun a => Fr a ∨ a = p) H2 Z5 H5 := (st3.trans st4).trans st5
      cases b with
      | false =>
        simp only [Bool.false_eq_true, if_false] at q5 ⊢
        have I6 := I5.wipe vs
        rw [hw5] at I6
        refine ⟨Z5, e5, acc, ys, st2.trans (st25.weak wk), fun a z e => zp a (st25.fr a z (.inr e)) e, I6, (st25.keep p (.inr (.inr rfl))).trans hp, ra.step st25, by omega, ?_⟩
        exact dLcL_mono mg mt mw _ _ _ _ (fun ys' e' q v H' Z' st I' R => q v H' Z' ((st25.weak wk).trans st) I' R) q5
      | true =>
        simp only [if_true] at q5 ⊢
        refine ⟨Z5, _, As, e5, I5, mw e5 _ _ (fun y e6 q6 yv H6 Z6 st6 I6 ry => ?_) q5⟩
        have st26 : Step Z2 (fun a => Fr a ∨ a = p) H2 Z6 H6 := st25.trans st6
        have hp6 : H6 p = some (.lst acc) := (st26.keep p (.inr (.inr rfl))).trans hp
        have hlen := (ra.step st26).length
        obtain ⟨I7, st7⟩ := I6.updFr (o' := .lst (acc ++ [yv])) hp6 True.intro
        have st7' : Step Z6 Fr H6 Z6 (upd H6 p (.lst (acc ++ [yv]))) := st7 (fun _ h => h) fun a f e => by
          obtain ⟨_, hf, _⟩ := I.nobody (p := p) (H := H) (by
            by_cases hn : H p = none
            · exact hn
            · exact absurd np (st1.non p hn))
          exact hf (by rw [← e]; exact f)
        have I8 := I7.wipe vs
        rw [hw5] at I8
        refine ⟨acc, hp6, by omega, Z6, e6, acc ++ [yv], ys ++ [y], (st2.trans (st26.weak wk)).trans st7', fun a z e => zp a (st26.fr a z (.inr e)) e, I8, upd_same, ((ra.step st26).app (.cons ry .nil)).step st7', by rw [List.length_append]; simp only [List.length_cons, List.length_nil]; omega, ?_⟩
        refine dLcL_mono mg mt mw _ _ _ _ (fun ys' e' q v H' Z' st I' R => ?_) q6
        rw [List.append_assoc] at R
        exact q v H' Z' (((st26.weak wk).trans st7').trans st) I' R
    · refine .inl ⟨stop (by omega), ?_⟩
      rw [List.drop_eq_nil_of_le (by omega)] at q2
      have Ib : EnvR C Z2 (fun a => Fr a ∨ a = p) As σ H2 (backE e1 vs (wipeE vs env2)) := by
        refine (I1.back (st2) (vs := vs) (env := wipeE vs env2) (I2.weak fun a h => .inl h)) |> fun B => ?_
        refine ⟨⟨I2.ok.z, I2.ok.f, I2.ok.zf, I2.ok.tab, I2.ok.nz⟩, B.len, fun j u x g1 g2 => ?_, B.apart⟩
        have s := B.slot j u x g1 g2
        rcases x with _ | ⟨d | ⟨t2, m2⟩ | ns⟩
        · exact True.intro
        · exact s
        · obtain ⟨b, q, y, z2, f2, k2⟩ := s
          rcases backE_in g2 with ⟨mm, e⟩ | ⟨mm, g2⟩
          · cases q' : sl e1 j with
            | none => rw [q'] at e; cases e
            | some s => rw [q'] at e; cases s <;> cases e
          · obtain ⟨b', q', _, _, f', _⟩ := I2.slot j u _ (by rw [wipe_out mm]; exact g1) g2
            rw [q] at q'
            cases q'
            exact ⟨b, q, y, z2, f', k2⟩
        · exact s
      refine q2 (.ref p) H2 Z2 Step.refl (Ib.weak fun a h => .inl h) ⟨rfl, p, rfl, ⟨acc, hp, by rw [List.append_nil]; exact ra⟩, fun z => zp p z rfl, fun f => ?_, fun k ⟨h1, t2, m2, h2⟩ => ?_⟩
      · obtain ⟨_, hf, _⟩ := I1.nobody np
        exact hf f
      · obtain ⟨b, e, _, _, nf, _⟩ := Ib.slot k _ _ h1 h2
        cases e
        exact nf (.inr rfl)
theorem se_lc {elt tg iter : Expr} {ifs : List Expr} {scope : Scope} (own : List (Str × Nat)) {pos : Pos} {wi : DI} {g : DG} {t : DT} {w : DV} (hc : X.calm = true) (hN : X.N.Nodup) (hi : SI tb X tg iter wi) (ok : BlkOk X.N X.env.scope scope own)
    (hg : ∀ (s : Shared) (H : Hp) (C : Addr) (cl : List (Str × Addr)) (fp : List Addr), SGb (own.map (·.2)) tb (X.blk s H scope (compEnvC scope cl C X.env) fp) tg g) (ht : ∀ (s : Shared) (H : Hp) (C : Addr) (cl : List (Str × Addr)) (fp : List Addr), STs tb (X.blk s H scope (compEnvC scope cl C X.env) fp) ifs t)
    (he : ∀ (s : Shared) (H : Hp) (C : Addr) (cl : List (Str × Addr)) (fp : List Addr), SV tb (X.blk s H scope (compEnvC scope cl C X.env) fp) elt w) (hs : ∀ x, foldedSetIterable iter X.env x = pure x := by intro _; rfl) :
    SE tb X (.ListComp elt [⟨tg, iter, ifs, 0⟩] scope pos) (dLc wi g t w (own.map (·.2))) :=
  have s0 : Shared := X.s_0
  have mg := (hg s0 (fun _ => none) 0 [] []).mono
  have mt := (ht s0 (fun _ => none) 0 [] []).mono
  have mw := (he s0 (fun _ => none) 0 [] []).mono
  ⟨dLc_mono hi.mono mg mt mw, (pe_lc hc hN hi.pi ok (fun s H C cl fp => (hg s H C cl fp).pg) (fun s H C cl fp => (ht s H C cl fp).pt) (fun s H C cl fp => (he s H C cl fp).pe) hs).imp (lc_lift (C := ⟨X.K, tb⟩) hi.mono mg mt mw)⟩
theorem ss_setLc (i : Nat) {y : Str} {py : Pos} {elt tg iter : Expr} {ifs : List Expr} {scope : Scope} (own : List (Str × Nat)) {pos spos : Pos} {wi : DI} {g : DG} {t : DT} {w : DV} (hc : X.calm = true) (hN : X.N.Nodup) (hi : SI tb X tg iter wi) (ok : BlkOk X.N X.env.scope scope own)
    (hg : ∀ (s : Shared) (H : Hp) (C : Addr) (cl : List (Str × Addr)) (fp : List Addr), SGb (own.map (·.2)) tb (X.blk s H scope (compEnvC scope cl C X.env) fp) tg g) (ht : ∀ (s : Shared) (H : Hp) (C : Addr) (cl : List (Str × Addr)) (fp : List Addr), STs tb (X.blk s H scope (compEnvC scope cl C X.env) fp) ifs t)
    (he : ∀ (s : Shared) (H : Hp) (C : Addr) (cl : List (Str × Addr)) (fp : List Addr), SV tb (X.blk s H scope (compEnvC scope cl C X.env) fp) elt w)
    (hsw : swapsWith (.ListComp elt [⟨tg, iter, ifs, 0⟩] scope pos) (some (.Name y py)) spos.line X.env = pure true) (hy : X.N[i]? = some y := by rfl) (hyl : X.env.scope.names.lookup y = some .local := by rfl) (hs : ∀ x, foldedSetIterable iter X.env x = pure x := by intro _; rfl) :
    SS tb X (.Assign [.Name y py] (.ListComp elt [⟨tg, iter, ifs, 0⟩] scope pos) spos) (dAsg (dLc wi g t w (own.map (·.2))) (gNm i)) :=
  have s0 : Shared := X.s_0
  have mg := (hg s0 (fun _ => none) 0 [] []).mono
  have mt := (ht s0 (fun _ => none) 0 [] []).mono
  have mw := (he s0 (fun _ => none) 0 [] []).mono
  have M : Mono (dLc wi g t w (own.map (·.2))) := dLc_mono hi.mono mg mt mw
  ⟨dAsg_mono M fun _ _ _ _ k q => k _ q, (ps_setLc hc hN hy hyl hsw hi.pi ok (fun s H C cl fp => (hg s H C cl fp).pg) (fun s H C cl fp => (ht s H C cl fp).pt) (fun s H C cl fp => (he s H C cl fp).pe) hs).imp fun D σ H ⟨Z, Fr, As, env, I, q⟩ =>
    lc_lift (C := ⟨X.K, tb⟩) hi.mono mg mt mw σ H _ ⟨Z, Fr, As, env, I, M env (fun r e => (upE ⟨X.K, tb⟩ Z Fr As H D).nx (e.set i (some r))) _ (fun r e q v H' Z' st I' R => q _ _ _ st (I'.setRes R)) q⟩⟩
end
end DV

set_option Elab.async false
set_option linter.all false
set_option maxRecDepth 100000
set_option maxHeartbeats 4000000
namespace DV
open PySem PySem.Spec PyProof.Rows L2

/-! ### calls of builtins -/
def consO (e : En) : List Opd → Option (List Slot)
  | [] => some []
  | o :: os => match con e o, consO e os with
    | some s, some ss => some (s :: ss)
    | _, _ => none
def CRs (C : Cfg) (Z : Addr → Prop) (H : Hp) : List V → List Slot → Prop
  | [], [] => True
  | v :: vs, s :: ss => CR C Z H v s ∧ CRs C Z H vs ss
  | _, _ => False
theorem OpdRs.crs {C : Cfg} {Z : Addr → Prop} {As : Nat → Addr} {σ : L2.St} {H : Hp} {e : En} : ∀ {vs : List V} {os : List Opd} {Fr : Addr → Prop} {ss : List Slot}, EnvR C Z Fr As σ H e → OpdRs C Z σ e H Fr vs os → consO e os = some ss → CRs C Z H vs ss
  | [], [], Fr, ss, I, R, h => by cases h; exact True.intro
  | v :: vs, o :: os, Fr, ss, I, R, h => by
    unfold consO at h
    split at h
    · rename_i s ss' h1 h2
      cases h
      exact ⟨R.1.cr I h1, OpdRs.crs (R.1.prot I) R.2 h2⟩
    · cases h
abbrev GC := List Slot → (Slot → Prop) → Prop
def MonoC (G : GC) : Prop := ∀ ss R R', (∀ r, R r → R' r) → G ss R → G ss R'
def SemC (C : Cfg) (r : List V → Hp → VK → Prop) (G : GC) : Prop := ∀ (Z Fr : Addr → Prop) (As : Nat → Addr) (σ : L2.St) (env : En) (H : Hp) (vs : List V) (ss : List Slot) (R : Slot → Prop) (Q : VK), EnvR C Z Fr As σ H env → CRs C Z H vs ss → G ss R →
  (∀ v H' Z' r', R r' → Step Z Fr H Z' H' → EnvR C Z' Fr As σ H' env → ResR C Z' Fr σ env H' v r' → Q v H') → r vs H Q
def dCB (G : GC) (ws : DOs) : DE := fun env Q => ws env fun os e => need (consO e os) fun ss => G ss fun r => Q r e
theorem dCB_mono {G : GC} {ws : DOs} (mG : MonoC G) (m : Mono ws) : Mono (dCB G ws) := fun env Q Q' k q => m env _ _ (fun os e q => let ⟨_, c, q⟩ := need_out q; need_in c (mG _ _ _ (fun _ => k _ _) q)) q
theorem cb_lift {C : Cfg} {r : List V → Hp → VK → Prop} {G : GC} {ws : DOs} (m : Mono ws) (hs : SemC C r G) : ∀ σ H Q, tE C (dCB G ws) σ H Q → tCB r (tOs C ws) σ H Q := fun σ H Q ⟨Z, Fr, As, env, I, q⟩ =>
  ⟨Z, Fr, As, env, I, m env _ _ (fun os e q vs H' Z' st I' R => by
    obtain ⟨ss, c, q⟩ := need_out q
    exact hs Z' Fr As σ e H' vs ss _ _ I' (R.crs I' c) q fun v H2 Z2 r' q st2 I2 R2 => q v H2 Z2 (st.trans st2) I2 R2) q⟩
section
variable {tb : List Addr} {X : Cx}
theorem se_blt {x : Str} {p pos : Pos} {e : Expr} {es : List Expr} {ws : DOs} {id : String} {r : List V → Hp → VK → Prop} {G : GC} (hc : CallR X (.builtin id) r) (hs : SemC ⟨X.K, tb⟩ r G) (mG : MonoC G) (hv : bootBuiltins x = some (.builtin id)) (hm : X.mg x = none) (ha : SOs tb X (e :: es) ws)
    (hg : Gl X x := by rfl) (hn : x ≠ "__name__" := by decide) (hdb : (x == ("__debug__" : Str)) = false := by decide)
    (he : starEach (e :: es) X.env = (false, eval e X.env) :: starEach es X.env := by rfl) (hpl : (backTo pos (starEach es X.env)).any (·.1) = false := by rfl) : SE tb X (.Call (.Name x p) (e :: es) [] pos) (dCB G ws) :=
  ⟨dCB_mono mG ha.mono, (pe_callB hc hg hm hv ha.pe hn hdb he hpl).imp (cb_lift ha.mono hs)⟩
theorem se_ty {x : Str} {p pos : Pos} {e : Expr} {es : List Expr} {ws : DOs} {T : String} {r : List V → Hp → VK → Prop} {G : GC} (hc : CallR X (.type T) r) (hs : SemC ⟨X.K, tb⟩ r G) (mG : MonoC G) (hv : bootBuiltins x = some (.type T)) (hm : X.mg x = none) (ha : SOs tb X (e :: es) ws)
    (hg : Gl X x := by rfl) (hn : x ≠ "__name__" := by decide) (hdb : (x == ("__debug__" : Str)) = false := by decide)
    (he : starEach (e :: es) X.env = (false, eval e X.env) :: starEach es X.env := by rfl) (hpl : (backTo pos (starEach es X.env)).any (·.1) = false := by rfl) : SE tb X (.Call (.Name x p) (e :: es) [] pos) (dCB G ws) :=
  ⟨dCB_mono mG ha.mono, (pe_callTy hc hg hm hv ha.pe hn hdb he hpl).imp (cb_lift ha.mono hs)⟩
end

/-! len -/
def lenO : Slot → Option Nat
  | .own _ (.dK kvs) => some kvs.length
  | .own _ (.dT kvs) => some kvs.length
  | s => (sqO s).map List.length
theorem KVR.length {K : Frag} {Z : Addr → Prop} {H : Hp} {κ : Type} {l : List (κ × V)} {m : List (κ × D)} (h : KVR K Z H l m) : l.length = m.length := by
  induction h with
  | nil => rfl
  | cons _ _ ih => exact congrArg (· + 1) ih
def gLen : GC := fun ss R => match ss with
  | [s] => need (lenO s) fun n => R (.val (.int (n : Nat)))
  | _ => False
theorem gLen_mono : MonoC gLen := fun ss R R' k => by
  unfold gLen
  split
  · intro h
    obtain ⟨n, e, q⟩ := need_out h
    exact need_in e (k _ q)
  · exact id
def rLenU (K : Frag) : List V → Hp → VK → Prop := fun xs H Q => ((∃ p ys, xs = [.ref p] ∧ (SqL K H p ys ∨ SqT K H p ys) ∧ Q (.int ys.length) H) ∨ (∃ a kvs, xs = [V.ref a] ∧ H a = some (.dK kvs) ∧ Q (.int kvs.length) H)) ∨ rLenT xs H Q
theorem call_lenU {X : Cx} : CallR X (.builtin "len") (rLenU X.K) := (call_len_seq.or call_lenD).or call_len_dT
theorem sem_len {C : Cfg} : SemC C (rLenU C.K) gLen := fun Z Fr As σ env H vs ss R Q I c q k => by
  unfold gLen at q
  split at q
  · rename_i s
    obtain ⟨n, e, q⟩ := need_out q
    match vs, c with
    | [v], ⟨c, _⟩ =>
      have sq : (sqO s).map List.length = some n → rLenU C.K [v] H Q := fun e => by
        obtain ⟨ds, e1, e2⟩ := Option.map_eq_some_iff.mp e
        obtain ⟨a, us, rfl, h, r⟩ := c.sq e1
        refine .inl (.inl ⟨a, us, rfl, h, ?_⟩)
        rw [r.length, e2]
        exact k _ _ _ _ q Step.refl I (Rp.int _)
      unfold lenO at e
      split at e
      · cases e
        obtain ⟨a, rfl, l, h, r⟩ := c
        refine .inl (.inr ⟨a, l, rfl, h, ?_⟩)
        rw [r.length]
        exact k _ _ _ _ q Step.refl I (Rp.int _)
      · cases e
        obtain ⟨a, rfl, l, h, r⟩ := c
        refine .inr ⟨a, l, rfl, h, ?_⟩
        rw [r.length]
        exact k _ _ _ _ q Step.refl I (Rp.int _)
      · exact sq e
  · exact q.elim
/-! int, tuple, list, min, max -/
def gIntC : GC := fun ss R => match ss with
  | [.val (.int i)] => R (.val (.int i))
  | [.val (.bool b)] => R (.val (.int (if b then 1 else 0)))
  | _ => False
theorem gIntC_mono : MonoC gIntC := fun ss R R' k => by
  unfold gIntC
  split
  · exact k _
  · exact k _
  · exact id
theorem sem_int {C : Cfg} : SemC C (fun xs H Q => (∃ i, xs = [.int i] ∧ Q (.int i) H) ∨ ∃ k, xs = [.bl k] ∧ Q (.int (if k then 1 else 0)) H) gIntC := fun Z Fr As σ env H vs ss R Q I c q k => by
  unfold gIntC at q
  split at q
  · match vs, c with
    | [v], ⟨c, _⟩ =>
      cases c
      exact .inl ⟨_, rfl, k _ _ _ _ q Step.refl I (Rp.int _)⟩
  · match vs, c with
    | [v], ⟨c, _⟩ =>
      cases c
      exact .inr ⟨_, rfl, k _ _ _ _ q Step.refl I (Rp.int _)⟩
  · exact q.elim
def gTupC : GC := fun ss R => match ss with
  | [s] => need (sqO s) fun ds => R (.val (.tuple ds))
  | _ => False
theorem gTupC_mono : MonoC gTupC := fun ss R R' k => by
  unfold gTupC
  split
  · intro h
    obtain ⟨n, e, q⟩ := need_out h
    exact need_in e (k _ q)
  · exact id
theorem sem_tup {C : Cfg} : SemC C (fun xs H Q => ∃ p ys, xs = [.ref p] ∧ ((SqL C.K H p ys ∧ ∀ l, H l = none → Q (.ref l) (upd H l (.tup ys))) ∨ (SqT C.K H p ys ∧ Q (.ref p) H))) gTupC := fun Z Fr As σ env H vs ss R Q I c q k => by
  unfold gTupC at q
  split at q
  · rename_i s
    obtain ⟨ds, e, q⟩ := need_out q
    match vs, c with
    | [v], ⟨c, _⟩ =>
      obtain ⟨a, us, rfl, h, r⟩ := c.sq e
      refine ⟨a, us, rfl, ?_⟩
      rcases h with h | h
      · exact .inl ⟨h, fun l nl => k _ _ _ _ q (Step.new I.ok nl) (I.new nl) (Rp.tup (.inl (.inl upd_same)) (r.step (Step.new I.ok nl)))⟩
      · exact .inr ⟨h, k _ _ _ _ q Step.refl I (Rp.tup h r)⟩
  · exact q.elim
def gLstC : GC := fun ss R => match ss with
  | [s] => need (sqO s) fun ds => R (.own none (.lst ds))
  | _ => False
theorem gLstC_mono : MonoC gLstC := fun ss R R' k => by
  unfold gLstC
  split
  · intro h
    obtain ⟨n, e, q⟩ := need_out h
    exact need_in e (k _ q)
  · exact id
theorem sem_lst {C : Cfg} : SemC C (fun xs H Q => ∃ p ys, xs = [.ref p] ∧ (SqL C.K H p ys ∨ SqT C.K H p ys) ∧ ∀ l, H l = none → Q (.ref l) (upd H l (.lst ys))) gLstC := fun Z Fr As σ env H vs ss R Q I c q k => by
  unfold gLstC at q
  split at q
  · rename_i s
    obtain ⟨ds, e, q⟩ := need_out q
    match vs, c with
    | [v], ⟨c, _⟩ =>
      obtain ⟨a, us, rfl, h, r⟩ := c.sq e
      exact ⟨a, us, rfl, h, fun l nl => k _ _ _ _ q (Step.new I.ok nl) (I.new nl) (resNew I nl fun st2 e => ⟨us, e, r.step st2⟩)⟩
  · exact q.elim
def gII (g : Int → Int → Int) : GC := fun ss R => match ss with
  | [.val (.int i), .val (.int j)] => R (.val (.int (g i j)))
  | _ => False
theorem gII_mono {g : Int → Int → Int} : MonoC (gII g) := fun ss R R' k => by
  unfold gII
  split
  · exact k _
  · exact id
theorem sem_II {C : Cfg} {g : Int → Int → Int} : SemC C (fun xs H Q => ∃ i j, xs = [.int i, .int j] ∧ Q (.int (g i j)) H) (gII g) := fun Z Fr As σ env H vs ss R Q I c q k => by
  unfold gII at q
  split at q
  · match vs, c with
    | [v, u], ⟨c, c', _⟩ =>
      cases c
      cases c'
      exact ⟨_, _, rfl, k _ _ _ _ q Step.refl I (Rp.int _)⟩
  · exact q.elim
/-! isinstance -/
inductive PTy where
  | non | bool | int | str | list | tuple | dict
  deriving DecidableEq
def PTy.nm : PTy → String
  | .non => "NoneType" | .bool => "bool" | .int => "int" | .str => "str" | .list => "list" | .tuple => "tuple" | .dict => "dict"
def isT (a b : PTy) : Bool := decide (a = b) || (decide (a = .bool) && decide (b = .int))
theorem kitB_isT (a b : PTy) (hb : b ≠ .non) : kitB a.nm b.nm = some (isT a b) := by
  cases a <;> cases b <;> first | exact absurd rfl hb | decide +kernel
def tyD : D → PTy
  | .none => .non | .bool _ => .bool | .int _ => .int | .str _ => .str | .list _ => .list | .tuple _ => .tuple | .dict _ => .dict
def tyS : Slot → Option PTy
  | .val d => some (tyD d)
  | .own _ (.lst _) => some .list
  | .own _ _ => some .dict
  | .scr _ => none
theorem CR.ty {C : Cfg} {Z : Addr → Prop} {H : Hp} {x : V} {s : Slot} {t : PTy} (h : CR C Z H x s) (e : tyS s = some t) : TyX C.K H x (.type t.nm) := by
  cases s with
  | val d =>
    cases e
    cases h with
    | non => exact .base .non
    | bl b => exact .base (.bl b)
    | int i => exact .base (.int i)
    | str x => exact .base (.str x)
    | tup q _ =>
      rcases q with (q | ⟨o, q⟩) | ⟨o, q, c⟩
      · exact .base (.tup q)
      · exact .fTuple q
      · obtain ⟨n, q, c, _⟩ := c
        exact .kTuple q c
    | lst _ q _ => exact .base (.lst q)
    | dct _ q => exact .base (.dK q)
  | own t m =>
    cases m with
    | lst ds => cases e; obtain ⟨a, rfl, vs, q, _⟩ := h; exact .base (.lst q)
    | dK kvs => cases e; obtain ⟨a, rfl, vs, q, _⟩ := h; exact .base (.dK q)
    | dT kvs => cases e; obtain ⟨a, rfl, vs, q, _⟩ := h; exact .base (.dT q)
  | scr ns => cases e

def dIsi (T : PTy) (w : DO) : DE := fun env Q => w env fun o e => need (con e o) fun s => need (tyS s) fun t => Q (.val (.bool (isT t T))) e
section
variable {tb : List Addr} {X : Cx}
theorem se_isi (T : PTy) {y : Str} {e : Expr} {p p2 pos : Pos} {w : DO} (hT : T ≠ .non := by decide) (he : SO tb X e w) (hm : X.mg "isinstance" = none) (hmy : X.mg y = none) (hv : bootBuiltins y = some (.type T.nm))
    (hg : Gl X "isinstance" := by rfl) (hgy : Gl X y := by rfl) (hn : y ≠ "__name__" := by decide) (hdb : (y == ("__debug__" : Str)) = false := by decide)
    (hs : starEach [e, .Name y p2] X.env = (false, eval e X.env) :: starEach [.Name y p2] X.env := by rfl) (hs2 : starEach [.Name y p2] X.env = (false, eval (.Name y p2) X.env) :: starEach [] X.env := by rfl)
    (hpl : (backTo pos (starEach [.Name y p2] X.env)).any (·.1) = false := by rfl) : SE tb X (.Call (.Name "isinstance" p) [e, .Name y p2] [] pos) (dIsi T w) :=
  ⟨fun env Q Q' k q => he.mono env _ _ (fun o e q => let ⟨_, c, q⟩ := need_out q; let ⟨_, c2, q⟩ := need_out q; need_in c (need_in c2 (k _ _ q))) q,
    (pe_callB call_isi hg hm boot_isinstance (pa_cons he.pe (pa_cons (pe_bltn (v := .ty T.nm) hgy hmy hv rfl hn hdb) pa_nil hs2) hs) (by decide) (by decide) hs hpl).imp fun σ H Q ⟨Z, Fr, As, env, I, q⟩ =>
    ⟨Z, Fr, As, env, I, he.mono env _ _ (fun o e q v H' Z' st I' R => by
      obtain ⟨s, c, q⟩ := need_out q
      obtain ⟨t, c2, q⟩ := need_out q
      exact ⟨v, _, _, _, _, rfl, .ty _, (R.cr I' c).ty c2, kit_ty (kitB_isT t T hT), q _ _ _ st I' (Rp.bl _)⟩) q⟩⟩
theorem se_len {e : Expr} {es : List Expr} {p pos : Pos} {ws : DOs} (hm : X.mg "len" = none) (ha : SOs tb X (e :: es) ws) (hg : Gl X "len" := by rfl)
    (he : starEach (e :: es) X.env = (false, eval e X.env) :: starEach es X.env := by rfl) (hpl : (backTo pos (starEach es X.env)).any (·.1) = false := by rfl) : SE tb X (.Call (.Name "len" p) (e :: es) [] pos) (dCB gLen ws) := se_blt call_lenU sem_len gLen_mono boot_len hm ha hg (by decide) (by decide) he hpl
theorem se_intC {e : Expr} {es : List Expr} {p pos : Pos} {ws : DOs} (hm : X.mg "int" = none) (ha : SOs tb X (e :: es) ws) (hg : Gl X "int" := by rfl)
    (he : starEach (e :: es) X.env = (false, eval e X.env) :: starEach es X.env := by rfl) (hpl : (backTo pos (starEach es X.env)).any (·.1) = false := by rfl) : SE tb X (.Call (.Name "int" p) (e :: es) [] pos) (dCB gIntC ws) := se_ty call_int1 sem_int gIntC_mono PyProof.Rows.boot_int hm ha hg (by decide) (by decide) he hpl
theorem se_tupC {e : Expr} {es : List Expr} {p pos : Pos} {ws : DOs} (hm : X.mg "tuple" = none) (ha : SOs tb X (e :: es) ws) (hg : Gl X "tuple" := by rfl)
    (he : starEach (e :: es) X.env = (false, eval e X.env) :: starEach es X.env := by rfl) (hpl : (backTo pos (starEach es X.env)).any (·.1) = false := by rfl) : SE tb X (.Call (.Name "tuple" p) (e :: es) [] pos) (dCB gTupC ws) := se_ty call_tuple_of sem_tup gTupC_mono PyProof.Rows.boot_tuple hm ha hg (by decide) (by decide) he hpl
theorem se_lstC {e : Expr} {es : List Expr} {p pos : Pos} {ws : DOs} (hm : X.mg "list" = none) (ha : SOs tb X (e :: es) ws) (hg : Gl X "list" := by rfl)
    (he : starEach (e :: es) X.env = (false, eval e X.env) :: starEach es X.env := by rfl) (hpl : (backTo pos (starEach es X.env)).any (·.1) = false := by rfl) : SE tb X (.Call (.Name "list" p) (e :: es) [] pos) (dCB gLstC ws) := se_ty call_list_of sem_lst gLstC_mono PyProof.Rows.boot_list hm ha hg (by decide) (by decide) he hpl
theorem se_max2 {e : Expr} {es : List Expr} {p pos : Pos} {ws : DOs} (hc : X.calm = true) (hm : X.mg "max" = none) (hv : bootBuiltins "max" = some (.builtin "max")) (ha : SOs tb X (e :: es) ws) (hg : Gl X "max" := by rfl)
    (he : starEach (e :: es) X.env = (false, eval e X.env) :: starEach es X.env := by rfl) (hpl : (backTo pos (starEach es X.env)).any (·.1) = false := by rfl) : SE tb X (.Call (.Name "max" p) (e :: es) [] pos) (dCB (gII fun i j => if j > i then j else i) ws) := se_blt (call_max2 hc) sem_II gII_mono hv hm ha hg (by decide) (by decide) he hpl
theorem se_min2 {e : Expr} {es : List Expr} {p pos : Pos} {ws : DOs} (hc : X.calm = true) (hm : X.mg "min" = none) (hv : bootBuiltins "min" = some (.builtin "min")) (ha : SOs tb X (e :: es) ws) (hg : Gl X "min" := by rfl)
    (he : starEach (e :: es) X.env = (false, eval e X.env) :: starEach es X.env := by rfl) (hpl : (backTo pos (starEach es X.env)).any (·.1) = false := by rfl) : SE tb X (.Call (.Name "min" p) (e :: es) [] pos) (dCB (gII fun i j => if j < i then j else i) ws) := se_blt (call_min2 hc) sem_II gII_mono hv hm ha hg (by decide) (by decide) he hpl

/-! -x -/
def ngO : Slot → Option Int
  | .val (.int i) => some i
  | _ => none
theorem ngO_eq {s : Slot} {k : Int} (h : ngO s = some k) : s = .val (.int k) := by
  unfold ngO at h
  split at h
  · cases h; rfl
  · cases h
def dNeg (w : DE) : DE := fun env Q => w env fun r e => need (ngO r) fun i => Q (.val (.int (-i))) e
theorem se_neg {a : Expr} {pos : Pos} {w : DE} (h : SE tb X a w) : SE tb X (.UnaryOp .USub a pos) (dNeg w) :=
  ⟨fun env Q Q' k q => h.mono env _ _ (fun _ _ q => let ⟨_, c, q⟩ := need_out q; need_in c (k _ _ q)) q, (pe_un un_neg h.pe).imp fun σ H Q ⟨Z, Fr, As, env, I, q⟩ =>
    ⟨Z, Fr, As, env, I, h.mono env _ _ (fun r e q v H' Z' st I' R => by
      obtain ⟨i, c, q⟩ := need_out q
      unfold ngO at c
      split at c
      · cases c
        cases R
        exact ⟨_, rfl, q _ _ _ st I' (Rp.int _)⟩
      · cases c) q⟩⟩

/-! slices -/
abbrev DP := En → (Option Int → En → Prop) → Prop
def tP (C : Cfg) (w : DP) : TO := fun σ H Q => ∃ Z Fr As env, EnvR C Z Fr As σ H env ∧ w env fun o env' => ∀ H' Z', Step Z Fr H Z' H' → EnvR C Z' Fr As σ H' env' → Q o H'
structure SP (tb : List Addr) (X : Cx) (e : Option Expr) (w : DP) : Prop where
  mono : Mono w
  po : PO X e (tP ⟨X.K, tb⟩ w)
theorem _root_.L2.PO.imp {X : Cx} {e : Option Expr} {t t' : TO} (h : PO X e t) (i : ∀ σ H Q, t' σ H Q → t σ H Q) : PO X e t' := ⟨fun pins s σ H Q I q => h.run pins s σ H Q I (i σ H Q q)⟩
def dNoP : DP := fun env Q => Q none env
theorem sp_none : SP tb X none dNoP := ⟨fun _ _ _ k q => k _ _ q, po_none.imp fun σ H Q ⟨Z, Fr, As, env, I, q⟩ => q H Z Step.refl I⟩
def dPrt (w : DE) : DP := fun env Q => w env fun r e => need (ngO r) fun i => Q (some i) e
theorem sp_some {e : Expr} {w : DE} (h : SE tb X e w) : SP tb X (some e) (dPrt w) :=
  ⟨fun env Q Q' k q => h.mono env _ _ (fun _ _ q => let ⟨_, c, q⟩ := need_out q; need_in c (k _ _ q)) q, (po_some h.pe).imp fun σ H Q ⟨Z, Fr, As, env, I, q⟩ =>
    ⟨Z, Fr, As, env, I, h.mono env _ _ (fun r e q v H' Z' st I' R => by
      obtain ⟨i, c, q⟩ := need_out q
      unfold ngO at c
      split at c
      · cases c
        cases R
        exact ⟨_, rfl, q _ _ st I'⟩
      · cases c) q⟩⟩
def cutD {α : Type} (xs : List α) (lo hi : Option Int) : List α := (xs.drop (HT.sIx xs.length 0 lo)).take (HT.sIx xs.length xs.length hi - HT.sIx xs.length 0 lo)
theorem Rps.cut {K : Frag} {Z : Addr → Prop} {H : Hp} {vs : List V} {ds : List D} (h : Rps K Z H vs ds) (lo hi : Option Int) : Rps K Z H (cutV vs lo hi) (cutD ds lo hi) := by
  unfold cutV cutD
  rw [h.length]
  exact (h.drop _).take _
/-- a slice's value, by the container -/
def gSl (s : Slot) (lo hi : Option Int) (R : Slot → Prop) : Prop := match s with
  | .val (.tuple ds) => R (.val (.tuple (cutD ds lo hi)))
  | .val (.list ds) => R (.own none (.lst (cutD ds lo hi)))
  | .own _ (.lst ds) => R (.own none (.lst (cutD ds lo hi)))
  | .scr ns => R (.own none (.lst (cutD (ns.map .int) lo hi)))
  | _ => False
theorem gSl_mono {s : Slot} {lo hi : Option Int} {R R' : Slot → Prop} (k : ∀ r, R r → R' r) : gSl s lo hi R → gSl s lo hi R' := by
  unfold gSl
  split
  · exact k _
  · exact k _
  · exact k _
  · exact k _
  · exact id
def dSl (w : DO) (wl wh : DP) : DE := fun env Q => w env fun o e1 => wl e1 fun l e2 => wh e2 fun h e3 => need (con e3 o) fun s => gSl s l h fun r => Q r e3
theorem se_slice {e : Expr} {lo hi : Option Expr} {p2 pos : Pos} {w : DO} {wl wh : DP} (he : SO tb X e w) (hl : SP tb X lo wl) (hh : SP tb X hi wh) : SE tb X (.Subscript e (.Slice lo hi none p2) pos) (dSl w wl wh) :=
  ⟨fun env Q Q' k q => he.mono env _ _ (fun o e1 q => hl.mono e1 _ _ (fun l e2 q => hh.mono e2 _ _ (fun h e3 q => let ⟨_, c, q⟩ := need_out q; need_in c (gSl_mono (fun _ => k _ _) q)) q) q) q,
    (pe_slice (sl_list.or sl_tupA) he.pe hl.po hh.po).imp fun σ H Q ⟨Z, Fr, As, env, I, q⟩ =>
    ⟨Z, Fr, As, env, I, he.mono env _ _ (fun o e1 q v H1 Z1 st1 I1 R1 => ⟨Z1, _, As, e1, R1.prot I1, hl.mono e1 _ _ (fun l e2 q H2 Z2 st2 I2 => ⟨Z2, _, As, e2, I2, hh.mono e2 _ _ (fun h e3 q H3 Z3 st3 I3 => by
      obtain ⟨s, c, q⟩ := need_out q
      have wk : ∀ a, Fr a → Fr a ∨ OwnO v o a := fun a => .inl
      have R3 := (R1.after (st2.trans st3) I3).cr (I3.weak wk) c
      have I3' := I3.weak wk
      have st : Step Z Fr H Z3 H3 := st1.trans ((st2.trans st3).weak wk)
      have lst : ∀ {a : Addr} {us : List V} {ds : List D}, (SqL X.K H3 a us) → Rps X.K Z3 H3 us ds → v = .ref a → (∀ v H' Z', Step Z Fr H Z' H' → EnvR ⟨X.K, tb⟩ Z' Fr As σ H' e3 → ResR ⟨X.K, tb⟩ Z' Fr σ e3 H' v (.own none (.lst (cutD ds l h))) → Q v H') → rSlL X.K v l h H3 Q :=
        fun {a us ds} hq r e q => ⟨a, us, e, hq, fun p np => q _ _ _ (st.trans (Step.new I3'.ok np)) (I3'.new np) (resNew I3' np fun st2 e2 => ⟨_, e2, (r.cut l h).step st2⟩)⟩
      revert q
      unfold gSl
      split
      · intro q
        cases R3 with
        | tup hq r =>
          refine .inr ⟨_, _, rfl, hq, fun w => ?_, fun w p np => ?_⟩
          · have e : cutD _ l h = _ := (show cutD _ l h = _ from by
              unfold cutD
              rw [← r.length, w.1, w.2, List.drop_zero, Nat.sub_zero, r.length, List.take_length])
            rw [e] at q
            exact q _ _ _ st I3' (Rp.tup hq r)
          · exact q _ _ _ (st.trans (Step.new I3'.ok np)) (I3'.new np) (Rp.tup (.inl (.inl upd_same)) ((r.cut l h).step (Step.new I3'.ok np)))
      · intro q
        cases R3 with
        | lst z hq r => exact .inl (lst (.inl (.inl hq)) r rfl q)
      · intro q
        obtain ⟨a, rfl, us, hq, r⟩ := R3
        exact .inl (lst (.inl (.inl hq)) r rfl q)
      · intro q
        obtain ⟨a, rfl, hq⟩ := R3
        exact .inl (lst hq.sql (rps_ints _) rfl q)
      · exact fun q => q.elim) q⟩) q⟩) q⟩⟩

/-! methods of a list of a variable's own -/
def owL (env : En) (i : Nat) : Option (Option Nat × List D) := match sl env i with
  | some (.own t (.lst ds)) => some (t, ds)
  | _ => none
theorem owL_eq {env : En} {i : Nat} {p : Option Nat × List D} (h : owL env i = some p) : sl env i = some (.own p.1 (.lst p.2)) := by
  unfold owL at h
  split at h
  · rename_i t ds e; cases h; exact e
  · cases h
def dApp (i : Nat) (w : DV) : DE := fun env Q => need (owL env i) fun _ => w env fun d e => need (owL e i) fun p => p.2.length < sizeLine ∧ Q (.val .none) (e.set i (some (.own p.1 (.lst (p.2 ++ [d])))))
theorem se_app (i : Nat) {x : Str} {e : Expr} {px apos cpos : Pos} {w : DV} (he : SV tb X e w) (hN : X.N[i]? = some x := by rfl) (hv : Vis X.env.scope x := by first | exact Or.inl rfl | exact Or.inr (Or.inl rfl) | exact Or.inr (Or.inr rfl)) (hd : (x == ("__debug__" : Str)) = false := by decide)
    (hcd : (x == ("__classdict__" : Str)) = false := by decide) (hbase : attributeBase (.Name x px) "append" X.env (eval (.Name x px) X.env) = eval (.Name x px) X.env := by rfl)
    (hfew : ((backTo cpos (starEach [e] X.env)).all (fun x => !x.1) && (backToKw cpos (keywordEach [] X.env)).all (fun x => x.1.isSome)
      && decide (([e] : List Expr).length + ([] : List Keyword).length + (if ([] : List Keyword).isEmpty then 0 else 1) < 30)) = true := by rfl)
    (hline : (apos.endLine == cpos.line) = true := by rfl) (hs : starEach [e] X.env = (false, eval e X.env) :: starEach [] X.env := by rfl) (hplain : (backTo cpos (starEach [] X.env)).any (·.1) = false := by rfl) :
    SE tb X (.Call (.Attribute (.Name x px) "append" apos) [e] [] cpos) (dApp i w) :=
  ⟨fun env Q Q' k q => by
    obtain ⟨p, c, q⟩ := need_out q
    refine need_in c (he.mono env _ _ (fun d e q => ?_) q)
    obtain ⟨p, c, l, q⟩ := need_out q
    exact need_in c ⟨l, k _ _ q⟩, (pe_bm F.plainAttrs_list F.slot_list_append F.type_list_append mt_append (pe_var hN hv hd hcd) (pa_cons he.pe pa_nil hs) hbase hfew hline hs hplain).imp fun σ H Q ⟨Z, Fr, As, env, I, q⟩ => by
    obtain ⟨p, c, q⟩ := need_out q
    obtain ⟨a, h0, ⟨us, hu, ru⟩, _⟩ := I.atOwn (sl_at (owL_eq c))
    refine ⟨_, h0, .inl ⟨rfl, us, .inl (.inl hu)⟩, Z, Fr, As, env, I, he.mono env _ _ (fun d e q v H1 Z1 st1 I1 r1 => ?_) q⟩
    obtain ⟨p, c, l, q⟩ := need_out q
    obtain ⟨b, h1, ⟨us, hu, ru⟩, _⟩ := I1.atOwn (sl_at (owL_eq c))
    rw [h0] at h1
    cases h1
    obtain ⟨I2, st2⟩ := I1.mutate (m' := .lst (p.2 ++ [d])) (sl_at (owL_eq c)) h0 (o := .lst (us ++ [v])) fun st e => ⟨_, e, (ru.step st).app (.cons (r1.step st) .nil)⟩
    exact ⟨a, us, v, rfl, rfl, hu, by rw [ru.length]; exact l, q _ _ _ (st1.trans st2) I2 Rp.non⟩⟩
def dPop (i : Nat) : DE := fun env Q => need (owL env i) fun p => need (p.2[p.2.length - 1]?) fun d => Q (.val d) (env.set i (some (.own p.1 (.lst p.2.dropLast))))
theorem se_pop (i : Nat) {x : Str} {px apos cpos : Pos} (hN : X.N[i]? = some x := by rfl) (hv : Vis X.env.scope x := by first | exact Or.inl rfl | exact Or.inr (Or.inl rfl) | exact Or.inr (Or.inr rfl)) (hd : (x == ("__debug__" : Str)) = false := by decide)
    (hcd : (x == ("__classdict__" : Str)) = false := by decide) (hbase : attributeBase (.Name x px) "pop" X.env (eval (.Name x px) X.env) = eval (.Name x px) X.env := by rfl) (hline : (apos.endLine == cpos.line) = true := by rfl) :
    SE tb X (.Call (.Attribute (.Name x px) "pop" apos) [] [] cpos) (dPop i) :=
  ⟨fun env Q Q' k q => by
    obtain ⟨p, c, q⟩ := need_out q
    obtain ⟨d, c2, q⟩ := need_out q
    exact need_in c (need_in c2 (k _ _ q)), (pe_bm0 F.plainAttrs_list F.slot_list_pop F.type_list_pop mt_pop (pe_var hN hv hd hcd) hbase hline).imp fun σ H Q ⟨Z, Fr, As, env, I, q⟩ => by
    obtain ⟨p, c, q⟩ := need_out q
    obtain ⟨d, c2, q⟩ := need_out q
    obtain ⟨a, h0, ⟨us, hu, ru⟩, _⟩ := I.atOwn (sl_at (owL_eq c))
    obtain ⟨u, hu2, r2⟩ := ru.get c2
    rw [← ru.length] at hu2
    obtain ⟨I2, st2⟩ := I.mutate (m' := .lst p.2.dropLast) (sl_at (owL_eq c)) h0 (o := .lst us.dropLast) fun st e => ⟨_, e, (ru.step st).dropLast⟩
    exact ⟨_, h0, .inl ⟨rfl, us, .inl (.inl hu)⟩, a, us, u, rfl, rfl, hu, hu2, q _ _ _ st2 I2 (r2.step st2)⟩⟩
def dPopAt (i : Nat) (w : DO) : DE := fun env Q => need (owL env i) fun _ => w env fun o e => need (con e o) fun s => need (ngO s) fun k => need (owL e i) fun p => (-(2 ^ 63) ≤ k ∧ k < 2 ^ 63) ∧ need (seqIndex? k p.2.length) fun j => need (p.2[j]?) fun d =>
  Q (.val d) (e.set i (some (.own p.1 (.lst (p.2.eraseIdx j)))))
theorem se_popAt (i : Nat) {x : Str} {e : Expr} {px apos cpos : Pos} {w : DO} (he : SO tb X e w) (hN : X.N[i]? = some x := by rfl) (hv : Vis X.env.scope x := by first | exact Or.inl rfl | exact Or.inr (Or.inl rfl) | exact Or.inr (Or.inr rfl)) (hd : (x == ("__debug__" : Str)) = false := by decide)
    (hcd : (x == ("__classdict__" : Str)) = false := by decide) (hbase : attributeBase (.Name x px) "pop" X.env (eval (.Name x px) X.env) = eval (.Name x px) X.env := by rfl)
    (hfew : ((backTo cpos (starEach [e] X.env)).all (fun x => !x.1) && (backToKw cpos (keywordEach [] X.env)).all (fun x => x.1.isSome)
      && decide (([e] : List Expr).length + ([] : List Keyword).length + (if ([] : List Keyword).isEmpty then 0 else 1) < 30)) = true := by rfl)
    (hline : (apos.endLine == cpos.line) = true := by rfl) (hs : starEach [e] X.env = (false, eval e X.env) :: starEach [] X.env := by rfl) (hplain : (backTo cpos (starEach [] X.env)).any (·.1) = false := by rfl) :
    SE tb X (.Call (.Attribute (.Name x px) "pop" apos) [e] [] cpos) (dPopAt i w) :=
  ⟨fun env Q Q' k q => by
    obtain ⟨p, c, q⟩ := need_out q
    refine need_in c (he.mono env _ _ (fun d e q => ?_) q)
    obtain ⟨s, c1, q⟩ := need_out q
    obtain ⟨i, c2, q⟩ := need_out q
    obtain ⟨p, c3, l, q⟩ := need_out q
    obtain ⟨j, c4, q⟩ := need_out q
    obtain ⟨d, c5, q⟩ := need_out q
    exact need_in c1 (need_in c2 (need_in c3 ⟨l, need_in c4 (need_in c5 (k _ _ q))⟩)), (pe_bm F.plainAttrs_list F.slot_list_pop F.type_list_pop mt_popAt (pe_var hN hv hd hcd) (pa_cons he.pe pa_nil hs) hbase hfew hline hs hplain).imp fun σ H Q ⟨Z, Fr, As, env, I, q⟩ => by
    obtain ⟨p, c, q⟩ := need_out q
    obtain ⟨a, h0, ⟨us, hu, ru⟩, _⟩ := I.atOwn (sl_at (owL_eq c))
    refine ⟨_, h0, .inl ⟨rfl, us, .inl (.inl hu)⟩, Z, Fr, As, env, I, he.mono env _ _ (fun o e q v H1 Z1 st1 I1 r1 => ?_) q⟩
    obtain ⟨s, c1, q⟩ := need_out q
    obtain ⟨k, c2, q⟩ := need_out q
    obtain ⟨p, c3, ⟨l1, l2⟩, q⟩ := need_out q
    obtain ⟨j, c4, q⟩ := need_out q
    obtain ⟨d, c5, q⟩ := need_out q
    obtain ⟨b, h1, ⟨us, hu, ru⟩, _⟩ := I1.atOwn (sl_at (owL_eq c3))
    rw [h0] at h1
    cases h1
    have cr := r1.cr I1 c1
    have es := ngO_eq c2
    rw [es] at cr
    cases cr
    obtain ⟨u, hu2, r2⟩ := ru.get c5
    obtain ⟨I2, st2⟩ := I1.mutate (m' := .lst (p.2.eraseIdx j)) (sl_at (owL_eq c3)) h0 (o := .lst (us.eraseIdx j)) fun st e => ⟨_, e, (ru.step st).eraseIdx j⟩
    exact ⟨a, us, _, j, u, rfl, rfl, hu, l1, l2, by rw [ru.length]; exact c4, hu2, q _ _ _ (st1.trans st2) I2 (r2.step st2)⟩⟩
end
end DV

set_option Elab.async false
set_option linter.all false
set_option maxRecDepth 100000
set_option maxHeartbeats 4000000
namespace DV
open PySem PySem.Spec PyProof.Rows L2

/-! ### repr -/
def ReprOk (d : D) : Prop := d.canLay0 = true ∧ d.showable = true ∧ d.depth ≤ 64 ∧ d.shown.length ≤ sizeLine
def rRepr (K : Frag) : List V → Hp → VK → Prop := fun xs H Q => ∃ x d, xs = [x] ∧ Dp K H x d ∧ ReprOk d ∧ Q (.str d.shown) H
theorem call_reprD {X : Cx} (hg : X.A.guards = some []) (hu : X.A.units + 100 < cLine) : CallR X (.builtin "repr") (rRepr X.K) := by
  intro pins s σ H xs us Q I r h
  obtain ⟨x, d, rfl, dp, ⟨cl, sh, dep, len⟩, q⟩ := h
  obtain ⟨u, rfl, rx⟩ := vals1 r
  obtain ⟨as, rd⟩ := Dp.reads I d x u dp rx
  have out : ∀ h' tk t, (∀ b o, s.heap.get? b = some o → h'.get? b = some o) → EP X pins σ Q (.str d.shown t) { s with heap := h', toks := tk } := fun h' tk t hk => ⟨.str d.shown, H, I.kept hk, ⟨_, rfl⟩, q⟩
  cases d with
  | none => cases dp; cases rx; exact P.repr_of_none (out _ _ _ fun _ _ e => e)
  | bool b => cases dp; cases rx; exact P.repr_of_bool (out _ _ _ fun _ _ e => e)
  | int i =>
    cases dp
    obtain ⟨t, rfl⟩ := rx
    exact P.repr_of_int (by simpa [PyData.showable] using sh) (out _ _ _ fun _ _ e => e)
  | str y =>
    cases dp
    obtain ⟨t, rfl⟩ := rx
    exact P.repr_of_str (out _ _ _ fun _ _ e => e) len
  | list ds =>
    have hx : ∃ a, u = .ref a := by
      cases dp with
      | _ => cases rx; exact ⟨_, rfl⟩
    obtain ⟨a, rfl⟩ := hx
    exact repr_of_reads' rd sh (fun h => by rw [PyData.hasDict_of_canLay _ cl] at h; cases h) hg (by omega) (fun _ _ e => e) (fun h' t tk hk => out _ _ _ hk) len
  | tuple ds =>
    have hx : ∃ a, u = .ref a := by
      cases dp with
      | _ => cases rx; exact ⟨_, rfl⟩
    obtain ⟨a, rfl⟩ := hx
    exact repr_of_reads' rd sh (fun h => by rw [PyData.hasDict_of_canLay _ cl] at h; cases h) hg (by omega) (fun _ _ e => e) (fun h' t tk hk => out _ _ _ hk) len
  | dict kvs => simp [PyData.canLay0] at cl
def gRepr : GC := fun ss R => match ss with
  | [s] => need (daO s) fun d => ReprOk d ∧ R (.val (.str d.shown))
  | _ => False
theorem gRepr_mono : MonoC gRepr := fun ss R R' k => by
  unfold gRepr
  split
  · intro h
    obtain ⟨d, e, a, q⟩ := need_out h
    exact need_in e ⟨a, k _ q⟩
  · exact id
theorem sem_repr {C : Cfg} : SemC C (rRepr C.K) gRepr := fun Z Fr As σ env H vs ss R Q I c q k => by
  unfold gRepr at q
  split at q
  · obtain ⟨d, e, a, q⟩ := need_out q
    match vs, c with
    | [v], ⟨c, _⟩ => exact ⟨v, d, rfl, c.dp e a.1, a, k _ _ _ _ q Step.refl I (Rp.str _)⟩
  · exact q.elim
theorem boot_repr : bootBuiltins "repr" = some (.builtin "repr") := by first | exact PyProof.Rows.boot_repr | decide +kernel
theorem se_repr {tb : List Addr} {X : Cx} {e : Expr} {es : List Expr} {p pos : Pos} {ws : DOs} {k : Nat} (hr : RoomG k X.A) (hm : X.mg "repr" = none) (ha : SOs tb X (e :: es) ws) (hg : Gl X "repr" := by rfl)
    (he : starEach (e :: es) X.env = (false, eval e X.env) :: starEach es X.env := by rfl) (hpl : (backTo pos (starEach es X.env)).any (·.1) = false := by rfl) : SE tb X (.Call (.Name "repr" p) (e :: es) [] pos) (dCB gRepr ws) :=
  se_blt (call_reprD hr.gd (by have := hr.room.un; omega)) sem_repr gRepr_mono boot_repr hm ha hg (by decide) (by decide) he hpl

/-! ### calls by keywords, in the order of the parameters -/
structure SOk (tb : List Addr) (X : Cx) (kws : List Keyword) (w : DOs) : Prop where
  mono : Mono w
  pk : PK X kws (tOs ⟨X.K, tb⟩ w)
theorem _root_.L2.PK.imp {X : Cx} {e : List Keyword} {t t' : TA} (h : PK X e t) (i : ∀ σ H Q, t' σ H Q → t σ H Q) : PK X e t' := ⟨fun pos pins s σ H Q I q => h.run pos pins s σ H Q I (i σ H Q q)⟩
def KB (K : Frag) (fd : FuncData) (ps : List Str) : Prop := ∀ (s : Shared) (us : List Value), K.In s.heap → us.length = ps.length → BindsTo s fd ⟨[], ps.zip us⟩ (ps.zip us)
theorem kb_of {K : Frag} {x qual : Str} {st : Stmt} {f : Addr} {fd : FuncData} {ps : List Str} (F : L2.Fun K x qual st f fd)
    (h : ∀ (kV doc pm : Value) (an : Option Addr) (cdv ct : Value) (us : List Value), us.length = ps.length → bindArgs (PySem.W.fnOf x qual (defArgs st) (defBody st) (defScope st) .none kV doc pm an cdv ct) ⟨[], ps.zip us⟩ = pure (ps.zip us)) : KB K fd ps := by
  obtain ⟨oc, od, kV, doc, pm, an, cdv, ct, osl, rfl, lk, hcd⟩ := F.ex
  exact fun s us _ hl => .of_eq (h kV doc pm an cdv ct us hl)
section
variable {tb : List Addr} {X : Cx} {k : Nat} {f : Addr} {fd : FuncData} {ps : List Str} {fs : FS} {ws : DOs}
theorem sok_nil : SOk tb X [] dONil := ⟨fun _ _ _ h q => h _ _ q, pk_nil.imp fun σ H Q ⟨Z, Fr, As, env, I, h⟩ => h _ _ _ Step.refl I True.intro⟩
theorem sok_cons {e : Expr} {nm : Option Str} {kpos : Pos} {kws : List Keyword} {w : DO} {ws : DOs} (h : SO tb X e w) (hs : SOk tb X kws ws) : SOk tb X (⟨nm, e, kpos⟩ :: kws) (dOCons w ws) :=
  ⟨fun env Q Q' k q => h.mono env _ _ (fun _ e1 q => hs.mono e1 _ _ (fun _ _ => k _ _) q) q, (pk_cons h.pe hs.pk).imp fun σ H Q ⟨Z, Fr, As, env, I, q⟩ => by
    refine ⟨Z, Fr, As, env, I, h.mono env _ _ (fun o e1 q v H1 Z1 st1 I1 r1 => ?_) q⟩
    refine ⟨Z1, _, As, e1, r1.prot I1, hs.mono e1 _ _ (fun os e2 q vs H2 Z2 st2 I2 r2 => ?_) q⟩
    have wk : ∀ a, Fr a → Fr a ∨ OwnO v o a := fun a => .inl
    exact q _ _ _ (st1.trans (st2.weak wk)) (I2.weak wk) ⟨r1.after st2 I2, r2⟩⟩
theorem run_fnGK {CX : CXT} {E : XK} {pins : List (Addr × Obj)} {σ : L2.St} {H : Hp} {s : Shared} {Q : VK} {us : List Value} {vs : List V} (F : FnG X.prog X.w X.K X.mg X.base CX tb k f fd ps fs) (hr : RoomG k X.A) (hb : KB X.K fd ps) (hx : Passes CX X E)
    (I : Inv X pins σ H s) (r : Vals vs us) (h : spOf ⟨X.K, tb⟩ fs vs H Q E) : wpAny (model X.prog X.w) X.A (call (.ref f) [] (ps.zip us)) (EP X pins σ Q) X.xe s := by
  have hl : us.length = ps.length := by
    obtain ⟨Z, Fr, args, I', _, q⟩ := h
    rw [← F.len _ _ _ q, ← r.length]
    simpa [envA] using I'.len
  refine wpAny_call (codeAny_mono (F.run X.A X.stack s H ⟨[], ps.zip us⟩ us vs Q E hr I.env0 (hb s us I.kIn hl) r h) fun res s' hq => ?_)
  cases res with
  | error x => exact hx pins σ H s x s' I hq
  | ok fl =>
    cases fl with
    | ret u => exact I.after hq
    | _ => exact False.elim hq
theorem se_callK {x : Str} {kws : List Keyword} {p pos : Pos} (F : FnG X.prog X.w X.K X.mg X.base CX0 tb k f fd ps fs) (hr : RoomG k X.A) (hm : X.mg x = some (.ref f)) (hk : PySem.W.keepIn X.K (.ref f) = true) (hb : KB X.K fd ps)
    (ha : SOk tb X kws ws) (hks : (backToKw pos (keywordEach kws X.env)).filterMap (·.1) = ps := by rfl) (hall : (backToKw pos (keywordEach kws X.env)).all (·.1.isSome) = true := by rfl) (hg : Gl X x := by rfl) (hdb : (x == ("__debug__" : Str)) = false := by decide)
    (hpl : ((backTo pos (starEach [] X.env)).any (·.1) || (backToKw pos (keywordEach kws X.env)).any (·.1.isNone)) = false := by rfl) : SE tb X (.Call (.Name x p) [] kws pos) (dCall fs ws) := by
  refine ⟨dCall_mono F.mono ha.mono, ⟨fun pins s σ H Q I h => ?_⟩⟩
  refine wpAny_Call_Name_kw (ld_glob I hg hm ?_ hdb)
  have h2 := call_lift (X := X) (sp := fun _ _ _ _ => True) (E := E0) ha.mono F.mono σ H Q h
  refine PySem.W.callWith_KW0 (h₀ := X.base) I.ok.mod.kin hk hall (thn (ha.pk.run pos pins s σ H _ I h2) fun us s1 ⟨vs, H1, I1, rv, q⟩ => ⟨I1.kIn, ?_⟩) hpl
  rw [hks]
  exact run_fnGK F hr hb pass0 I1 rv q
end
end DV

set_option Elab.async false
set_option linter.all false
set_option maxRecDepth 100000
set_option maxHeartbeats 4000000
/-! all(elt for tg in iter if ..): the generator's frame keeps the tracked heap -/
namespace L2
open PySem PySem.Spec PyProof.Rows
/-- the generator's own scope: no cells of its own, what it walks at «.0» -/
structure GenK (scope : Scope) : Prop where
  co : scope.isCoroutine = false
  cell : ∀ y ∈ scope.names, y.2 ≠ .cell
  dot : scope.names.lookup (".0" : Str) = some NameKind.local
/-- the context of a generator's frame that was laid at s -/
abbrev Cx.gen (X : Cx) (s : Shared) (H : Hp) (cenv : Env) (fp : List Addr) : Cx := { X with s_0 := s, H_0 := H, env := cenv, outer := X.stack, stack := cenv :: X.stack, A := X.A.in1.in1.deeper cenv, ex := fp, fn := fun _ => false, pn := [], xe := fun _ _ => False }
def genE (X : Cx) (scope : Scope) (C : Addr) (code : Value) : Env := genEnv scope (cloFrom X.env.cells scope.names []) C code builtinsNs X.env
section
variable {X : Cx} {pins : List (Addr × Obj)} {σ : St} {H : Hp} {s : Shared}
theorem gen_start {scope : Scope} {own : List (Str × Nat)} {fp : List Addr} {code it : Value} {h' : Heap} {og : Obj} {gs : GenState} {tk : Nat} (I : Inv X pins σ H s) (ok : BlkOk X.N X.env.scope scope own) (gk : GenK scope) (hN : X.N.Nodup)
    (hfp : ∀ b ∈ fp, FpOk X pins H b ∧ b < s.heap.objs.size) (hn : h'.Ns s.heap.objs.size (fun y => if y = ".0" then some it else none)) (hs : Heap.SameBut s.heap.objs.size (s.heap.push { cls := .type "frame", data := .dict #[] }) h')
    (hog : ∀ v, og.data ≠ .cell v) (hfr0 : og.isFreed = false) (hb : gs.bare = true) :
    Inv (X.gen s H (genE X scope s.heap.objs.size code) fp) [(h'.objs.size, og)] (wipe σ (own.map (·.2))) H { s with heap := h'.push og, gens := s.gens.push gs, toks := tk } := by
  have hfree : ∀ y ∈ scope.names, y.2 = .free → ∃ c, X.env.cells.lookup y.1 = some c := fun y hy e => by
    rcases ok.free y hy e with k | k
    · exact I.ok.has _ (.inl k)
    · exact I.ok.has _ (.inr k)
  have hsz : h'.objs.size = s.heap.objs.size + 1 := by rw [hs.1, Heap.size_push]
  have kp1 : ∀ b o, s.heap.get? b = some o → h'.get? b = some o := fun b o e => hs.extBut b o (Nat.ne_of_lt (Heap.lt_size e)) (Heap.get?_push_of_some _ e)
  have kp : ∀ b o, s.heap.get? b = some o → (h'.push og).get? b = some o := fun b o e => Heap.get?_push_of_some _ (kp1 b o e)
  have cm : ∀ {y c}, (y, c) ∈ cloFrom X.env.cells scope.names [] → X.env.cells.lookup y = some c ∧ c < s.heap.objs.size ∧ (y, NameKind.free) ∈ scope.names := fun {y c} hm => by
    rcases cloFrom_mem hm with hm | ⟨h1, rfl⟩
    · cases hm
    · obtain ⟨c, hc⟩ := hfree _ h1 rfl
      rw [hc]
      obtain ⟨w, z⟩ := I.cell _ _ hc
      exact ⟨rfl, z.lt, h1⟩
  have mem : ∀ {y c}, (genE X scope s.heap.objs.size code).cells.lookup y = some c → X.env.cells.lookup y = some c ∧ c < s.heap.objs.size ∧ (y, NameKind.free) ∈ scope.names := fun {y c} e => cm (PySem.mem_of_lookup e)
  have look : ∀ {y}, scope.names.lookup y = some .free → ∃ c, (genE X scope s.heap.objs.size code).cells.lookup y = some c ∧ X.env.cells.lookup y = some c := fun {y} hl => by
    obtain ⟨c', e'⟩ := mem_lookup (cloFrom_has (cells := X.env.cells) (acc := []) (PySem.mem_of_lookup hl))
    exact ⟨c', e', (mem e').1⟩
  have okG : (X.gen s H (genE X scope s.heap.objs.size code) fp).Ok := by
    refine ⟨I.ok.mod, ok.kind, I.ok.glob, rfl, Nat.le_refl _, fun y z c e1 e2 => I.ok.inj y z c (mem e1).1 (mem e2).1, fun y hy => ?_, fun y c z e => absurd z Bool.false_ne_true, fun hc => I.ok.hd hc, ?_, .inr ⟨rfl, rfl⟩, fun b hb => ⟨?_, fun y c e z => ?_⟩, I.bs, Nat.le_trans I.ok.bsz I.sz, fun b o e hb => ?_, fun b hb z => ?_, I.stack, I.stkFree⟩
    · have key : ∀ k, scope.names.lookup y = some k → (k = .cell ∨ k = .free) → ∃ c, (genE X scope s.heap.objs.size code).cells.lookup y = some c := fun k hk hk' => by
        rcases hk' with rfl | rfl
        · exact absurd rfl (gk.cell _ (PySem.mem_of_lookup hk))
        · obtain ⟨c, h, _⟩ := look hk
          exact ⟨c, h⟩
      rcases hy with hy | hy
      · exact key _ hy (.inl rfl)
      · exact key _ hy (.inr rfl)
    · show (X.A.in1.in1.deeper (genE X scope s.heap.objs.size code)).frames = some (genE X scope s.heap.objs.size code :: X.stack)
      have := I.ok.frames
      simp [Around.deeper, this]
    · exact Nat.ne_of_lt (hfp b hb).2
    · exact (hfp b hb).1.2.2.2.2.1 y c (mem e).1 z
    · rcases (hfp b hb).1.2.2.2.1 with z | z
      · exact I.ok.noex b o e z
      · exact absurd (Nat.lt_of_lt_of_le (Heap.lt_size e) (Nat.le_trans I.ok.bsz z)) (Nat.lt_irrefl _)
    · rcases List.mem_cons.mp (I.stkSub b z) with z | z
      · exact (hfp b hb).1.2.1 z
      · exact (hfp b hb).1.2.2.1 z
  refine ⟨okG, rfl, I.bare.push hb, Un.kept kp, ⟨_, hn.push _, fun i y av e1 e2 e3 => ?_⟩, fun y c e => ?_, I.hok.fresh (Nat.le_refl _), fun y c e => I.freeC y c (mem e).1, fun p hp => ?_, I.hok.kept kp, by rw [wipe_length]; exact I.len⟩
  · obtain ⟨e2, hne⟩ := wipe_some e2
    have e3 : Vis scope y := e3
    have no : ∀ k, scope.names.lookup y = some k → ¬ (k = .local ∨ k = .cell) := fun k e hh => by
      rcases ok.own _ (PySem.mem_of_lookup e) hh with e' | e'
      · obtain ⟨p, hp, hpy⟩ := List.mem_map.mp e'
        have e3 := ok.ix p hp
        have : p.1 = y := hpy
        rw [this] at e3
        exact hne (List.mem_map.mpr ⟨p, hp, nodup_ix hN e3 e1⟩)
      · exact e' (List.mem_of_getElem? e1)
    have hfr : scope.names.lookup y = some .free := by
      rcases e3 with e3 | e3 | e3
      · exact absurd (.inl rfl) (no _ e3)
      · exact absurd (.inr rfl) (no _ e3)
      · exact e3
    obtain ⟨m, hn, hl⟩ := I.loc
    have hvis : Vis X.env.scope y := (ok.free _ (PySem.mem_of_lookup hfr) rfl).elim (fun k => .inr (.inl k)) (fun k => .inr (.inr k))
    obtain ⟨w, r, q⟩ := hl i y av e1 e2 hvis
    refine ⟨w, r, .inr ⟨.inr hfr, ?_⟩⟩
    obtain ⟨c, h1, h2⟩ := look hfr
    rcases q with ⟨k, _⟩ | ⟨_, c', e', z⟩
    · have k : X.env.scope.names.lookup y = some .local := k
      rcases ok.free _ (PySem.mem_of_lookup hfr) rfl with k' | k' <;> rw [show X.env.scope.names.lookup y = _ from k'] at k <;> cases k
    · rw [h2] at e'; cases e'
      exact ⟨c, h1, z.keeps kp⟩
  · obtain ⟨w, z⟩ := I.cell y c (mem e).1
    exact ⟨w, z.keeps kp⟩
  · have e : p = (h'.objs.size, og) := by simpa using hp
    subst e
    refine ⟨Heap.get?_push_size _ hfr0, I.hok.fresh (by rw [hsz]; exact Nat.le_succ _), ?_, fun hm => ?_, hog⟩
    · show h'.objs.size ≠ s.heap.objs.size
      rw [hsz]; exact Nat.succ_ne_self _
    · have : ∃ o, s.heap.get? h'.objs.size = some o := by
        obtain ⟨_, o, ho, _⟩ := I.stack.mem hm
        exact ⟨o, ho⟩
      obtain ⟨o, ho⟩ := this
      have h2 : s.heap.objs.size + 1 < s.heap.objs.size := by rw [← hsz]; exact Heap.lt_size ho
      exact absurd h2 (Nat.not_lt.mpr (Nat.le_succ _))
theorem Inv.gens {g' : Array GenState} (I : Inv X pins σ H s) (hg : AllBare g') : Inv X pins σ H { s with gens := g' } := ⟨I.ok, I.os, hg, I.base, I.loc, I.cell, I.free, I.freeC, I.pin, I.hok, I.len⟩
theorem bare_set {g : Nat} {gs : GenState} (h : AllBare s.gens) (hb : gs.bare = true) : AllBare (s.setGen g gs).gens := by
  intro x hx
  obtain ⟨i, hi, e⟩ := Array.mem_iff_getElem.mp hx
  simp only [Shared.setGen] at e hi
  have hi' : i < s.gens.size := by simpa using hi
  rw [Array.getElem_setIfInBounds hi'] at e
  split at e
  · rw [← e]; exact hb
  · rw [← e]; exact h _ (Array.getElem_mem _)
theorem Inv.setGen {g : Nat} {gs : GenState} (I : Inv X pins σ H s) (hb : gs.bare = true) : Inv X pins σ H (s.setGen g gs) := I.gens (bare_set I.bare hb)
end
theorem over_gen {A : Around} {elt tg iter : Expr} {ifs : List Expr} {scope : Scope} {pos : Pos} {it acc : Value} {env : Env} : A.over (.compLoop (.GeneratorExp elt [⟨tg, iter, ifs, 0⟩] scope pos) 0 it acc env) [] = A.deeper env := by
  first
    | rfl
    | (obtain ⟨hd, d, fr, gs, u⟩ := A; simp [Around.over, Around.deeper, marksOver, frameCount, unitsOf, envsOf, guardsOf, pushEnvs, pushGuards, Code.envs, Code.env?, Code.isFrame, Code.guards, Code.isGuard, Code.weight, Code.frames, Code.isCreation, Code.isCaller, Code.cUnits])
theorem over_gen0 {A : Around} {elt tg iter : Expr} {ifs : List Expr} {scope : Scope} {pos : Pos} {it acc : Value} {env : Env} : A.over (.compStart (.GeneratorExp elt [⟨tg, iter, ifs, 0⟩] scope pos) 0 it acc env) [] = A.deeper env := by
  first
    | rfl
    | (obtain ⟨hd, d, fr, gs, u⟩ := A; simp [Around.over, Around.deeper, marksOver, frameCount, unitsOf, envsOf, guardsOf, pushEnvs, pushGuards, Code.envs, Code.env?, Code.isFrame, Code.guards, Code.isGuard, Code.weight, Code.frames, Code.isCreation, Code.isCaller, Code.cUnits])

/-- between the turns: the frame's invariant, the iterator at i -/
structure GI (G : Cx) (pg : List (Addr × Obj)) (σ : St) (fp : List Addr) (tn : Nat → Heap → Prop) (g : Nat) (i : Nat) (H : Hp) (s : Shared) : Prop where
  inv : Inv G pg σ H s
  st : tn i s.heap
  fr : ∀ b ∈ fp, H b = none
  gl : g + 1 ≤ s.gens.size
theorem GI.setGen {G : Cx} {pg : List (Addr × Obj)} {σ : St} {fp : List Addr} {tn : Nat → Heap → Prop} {g i : Nat} {H : Hp} {s : Shared} {gs : GenState} (I : GI G pg σ fp tn g i H s) (hb : gs.bare = true) : GI G pg σ fp tn g i H (s.setGen g gs) :=
  ⟨I.inv.setGen hb, I.st, I.fr, by rw [GenW.setGen_size]; exact I.gl⟩
def GR (G : Cx) (pg : List (Addr × Obj)) (σ : St) (g : Nat) (QT : Hp → Prop) (_n : Nat) (_s0 s1 : Shared) : Prop := ∃ H', Inv G pg σ H' s1 ∧ g + 1 ≤ s1.gens.size ∧ QT H'
def GY (G : Cx) (pg : List (Addr × Obj)) (σ : St) (fp : List Addr) (tn : Nat → Heap → Prop) (g : Nat) (W : Nat → Hp → Prop) (QF : Hp → Prop) : Protocol := fun _ _ v s kap =>
  ∃ i b H', v = .bool b ∧ GI G pg σ fp tn g i H' s ∧ (if b = true then W i H' else QF H') ∧ ∀ s'', GI G pg σ fp tn g i H' s'' → W i H' → kap (.send .none) s''
section
variable {X : Cx} {s1 : Shared} {H1 : Hp} {cenv : Env} {fp : List Addr} {pg : List (Addr × Obj)} {σ : St} {vs : List Nat} {tn : Nat → Heap → Prop} {g it : Nat} {J : It} {N : Nat} {W : Nat → Hp → Prop} {QT QF : Hp → Prop}
  {elt tg iter : Expr} {ifs : List Expr} {scope : Scope} {pos : Pos} {tg' : TG} {tt : TT} {te : TE}
theorem seg_gen (hc : X.calm = true) (T : Turn X.prog X.w X.K tg J fp it tn) (stat : ∀ {H' : Hp}, (∀ b ∈ fp, H' b = none) → ∀ b ∈ fp, FpOk (X.gen s1 H1 cenv fp) pg H' b)
    (hg : PG (X.gen s1 H1 cenv fp) tg tg') (ht : PTs (X.gen s1 H1 cenv fp) ifs tt) (he : PE (X.gen s1 H1 cenv fp) elt te) (hco : cenv.scope.isCoroutine = false)
    (step : ∀ i H, W i H → (J.stop i H ∧ QT H) ∨ (J.go i H ∧ i < N ∧ ∀ x H', J.yld i H x H' → tg' x (wipe σ vs) H' fun σ2 H3 => wipe σ2 vs = wipe σ vs ∧ tt σ2 H3 fun b H4 =>
      if b = true then te σ2 H4 fun y H5 => ∃ c, y = .bl c ∧ (if c = true then W (i + 1) H5 else QF H5) else W (i + 1) H4)) :
    ∀ (k i n : Nat) (s₀ s : Shared) (H : Hp), N - i = k → k ≤ n → GI (X.gen s1 H1 cenv fp) pg (wipe σ vs) fp tn g i H s → W i H →
      Seg (model X.prog X.w) X.A.in1.in1 (fun n s₀ r s₁ => r = .ok .next ∧ GR (X.gen s1 H1 cenv fp) pg (wipe σ vs) g QT n s₀ s₁) (GY (X.gen s1 H1 cenv fp) pg (wipe σ vs) fp tn g W QF) n s₀
        (.compLoop (.GeneratorExp elt [⟨tg, iter, ifs, 0⟩] scope pos) 0 (.ref it) .none cenv) ((model X.prog X.w).den (.compLoop (.GeneratorExp elt [⟨tg, iter, ifs, 0⟩] scope pos) 0 (.ref it) .none cenv)) [] s := by
  have ov : ∀ {α : Type} {m : Sem α} {Q : α → Shared → Prop} {E : Value → Shared → Prop} {s : Shared}, wpAny (model X.prog X.w) (X.gen s1 H1 cenv fp).A m Q E s →
      wpAny (model X.prog X.w) (X.A.in1.in1.over (.compLoop (.GeneratorExp elt [⟨tg, iter, ifs, 0⟩] scope pos) 0 (.ref it) .none cenv) []) m Q E s := fun h => by rw [over_gen]; exact h
  intro k
  induction k with
  | zero =>
    intro i n s₀ s H hk hn gi w
    show Seg _ _ _ _ _ s₀ _ ((compTurn (.GeneratorExp elt [⟨tg, iter, ifs, 0⟩] scope pos) 0 (.ref it) .none cenv).onRaise (leaving cenv)) [] s
    rw [compTurn_gen, Sem.onRaise_eq_wrap]
    refine seg_bind_wrap (wpAny_standAt ?_)
    rcases step i H w with ⟨stop, qt⟩ | ⟨_, hlt, _⟩
    · refine seg_bind_wrap (ov (GenW.wpAny_gsz gi.gl (thnF (T.done (X.gen s1 H1 cenv fp) rfl rfl rfl hc i pg s _ H (fun _ _ => False) gi.inv (stat gi.fr) gi.st stop) fun r s6 ⟨hr, I6⟩ => ?_)))
      subst hr
      exact fun gl => seg_end (.ok .next) ⟨rfl, H, I6, gl, qt⟩
    · omega
  | succ k ih =>
    intro i n s₀ s H hk hn gi w
    show Seg _ _ _ _ _ s₀ _ ((compTurn (.GeneratorExp elt [⟨tg, iter, ifs, 0⟩] scope pos) 0 (.ref it) .none cenv).onRaise (leaving cenv)) [] s
    rw [compTurn_gen, Sem.onRaise_eq_wrap]
    refine seg_bind_wrap (wpAny_standAt ?_)
    rcases step i H w with ⟨stop, qt⟩ | ⟨go, hlt, step⟩
    · refine seg_bind_wrap (ov (GenW.wpAny_gsz gi.gl (thnF (T.done (X.gen s1 H1 cenv fp) rfl rfl rfl hc i pg s _ H (fun _ _ => False) gi.inv (stat gi.fr) gi.st stop) fun r s6 ⟨hr, I6⟩ => ?_)))
      subst hr
      exact fun gl => seg_end (.ok .next) ⟨rfl, H, I6, gl, qt⟩
    · refine seg_bind_wrap (ov (GenW.wpAny_gsz gi.gl (thnF (T.item (X.gen s1 H1 cenv fp) rfl rfl rfl hc i pg s _ H (fun _ _ => False) gi.inv (stat gi.fr) gi.st go) fun r s4 ⟨u, hr, h4⟩ => ?_)))
      subst hr
      intro gl4
      refine seg_bind_wrap (ov (GenW.wpAny_gsz gl4 (thnF h4 fun _ s5 ⟨x, H5, I5, r5, y5, st5, fr5⟩ => ?_)))
      intro gl5
      have I5' := I5.pinned (stat fr5) (T.obj _ _ st5)
      refine seg_bind_wrap (ov (GenW.wpAny_gsz gl5 (thnF (hg.run _ s5 _ H5 x u _ I5' r5 (step x H5 y5)) fun _ s6 ⟨σ6, H6, I6, hw6, q6⟩ => ?_)))
      intro gl6
      refine seg_bind_wrap (ov (GenW.wpAny_gsz gl6 (thnF (ht.run _ s6 σ6 H6 _ I6 q6) fun b s7 ⟨H7, I7, q7⟩ => ?_)))
      intro gl7
      have hl6 : (wipe σ vs).length = σ6.length := by rw [← hw6, wipe_length]
      have fin : ∀ {s' : Shared} {H' : Hp}, Inv (X.gen s1 H1 cenv fp) (pg ++ pinsAt fp s5.heap) σ6 H' s' → g + 1 ≤ s'.gens.size → GI (X.gen s1 H1 cenv fp) pg (wipe σ vs) fp tn g (i + 1) H' s' := fun {s' H'} I' gl => by
        have pin' : ∀ b ∈ fp, ∀ o, s5.heap.get? b = some o → s'.heap.get? b = some o ∧ H' b = none := fun b hb o e =>
          let z := I'.pin (b, o) (List.mem_append_right _ (List.mem_append_right _ (mem_pinsAt hb e)))
          ⟨z.1, z.2.1⟩
        refine ⟨(I'.unpinned (pins := pg)).weak hl6 (fun j v e => ?_), T.keep _ _ _ st5 fun b hb o e => (pin' b hb o e).1, fun b hb => ?_, gl⟩
        · rw [← hw6] at e
          exact (wipe_some e).1
        · obtain ⟨o, e, _⟩ := T.obj _ _ st5 b hb
          exact (pin' b hb o e).2
      cases b with
      | false =>
        simp only [Bool.false_eq_true, if_false] at q7 ⊢
        exact seg_again rfl (ih (i + 1) n s₀ s7 H7 (by omega) (by omega) (fin I7 gl7) q7)
      | true =>
        simp only [if_true] at q7 ⊢
        have hy : ∀ v, yieldOut cenv v = yieldValue v := fun v => by simp only [yieldOut, hco, Bool.false_eq_true, if_false]
        simp only [hy]
        rw [Sem.bind_eq_wrap', Sem.bind_eq_wrap', Sem.wrap_wrap, Sem.wrap_wrap]
        refine seg_wrap (ov (GenW.wpAny_gsz gl7 (thnF (he.run _ s7 σ6 H7 _ I7 q7) fun y s8 ⟨yv, H8, I8, r8, c, hc8, q8⟩ => ?_)))
        intro gl8
        subst hc8
        cases r8
        obtain ⟨n', rfl⟩ : ∃ n', n = n' + 1 := ⟨n - 1, by omega⟩
        exact seg_at (seg_yield rfl rfl rfl ⟨i + 1, c, H8, rfl, fin I8 gl8, q8, fun s'' gi'' w'' => seg_again rfl (ih (i + 1) n' s'' s'' H8 (by omega) (by omega) gi'' w'')⟩)
theorem seg_gen0 (T : Turn X.prog X.w X.K tg J fp it tn) {n : Nat} {s₀ s : Shared} {R : GenEnd} {Y : Protocol} (hst : tn 0 s.heap)
    (loop : Seg (model X.prog X.w) X.A.in1.in1 R Y n s₀ (.compLoop (.GeneratorExp elt [⟨tg, iter, ifs, 0⟩] scope pos) 0 (.ref it) .none cenv) ((model X.prog X.w).den (.compLoop (.GeneratorExp elt [⟨tg, iter, ifs, 0⟩] scope pos) 0 (.ref it) .none cenv)) [] s) :
    Seg (model X.prog X.w) X.A.in1.in1 R Y n s₀ (.compStart (.GeneratorExp elt [⟨tg, iter, ifs, 0⟩] scope pos) 0 (.ref it) .none cenv) ((model X.prog X.w).den (.compStart (.GeneratorExp elt [⟨tg, iter, ifs, 0⟩] scope pos) 0 (.ref it) .none cenv)) [] s := by
  show Seg _ _ _ _ _ s₀ _ ((compStart (.GeneratorExp elt [⟨tg, iter, ifs, 0⟩] scope pos) 0 (.ref it) .none cenv).onRaise (leaving cenv)) [] s
  unfold compStart
  rw [Sem.onRaise_eq_wrap]
  show Seg _ _ _ _ _ s₀ _ ((ask >>= _).wrap _ _ _ _) [] s
  refine seg_bind_wrap (wpAny_askSetting ?_)
  split
  · exact seg_again rfl loop
  · first
      | exact seg_bind_wrap (wpAny_rule (seg_bind_wrap (wpAny_standAt (seg_bind_wrap (T.self _ 0 s _ _ hst (seg_again rfl loop))))))
      | (refine seg_bind_wrap (wpAny_rule ?_); show Seg _ _ _ _ _ s₀ _ ((standAt iter.pos >>= _).wrap _ _ _ _) [] s; exact seg_bind_wrap (wpAny_standAt (seg_bind_wrap (T.self _ 0 s _ _ hst (seg_again rfl loop)))))
theorem all_gen {a : Addr} {RR : Result → Shared → Prop} (hh : X.A.handled = none) (hroom : X.A.depth < recursionLimit) (hgen : ∀ s H, Inv (X.gen s1 H1 cenv fp) pg (wipe σ vs) H s → s.heap.IsGen a g)
    (hT : ∀ s' H', Inv (X.gen s1 H1 cenv fp) pg (wipe σ vs) H' s' → QT H' → RR (.ok (.ret (.bool true))) s') (hF : ∀ s' H', Inv (X.gen s1 H1 cenv fp) pg (wipe σ vs) H' s' → QF H' → RR (.ok (.ret (.bool false))) s') :
    ∀ (n i : Nat) (s : Shared) (H : Hp) (gs : GenState), GI (X.gen s1 H1 cenv fp) pg (wipe σ vs) fp tn g i H s → s.gens[g]? = some gs → W i H →
      (∀ s'', GI (X.gen s1 H1 cenv fp) pg (wipe σ vs) fp tn g i H s'' → W i H → gs.Goes (model X.prog X.w) X.A.in1.in1 (fun n s₀ r s₁ => r = .ok .next ∧ GR (X.gen s1 H1 cenv fp) pg (wipe σ vs) g QT n s₀ s₁) (GY (X.gen s1 H1 cenv fp) pg (wipe σ vs) fp tn g W QF) n (.send .none) s'') →
      codeAny (model X.prog X.w) X.A (.builtin "all.loop" ⟨[.ref a], []⟩) RR s := by
  intro n
  induction n with
  | zero =>
    intro i s H gs gi hgs w hgo
    refine codeAny_builtin F.entry_all_loop ?_
    rw [Around.under_plainId F.plain_all_loop _]
    show wpAny _ X.A.in1 (pyNext (.ref a) >>= _) _ _ s
    refine wpAny_bind (wpAny_pyNext_genexpQ (P := GR (X.gen s1 H1 cenv fp) pg (wipe σ vs) g QT) hh gi.inv.nolimit hroom (hgen s H gi.inv) hgs (hgo _ (gi.setGen rfl) w) (fun v s₁ gs' hb hv => ?_) (fun s₁ hp h' hk => ?_))
    · obtain ⟨j, b, H', rfl, gi', q, kap⟩ := hv
      cases b with
      | true => exact False.elim (kap _ gi' q)
      | false =>
        refine wpAny_bind (wpAny_holding (wpAny_truthy_bool ?_))
        refine wpAny_bind (wpAny_letGo ?_)
        exact wpAny_bind (wpAny_rule (wpAny_pure (hF _ H' (gi'.inv.setGen hb) q)))
    · obtain ⟨H', I', gl', qt⟩ := hp
      exact wpAny_bind (wpAny_rule (wpAny_pure (hT _ H' ((I'.setGen (gs := .finished) rfl).kept hk) qt)))
  | succ n ih =>
    intro i s H gs gi hgs w hgo
    refine codeAny_builtin F.entry_all_loop ?_
    rw [Around.under_plainId F.plain_all_loop _]
    show wpAny _ X.A.in1 (pyNext (.ref a) >>= _) _ _ s
    refine wpAny_bind (wpAny_pyNext_genexpQ (P := GR (X.gen s1 H1 cenv fp) pg (wipe σ vs) g QT) hh gi.inv.nolimit hroom (hgen s H gi.inv) hgs (hgo _ (gi.setGen rfl) w) (fun v s₁ gs' hb hv => ?_) (fun s₁ hp h' hk => ?_))
    · obtain ⟨j, b, H', rfl, gi', q, kap⟩ := hv
      cases b with
      | true =>
        refine wpAny_bind (wpAny_holding (wpAny_truthy_bool ?_))
        refine wpAny_bind (wpAny_letGo ?_)
        simp only [if_true] at q ⊢
        refine wpAny_pure ⟨plainId_quiet F.plain_all_loop _, ih j _ H' gs' (gi'.setGen hb) ?_ q kap⟩
        have := gi'.gl
        simp only [Shared.setGen]
        exact Array.getElem?_setIfInBounds_self_of_lt (by omega)
      | false =>
        refine wpAny_bind (wpAny_holding (wpAny_truthy_bool ?_))
        refine wpAny_bind (wpAny_letGo ?_)
        exact wpAny_bind (wpAny_rule (wpAny_pure (hF _ H' (gi'.inv.setGen hb) q)))
    · obtain ⟨H', I', gl', qt⟩ := hp
      exact wpAny_bind (wpAny_rule (wpAny_pure (hT _ H' ((I'.setGen (gs := .finished) rfl).kept hk) qt)))
end
section
variable {X : Cx}
/-- behind the iterator's making the def's table of code objects may have grown -/
def tAllG (P : Addr) (wi : TI) (g : TG) (tt : TT) (te : TE) (vs : List Nat) : TE := fun σ H Q => wi σ H fun J H1 => GxR.TabG H1 P ∧ ∀ H2, GxR.Tabbed P H1 H2 → (∃ ps more, H1 P = some (.tbl ps) ∧ H2 = upd H1 P (.tbl (ps ++ more)) ∧ TriplesOk (ps ++ more).toList) → ∃ (N : Nat) (W : Nat → Hp → Prop), W 0 H2 ∧
  ∀ i H, W i H → (J.stop i H ∧ Q (.bl true) H) ∨ (J.go i H ∧ i < N ∧ ∀ x H', J.yld i H x H' → g x (wipe σ vs) H' fun σ2 H3 => wipe σ2 vs = wipe σ vs ∧ tt σ2 H3 fun b H4 =>
      if b = true then te σ2 H4 fun y H5 => ∃ c, y = .bl c ∧ (if c = true then W (i + 1) H5 else Q (.bl false) H5) else W (i + 1) H4)
theorem pe_allG {c P : Addr} {elt tg iter : Expr} {ifs : List Expr} {scope : Scope} {own : List (Str × Nat)} {p pos gpos : Pos} {wi : TI} {g : TG} {tt : TT} {te : TE} {k : Nat} (hr : Room k X.A) (hc : X.calm = true) (hN : X.N.Nodup) (hm : X.mg "all" = none) (hb : bootBuiltins "all" = some (.builtin "all"))
    (TB : GxR.TabB X.base X.mg c P) (hcode : X.env.code = .ref c) (hi : PI X tg iter wi) (ok : BlkOk X.N X.env.scope scope own) (gk : GenK scope)
    (hg : ∀ (s : Shared) (H : Hp) (C : Addr) (code : Value) (fp : List Addr), PG (X.gen s H (genE X scope C code) fp) tg g) (ht : ∀ (s : Shared) (H : Hp) (C : Addr) (code : Value) (fp : List Addr), PTs (X.gen s H (genE X scope C code) fp) ifs tt)
    (he : ∀ (s : Shared) (H : Hp) (C : Addr) (code : Value) (fp : List Addr), PE (X.gen s H (genE X scope C code) fp) elt te) (hgl : Gl X "all" := by rfl) (hs : ∀ v, genFold iter X.env v = pure v := by intro _; rfl)
    (hst : starEach [.GeneratorExp elt [⟨tg, iter, ifs, 0⟩] scope gpos] X.env = (false, eval (.GeneratorExp elt [⟨tg, iter, ifs, 0⟩] scope gpos) X.env) :: starEach [] X.env := by rfl) :
    PE X (.Call (.Name "all" p) [.GeneratorExp elt [⟨tg, iter, ifs, 0⟩] scope gpos] [] pos) (tAllG P wi g tt te (own.map (·.2))) := by
  refine ⟨fun pins s σ H Q I h => ?_⟩
  refine wpAny_Call_Name_kw (ld_blt I hgl hm hb ?_)
  refine PyProof.Rows.callWith_builtin1 ?_ hst (by rfl)
  rw [hst]
  show wpAny _ _ (spliced ((false, eval (.GeneratorExp elt [⟨tg, iter, ifs, 0⟩] scope gpos) X.env) :: backTo pos (starEach [] X.env))) _ _ s
  have hfree : ∀ y ∈ scope.names, y.2 = .free → ∃ c, X.env.cells.lookup y.1 = some c := fun y hy e => by
    rcases ok.free y hy e with k | k
    · exact I.ok.has _ (.inl k)
    · exact I.ok.has _ (.inr k)
  have hdp : X.A.depth < recursionLimit := by have := hr.dp; omega
  refine Calls.spliced_cons (wpAny_GeneratorExp_make gk.co (closure_ok hfree) gk.cell gk.dot ok.kind hdp (thn (hi.run pins s σ H _ I h) fun xv s1 hx => thn hx fun itv s2 h2 => ?_) hs)
  obtain ⟨it, fp, tn, J, H2, e, I2, T, st2, f2, ⟨ps, hP, htr⟩, q⟩ := h2
  subst e
  refine ⟨I2.nolimit, ?_⟩
  have hPs : s2.heap.get? P = some { cls := .none, data := .fields ps } := I2.hok P _ hP
  have hPlt : P < s2.heap.objs.size := Heap.lt_size hPs
  have cd : PySem.W.CodeHd s2.heap c P := TB.code.keeps fun b u e => I2.bk b u e
  have cont : ∀ (code : Value) (h3 : Heap) (tk : Nat) (ps' : Array Value), Heap.ExtBut P s2.heap h3 → s2.heap.objs.size ≤ h3.objs.size → h3.get? P = some { cls := .none, data := .fields ps' } → (∃ more, ps' = ps ++ more) → TriplesOk ps'.toList →
      wpAny (model X.prog X.w) X.A (builtinsFor X.env.globals X.env.builtins) (fun bi s₄ => ∀ h', h'.Ns s₄.heap.objs.size (fun y => if y = ".0" then some (.ref it) else none) → Heap.SameBut s₄.heap.objs.size (s₄.heap.push { cls := .type "frame", data := .dict #[] }) h' →
          (fun (gv : Value) (s5 : Shared) => wpAny (model X.prog X.w) X.A (spliced (backTo pos (starEach [] X.env))) (fun vs s' => wpAny (model X.prog X.w) X.A (call (.builtin "all") (gv :: vs)) (EP X pins σ Q) X.xe s') X.xe s5) (.ref h'.objs.size) { s₄ with
            gens := s₄.gens.push (.fresh (.compStart (.GeneratorExp elt [⟨tg, iter, ifs, 0⟩] scope gpos) 0 (.ref it) .none (genEnv scope (cloFrom X.env.cells scope.names []) s₄.heap.objs.size code bi X.env))),
            toks := s₄.toks + 1 + 1 + 1,
            heap := h'.push { cls := .type "generator", data := .fields #[.int s₄.gens.size 0, .str "<genexpr>" (s₄.toks + 1), .str (X.env.qual ++ "<genexpr>") (s₄.toks + 1 + 1)] } }) X.xe { s2 with heap := h3, toks := tk } := by
    intro code h3 tk ps' hx hsz hP3 hmore ht3
    obtain ⟨bm, ob, e1, e2, e3, e4, e5, e6, e7, e8⟩ := TB.bm
    refine wpAny_builtinsFor (m := X.mg) (by rw [I2.ok.glob]; exact (I2.mod.glob.keeps I2.bk).extBut hx TB.gP) e1 e2 (hx _ _ e4 (I2.bk _ _ e5)) e6 e7 e8 ?_
    intro h' hn hsb
    refine Calls.spliced_nil ?_
    obtain ⟨more, rfl⟩ := hmore
    have I3 : Inv X pins σ (upd H2 P (.tbl (ps ++ more))) { s2 with heap := h3, toks := tk } := GxR.inv_tab (more := more) (h' := h3) (g' := s2.gens) (d' := s2.drawn) (t' := tk) I2 hP (fun b o hb e => hx b o hb e) hP3 I2.bare
    obtain ⟨N, W, w0, step⟩ := q _ ⟨⟨ps ++ more, upd_same, ht3⟩, fun b hb => upd_ne hb⟩ ⟨ps, more, hP, rfl, ht3⟩
    have fne : ∀ b ∈ fp, b ≠ P := fun b hb z => by
      have := (f2 b hb).1
      rw [z, hP] at this
      cases this
    have f3 : ∀ b ∈ fp, FpOk X pins (upd H2 P (.tbl (ps ++ more))) b ∧ b < h3.objs.size := fun b hb => by
      obtain ⟨o, e, _⟩ := T.obj _ _ st2 b hb
      exact ⟨⟨by rw [upd_ne (fne b hb)]; exact (f2 b hb).1, (f2 b hb).2⟩, Nat.lt_of_lt_of_le (Heap.lt_size e) hsz⟩
    have J0 := gen_start (code := code) (og := { cls := .type "generator", data := .fields #[.int s2.gens.size 0, .str "<genexpr>" (tk + 1), .str (X.env.qual ++ "<genexpr>") (tk + 1 + 1)] })
      (gs := .fresh (.compStart (.GeneratorExp elt [⟨tg, iter, ifs, 0⟩] scope gpos) 0 (.ref it) .none (genE X scope h3.objs.size code))) (tk := tk + 1 + 1 + 1) I3 ok gk hN f3 hn hsb (fun v z => by cases z) rfl rfl
    have sz' : h'.objs.size = h3.objs.size + 1 := by rw [hsb.1, Heap.size_push]
    have kp3 : ∀ b o, h3.get? b = some o → h'.get? b = some o := fun b o e => hsb.extBut b o (Nat.ne_of_lt (Heap.lt_size e)) (Heap.get?_push_of_some _ e)
    have gi : GI (X.gen { s2 with heap := h3, toks := tk } (upd H2 P (.tbl (ps ++ more))) (genE X scope h3.objs.size code) fp) [(h'.objs.size, { cls := .type "generator", data := .fields #[.int s2.gens.size 0, .str "<genexpr>" (tk + 1), .str (X.env.qual ++ "<genexpr>") (tk + 1 + 1)] })] (wipe σ (own.map (·.2))) fp tn s2.gens.size 0 (upd H2 P (.tbl (ps ++ more)))
        { s2 with heap := h'.push { cls := .type "generator", data := .fields #[.int s2.gens.size 0, .str "<genexpr>" (tk + 1), .str (X.env.qual ++ "<genexpr>") (tk + 1 + 1)] }, gens := s2.gens.push (.fresh (.compStart (.GeneratorExp elt [⟨tg, iter, ifs, 0⟩] scope gpos) 0 (.ref it) .none (genE X scope h3.objs.size code))), toks := tk + 1 + 1 + 1 } :=
      ⟨J0, T.keep _ _ _ st2 fun b hb o e => Heap.get?_push_of_some _ (kp3 b o (hx b o (fne b hb) e)), fun b hb => (f3 b hb).1.1, by rw [Array.size_push]; exact Nat.le_refl _⟩
    have stat : ∀ {H' : Hp}, (∀ b ∈ fp, H' b = none) → ∀ b ∈ fp, FpOk (X.gen { s2 with heap := h3, toks := tk } (upd H2 P (.tbl (ps ++ more))) (genE X scope h3.objs.size code) fp) [(h'.objs.size, { cls := .type "generator", data := .fields #[.int s2.gens.size 0, .str "<genexpr>" (tk + 1), .str (X.env.qual ++ "<genexpr>") (tk + 1 + 1)] })] H' b := fun {H'} hn b hb =>
      ⟨hn b hb, (J0.ok.exf b hb).1, J0.ok.exfs b hb, .inl hb, fun x c e => (J0.ok.exf b hb).2 x c e, fun p hp => by
        have e : p = (h'.objs.size, { cls := .type "generator", data := .fields #[.int s2.gens.size 0, .str "<genexpr>" (tk + 1), .str (X.env.qual ++ "<genexpr>") (tk + 1 + 1)] }) := by simpa using hp
        rw [e]
        intro z
        have := (f3 b hb).2
        have z : h'.objs.size = b := z
        rw [← z, sz'] at this
        exact absurd this (Nat.not_lt.mpr (Nat.le_succ _))⟩
    have back : ∀ s' H', Inv (X.gen { s2 with heap := h3, toks := tk } (upd H2 P (.tbl (ps ++ more))) (genE X scope h3.objs.size code) fp) [(h'.objs.size, { cls := .type "generator", data := .fields #[.int s2.gens.size 0, .str "<genexpr>" (tk + 1), .str (X.env.qual ++ "<genexpr>") (tk + 1 + 1)] })] (wipe σ (own.map (·.2))) H' s' → Inv X pins σ H' s' := fun s' H' I6 =>
      I3.call' (ch := fp) I6.os I6.base I6.hok I6.bare fun b hb => ⟨(f3 b hb).1.2.2.2.1, (f3 b hb).1.2.1, (f3 b hb).1.2.2.2.2.1, (f3 b hb).1.2.2.2.2.2⟩
    refine call_function_tree F.kind_all F.plain_all F.entry_all (F.args_all1 _) ?_
    unfold Builtin.«all»
    refine wpAny_bind (m := oneArg "all" _) (wpAny_pure ?_)
    have isg : ∀ s H, Inv (X.gen { s2 with heap := h3, toks := tk } (upd H2 P (.tbl (ps ++ more))) (genE X scope h3.objs.size code) fp) [(h'.objs.size, { cls := .type "generator", data := .fields #[.int s2.gens.size 0, .str "<genexpr>" (tk + 1), .str (X.env.qual ++ "<genexpr>") (tk + 1 + 1)] })] (wipe σ (own.map (·.2))) H s → s.heap.IsGen h'.objs.size s2.gens.size := fun s H I6 =>
      ⟨_, _, _, (I6.pin _ (List.mem_append_right _ (List.mem_singleton.mpr rfl))).1, rfl, rfl, rfl⟩
    refine wpAny_bind (wpAny_pyIter_gen (isg _ _ gi.inv) ?_)
    refine wpAny_pure ⟨plainId_quiet F.plain_all_loop _, ?_⟩
    refine all_gen (QT := fun H' => Q (.bl true) H') (QF := fun H' => Q (.bl false) H') (fp := fp) (tn := tn) (W := W) hr.hd hdp isg (fun s' H' I6 q => ⟨.bl true, H', back s' H' I6, rfl, q⟩) (fun s' H' I6 q => ⟨.bl false, H', back s' H' I6, rfl, q⟩) N 0 _ _ _ gi (Array.getElem?_push_size ..) w0 (fun s'' gi'' w'' => ⟨rfl, ?_⟩)
    exact seg_gen0 T gi''.st (seg_gen (N := N) hc T stat (hg _ _ _ _ _) (ht _ _ _ _ _) (he _ _ _ _ _) gk.co step N 0 N _ _ _ (Nat.sub_zero _) (Nat.le_refl _) gi'' w'')
  cases hf : codeAmong gpos ps.toList with
  | none =>
    refine wpAny_genexprCodeX hcode (cd.code hPs htr) (cd.tab hPs) hf fun c' h' tk hx hge hlt hco' _ htab' _ => ?_
    obtain ⟨o1, vs, f1, tf, fl, tg, inF, tx, tt, op, _, _, _, _, _, _, _, _, _, htr, _⟩ := hco'
    exact cont _ h' tk _ hx (Nat.le_trans hge (Nat.le_of_lt hlt)) htab'.2 ⟨_, rfl⟩ htr
  | some cv =>
    refine wpAny_genexprCode_hit hcode (cd.code hPs htr) hf ?_
    exact cont cv s2.heap s2.toks ps (Heap.ExtBut.refl _ _) (Nat.le_refl _) hPs ⟨#[], by simp⟩ htr
end
end L2

set_option Elab.async false
set_option linter.all false
set_option maxRecDepth 100000
set_option maxHeartbeats 4000000
namespace DV
open PySem PySem.Spec PyProof.Rows L2

theorem tab_step {C : Cfg} {Z Fr : Addr → Prop} {H : Hp} {P : Addr} {ps ps' : Array Value} (ok : Ok C Z Fr H) (hP : P ∈ C.tb) (e : H P = some (.tbl ps)) : Step Z Fr H Z (upd H P (.tbl ps')) := by
  have ne : ∀ b u, H b = some u → (∀ q, u ≠ .tbl q) → b ≠ P := fun b u q n y => by rw [y, e] at q; cases q; exact n ps rfl
  refine ⟨fun _ h => h, fun b h => upd_ne fun y => ?_, fun b vs h => by rw [upd_ne (ne b _ h fun _ z => by cases z)]; exact h, fun b o u h => by rw [upd_ne (ne b _ h fun _ z => by cases z)]; exact h, fun _ h _ => h, fun b h => ?_⟩
  · rw [y] at h
    exact h.elim (ok.nz P hP).1 (ok.nz P hP).2
  · by_cases y : b = P
    · rw [y, upd_same]; exact fun z => by cases z
    · rw [upd_ne y]; exact h
theorem EnvR.tab {C : Cfg} {Z Fr : Addr → Prop} {As : Nat → Addr} {σ : L2.St} {H : Hp} {env : En} {P : Addr} {ps ps' : Array Value} (I : EnvR C Z Fr As σ H env) (hP : P ∈ C.tb) (e : H P = some (.tbl ps)) (t : TriplesOk ps'.toList) :
    EnvR C Z Fr As σ (upd H P (.tbl ps')) env := by
  have st : Step Z Fr H Z (upd H P (.tbl ps')) := tab_step I.ok hP e
  have ne : ∀ b u, H b = some u → (∀ q, u ≠ .tbl q) → b ≠ P := fun b u q n y => by rw [y, e] at q; cases q; exact n ps rfl
  refine ⟨⟨fun b h => st.non b (I.ok.z b h), fun b h => st.non b (I.ok.f b h), I.ok.zf, fun P' hP' => ?_, I.ok.nz⟩, I.len, fun i v x h1 h2 => ?_, I.apart⟩
  · by_cases y : P' = P
    · exact ⟨ps', by rw [y, upd_same], t⟩
    · obtain ⟨q, h, k⟩ := I.ok.tab P' hP'
      exact ⟨q, by rw [upd_ne y]; exact h, k⟩
  · have s := I.slot i v x h1 h2
    rcases x with _ | ⟨d | ⟨t2, m2⟩ | ns⟩
    · exact True.intro
    · obtain ⟨u, q, y⟩ := s
      exact ⟨u, q, y.step st⟩
    · obtain ⟨b, q, y, z2, f2, k2⟩ := s
      refine ⟨b, q, y.step st (upd_ne fun z => ?_), z2, f2, k2⟩
      have mu := y.mut
      rw [z, e] at mu
      exact mu
    · obtain ⟨u, q, y⟩ := s
      exact ⟨u, q, st.sqs y⟩
theorem wipe_wipe {σ : L2.St} {vs : List Nat} : wipe (wipe σ vs) vs = wipe σ vs := by
  have : ∀ us : List Nat, (∀ u ∈ us, u ∈ vs) → wipe (wipe σ us) vs = wipe σ vs := by
    intro us
    induction us with
    | nil => intro _; rfl
    | cons u us ih =>
      intro h
      show wipe ((wipe σ us).set u none) vs = _
      rw [wipe_set (h u (by simp)), ih fun x hx => h x (by simp [hx])]
  exact this vs fun _ h => h

/-! ### all(elt for tg in iter if ..) -/
def dAllL (g : DG) (t : DT) (w : DE) (vs : List Nat) : List D → En → (Bool → En → Prop) → Prop
  | [], env, Q => Q true env
  | d :: ds, env, Q => g (.val d) (wipeE vs env) fun e1 => t e1 fun b e2 => if b = true then w e2 fun r e3 => need (isB r) fun c => if c = true then dAllL g t w vs ds e3 Q else Q false e3 else dAllL g t w vs ds e2 Q
theorem dAllL_mono {g : DG} {t : DT} {w : DE} {vs : List Nat} (mg : MonoT g) (mt : Mono t) (mw : Mono w) : ∀ ds env Q Q', (∀ r e, Q r e → Q' r e) → dAllL g t w vs ds env Q → dAllL g t w vs ds env Q'
  | [], _, _, _, k, q => k _ _ q
  | d :: ds, env, Q, Q', k, q => mg _ _ _ _ (fun e1 q => mt e1 _ _ (fun b e2 q => by
    cases b with
    | true => exact mw e2 _ _ (fun r e3 q => by
        obtain ⟨c, ec, q⟩ := need_out q
        refine need_in ec ?_
        cases c with
        | true => exact dAllL_mono mg mt mw ds e3 _ _ k q
        | false => exact k _ _ q) q
    | false => exact dAllL_mono mg mt mw ds e2 _ _ k q) q) q
def dAll (wi : DI) (g : DG) (t : DT) (w : DE) (vs : List Nat) : DE := fun env Q => wi env fun ds e => dAllL g t w vs ds (wipeE vs e) fun c e' => Q (.val (.bool c)) (backE e vs (wipeE vs e'))
theorem dAll_mono {wi : DI} {g : DG} {t : DT} {w : DE} {vs : List Nat} (mi : Mono wi) (mg : MonoT g) (mt : Mono t) (mw : Mono w) : Mono (dAll wi g t w vs) := fun env Q Q' k q =>
  mi env _ _ (fun ds e q => dAllL_mono mg mt mw ds _ _ _ (fun _ _ => k _ _) q) q
theorem all_lift {C : Cfg} {P : Addr} {wi : DI} {g : DG} {t : DT} {w : DE} {vs : List Nat} (hP : P ∈ C.tb) (mi : Mono wi) (mg : MonoT g) (mt : Mono t) (mw : Mono w) : ∀ σ H Q, tE C (dAll wi g t w vs) σ H Q → tAllG P (tI C wi) (tGW C vs g) (tT C t) (tE C w) vs σ H Q := fun σ H Q ⟨Z, Fr, As, env, I, q⟩ => by
  refine ⟨Z, Fr, As, env, I, mi env _ _ (fun ds e1 q J H1 Z1 st1 I1 ok => ⟨I1.ok.tab P hP, fun H2 _ hx => ?_⟩) q⟩
  obtain ⟨ps, more, eP, rfl, tr⟩ := hx
  have I2 := I1.tab hP eP tr
  have st2 : Step Z1 Fr H1 Z1 (upd H1 P (.tbl (ps ++ more))) := tab_step I1.ok hP eP
  generalize upd H1 P (.tbl (ps ++ more)) = H2 at I2 st2
  have Iw : EnvR C Z1 Fr As (wipe σ vs) H2 (wipeE vs (wipeE vs e1)) := by
    have := (I2.wipe vs).wipe vs
    rw [wipe_wipe] at this
    exact this
  refine ⟨ds.length, fun i H3 => i ≤ ds.length ∧ ∃ Z3 env3, Step Z1 Fr H1 Z3 H3 ∧ EnvR C Z3 Fr As (wipe σ vs) H3 (wipeE vs env3) ∧
      dAllL g t w vs (ds.drop i) env3 fun c e' => ∀ v H' Z', Step Z3 Fr H3 Z' H' → EnvR C Z' Fr As σ H' (backE e1 vs (wipeE vs e')) → ResR C Z' Fr σ (backE e1 vs (wipeE vs e')) H' v (.val (.bool c)) → Q v H',
    ⟨Nat.zero_le _, Z1, wipeE vs e1, st2, Iw, dAllL_mono mg mt mw ds _ _ _ (fun c e' q v H' Z' st I' R => q v H' Z' ((st1.trans st2).trans st) I' R) q⟩, ?_⟩
  rintro i H3 ⟨hi, Z3, env3, st3, I3, q3⟩
  obtain ⟨go, stop⟩ := ok Z3 H3 i st3 I3.ok
  by_cases hlt : i < ds.length
  · refine .inr ?_
    have ed : ds[i]? = some ds[i] := List.getElem?_eq_getElem hlt
    obtain ⟨go, yl⟩ := go _ ed
    rw [List.drop_eq_getElem_cons hlt] at q3
    refine ⟨go, hlt, fun x H4 y => ?_⟩
    obtain ⟨y1, rx⟩ := yl x H4 y
    obtain ⟨I4, st4⟩ := yld_env I3 y1
    refine ⟨Z3, Fr, As, wipeE vs env3, .val ds[i], I4, rx, mg _ _ _ _ (fun e5 q5 σ5 H5 Z5 st5 I5 hw5 => ?_) q3⟩
    have hw : wipe σ5 vs = wipe σ vs := hw5.trans wipe_wipe
    refine ⟨hw, Z5, Fr, As, e5, I5, mt e5 _ _ (fun b e6 q6 H6 Z6 st6 I6 => ?_) q5⟩
    have st36 : Step Z3 Fr H3 Z6 H6 := (st4.trans st5).trans st6
    cases b with
    | false =>
      simp only [Bool.false_eq_true, if_false] at q6 ⊢
      have I7 := I6.wipe vs
      rw [hw] at I7
      exact ⟨hlt, Z6, e6, st3.trans st36, I7, dAllL_mono mg mt mw _ _ _ _ (fun c e' q v H' Z' st I' R => q v H' Z' (st36.trans st) I' R) q6⟩
    | true =>
      simp only [if_true] at q6 ⊢
      refine ⟨Z6, Fr, As, e6, I6, mw e6 _ _ (fun r e7 q7 yv H7 Z7 st7 I7 ry => ?_) q6⟩
      obtain ⟨c, ec, q7⟩ := need_out q7
      have er := isB_eq ec
      subst er
      cases ry
      have st37 : Step Z3 Fr H3 Z7 H7 := st36.trans st7
      have I8 := I7.wipe vs
      rw [hw] at I8
      refine ⟨c, rfl, ?_⟩
      cases c with
      | true =>
        simp only [if_true] at q7 ⊢
        exact ⟨hlt, Z7, e7, st3.trans st37, I8, dAllL_mono mg mt mw _ _ _ _ (fun c e' q v H' Z' st I' R => q v H' Z' (st37.trans st) I' R) q7⟩
      | false =>
        simp only [Bool.false_eq_true, if_false] at q7 ⊢
        exact q7 _ H7 Z7 st37 (I1.back (st3.trans st37) I8) (Rp.bl _)
  · refine .inl ⟨stop (by omega), ?_⟩
    rw [List.drop_eq_nil_of_le (by omega)] at q3
    exact q3 _ H3 Z3 Step.refl (I1.back st3 I3) (Rp.bl _)
section
variable {tb : List Addr} {X : Cx}
theorem se_all {c P : Addr} {elt tg iter : Expr} {ifs : List Expr} {scope : Scope} (own : List (Str × Nat)) {p pos gpos : Pos} {wi : DI} {g : DG} {t : DT} {w : DE} {k : Nat} (hr : RoomG k X.A) (hc : X.calm = true) (hN : X.N.Nodup) (hP : P ∈ tb) (TB : GxR.TabB X.base X.mg c P) (hcode : X.env.code = .ref c) (hm : X.mg "all" = none)
    (hb : bootBuiltins "all" = some (.builtin "all")) (hi : SI tb X tg iter wi) (ok : BlkOk X.N X.env.scope scope own) (gk : GenK scope)
    (hg : ∀ (s : Shared) (H : Hp) (C : Addr) (code : Value) (fp : List Addr), SGb (own.map (·.2)) tb (X.gen s H (genE X scope C code) fp) tg g) (ht : ∀ (s : Shared) (H : Hp) (C : Addr) (code : Value) (fp : List Addr), STs tb (X.gen s H (genE X scope C code) fp) ifs t)
    (he : ∀ (s : Shared) (H : Hp) (C : Addr) (code : Value) (fp : List Addr), SE tb (X.gen s H (genE X scope C code) fp) elt w) (hgl : Gl X "all" := by rfl) (hs : ∀ v, genFold iter X.env v = pure v := by intro _; rfl)
    (hst : starEach [.GeneratorExp elt [⟨tg, iter, ifs, 0⟩] scope gpos] X.env = (false, eval (.GeneratorExp elt [⟨tg, iter, ifs, 0⟩] scope gpos) X.env) :: starEach [] X.env := by rfl) :
    SE tb X (.Call (.Name "all" p) [.GeneratorExp elt [⟨tg, iter, ifs, 0⟩] scope gpos] [] pos) (dAll wi g t w (own.map (·.2))) :=
  have s0 : Shared := X.s_0
  have mg := (hg s0 (fun _ => none) 0 .none []).mono
  have mt := (ht s0 (fun _ => none) 0 .none []).mono
  have mw := (he s0 (fun _ => none) 0 .none []).mono
  ⟨dAll_mono hi.mono mg mt mw, (pe_allG hr.room hc hN hm hb TB hcode hi.pi ok gk (fun s H C code fp => (hg s H C code fp).pg) (fun s H C code fp => (ht s H C code fp).pt) (fun s H C code fp => (he s H C code fp).pe) hgl hs hst).imp (all_lift (C := ⟨X.K, tb⟩) hP hi.mono mg mt mw)⟩
/-- the room in the generator's frame -/
theorem RoomG.gen {k : Nat} {A : Around} {env : Env} (h : RoomG (k + 1) A) : RoomG k (A.in1.in1.deeper env) :=
  ⟨⟨h.room.hd, by have := h.room.dp; show A.depth + 1 + 3 * k + 5 < _; omega, by have := h.room.un; show A.units + 1 + 1 + 3 + 16 * k + 200 < _; omega⟩, h.gd⟩
theorem boot_all : bootBuiltins "all" = some (.builtin "all") := by first | exact PyProof.Rows.boot_all | decide +kernel
end
end DV

set_option Elab.async false
set_option linter.all false
set_option maxRecDepth 100000
set_option maxHeartbeats 4000000
/-! the end of a law row -/
namespace DV
open PySem PySem.Spec PyProof.Rows L2

/-- what is tracked at the law's entry: the tables, the script if it is no written object -/
def hpL (K : Frag) (a : Addr) (oa : Obj) (xs : List V) (ts : List Addr) : Hp := fun b => if b ∈ ts then some (.tbl #[]) else if b = a ∧ K.lookup a = none then some (.frz oa (.lst xs)) else none
section
variable {P : Program} {w : World} {K : Frag} {mg mb : Str → Option Value} {k : Nat} {fa a : Addr} {cs : List (Addr × Addr)} {fd : FuncData} {x : Str} {fs : FS} {s₁ : Shared} {vs : List Value} {ns : List Int}
theorem law_callG (KX : K.In s₁.heap) (hns : s₁.heap.Ns mainGlobals mg) (hb : s₁.heap.Ns builtinsNs mb) (hbb : ∀ x : Str, x ≠ "__name__" → mb x = bootBuiltins x) (hlim : s₁.heap.NoLimit) (hg : s₁.gens = #[])
    (hT : ∀ p ∈ cs, s₁.heap.get? p.2 = some { cls := .none, data := .fields #[] }) (nT : ∀ p ∈ cs, K.lookup p.2 = none) (C : ∀ p ∈ cs, PySem.W.CodeHd s₁.heap p.1 p.2)
    (hbm : ∃ (bm : Addr) (ob : Obj), mg "__builtins__" = some (.ref bm) ∧ bm ≠ builtinsNs ∧ s₁.heap.get? bm = some ob ∧ ob.cls = .type "module" ∧ ob.dict = some builtinsNs ∧ ob.data = .plain)
    (ha : s₁.heap.get? a = some { cls := .type "list", data := .seq vs.toArray }) (hi : IntsAre vs ns) (hl : ns.length ≤ sizeLine) (hr : RoomG k callerA)
    (F : ∀ base : Heap, K.In base → base.Ns mainGlobals mg → (∀ p ∈ cs, GxR.TabB base mg p.1 p.2) → FnG P w K mg base CX0 (cs.map (·.2)) k fa fd [x] fs) (hbind : ∀ (s : Shared) (u : Value), BindsTo s fd ⟨[u], []⟩ [(x, u)])
    (hfs : fs [.scr ns] (fun r _ => r = .val (.bool true)) fun _ => False) :
    codeAny (model P w) callerA (.call (.ref fa) ⟨[.ref a], []⟩) (fun r s' => r = .ok (.ret (.bool true)) ∧ OldK s₁.heap s'.heap ∧ s'.os = s₁.os ∧ AllBare s'.gens) s₁ := by
  have rv := vals_ints hi
  have lenV := hi.length
  generalize hts : cs.map (·.2) = ts at F ⊢
  have ofT : ∀ b, b ∈ ts → ∃ p ∈ cs, p.2 = b := fun b h => List.mem_map.mp (by rw [hts]; exact h)
  have isT : ∀ b, b ∈ ts → s₁.heap.get? b = some { cls := .none, data := .fields #[] } := fun b h => by
    obtain ⟨p, hp, rfl⟩ := ofT b h
    exact hT p hp
  have memT : ∀ p ∈ cs, p.2 ∈ ts := fun p hp => by rw [← hts]; exact List.mem_map.mpr ⟨p, hp, rfl⟩
  have aT : a ∉ ts := fun z => by
    have q := isT a z
    rw [ha] at q
    cases q
  generalize hH : hpL K a { cls := .type "list", data := .seq vs.toArray } (ns.map V.int) ts = H
  have H1 : ∀ b, b ∈ ts → H b = some (.tbl #[]) := fun b h => by rw [← hH]; exact if_pos h
  have H2 : K.lookup a = none → H a = some (.frz { cls := .type "list", data := .seq vs.toArray } (.lst (ns.map V.int))) := fun h => by rw [← hH]; exact (if_neg aT).trans (if_pos ⟨rfl, h⟩)
  have H3 : ∀ b, b ∉ ts → (b = a → K.lookup a ≠ none) → H b = none := fun b h1 h2 => by rw [← hH]; exact (if_neg h1).trans (if_neg fun z => h2 z.1 z.2)
  -- what is no table and no script is not tracked
  have none_of : ∀ {b : Addr} {o : Obj}, s₁.heap.get? b = some o → o.data ≠ .fields #[] → (∀ us n, o.data ≠ .seq us n) → H b = none := fun {b o} e h1 h2 => by
    refine H3 b (fun hb => ?_) fun hb _ => ?_
    · rw [isT b hb] at e; cases e; exact h1 rfl
    · rw [hb, ha] at e; cases e; exact h2 _ _ rfl
  have dictN : ∀ {b : Addr} {o : Obj} {es : Array DictEntry} {ep : Nat}, s₁.heap.get? b = some o → o.data = .dict es ep → H b = none := fun {b o es ep} e d =>
    none_of e (by rw [d]; exact fun z => by cases z) fun us n z => by rw [d] at z; cases z
  have nsK : ∀ {b : Addr} {m : Str → Option Value}, s₁.heap.Ns b m → (hidT s₁.heap H).Ns b m := fun {b m} ⟨o, es, ep, e, d, r⟩ => ⟨o, es, ep, hidT_get e (dictN e d), d, r⟩
  have hKb : K.In (hidT s₁.heap H) := fun b o e => hidT_get (KX b o e) (H3 b (fun hb => by
    obtain ⟨p, hp, rfl⟩ := ofT b hb
    rw [nT p hp] at e
    cases e) fun hb z => by
    rw [hb] at e
    rw [z] at e
    cases e)
  have hM : L2.Mod K mg (hidT s₁.heap H) := ⟨hKb, nsK hns, ⟨mb, nsK hb, hbb⟩, let ⟨mc, h1, h2⟩ := hlim; ⟨mc, nsK h1, h2⟩⟩
  have TB : ∀ p ∈ cs, GxR.TabB (hidT s₁.heap H) mg p.1 p.2 := fun p hp => by
    refine ⟨?_, ?_, fun z => ?_⟩
    · obtain ⟨o, us, file, tf, flags, tg, inF, text, tt, e1, r1, r2, r3, r⟩ := C p hp
      refine ⟨o, us, file, tf, flags, tg, inF, text, tt, hidT_get e1 (none_of e1 (fun z => ?_) fun us n z => ?_), r1, r2, r3, r⟩
      · rw [r2] at z; cases z; simp at r3
      · rw [r2] at z; cases z
    · obtain ⟨bm, ob, b1, b2, b3, b4, b5, b6⟩ := hbm
      refine ⟨bm, ob, b1, b2, fun q => ?_, fun q => ?_, hidT_get b3 (none_of b3 (by rw [b6]; exact fun z => by cases z) fun us n z => by rw [b6] at z; cases z), b4, b5, b6⟩
      · obtain ⟨o, es, ep, e, hd, _⟩ := hns
        rw [q, e] at b3
        cases b3
        rw [hd] at b6
        cases b6
      · rw [q, hT p hp] at b3
        cases b3
        cases b6
    · obtain ⟨o, es, ep, e, hd, _⟩ := hns
      rw [z, hT p hp] at e
      cases e
      cases hd
  have hok : HOk P w H s₁.heap := fun b u e => by
    by_cases hb : b ∈ ts
    · rw [H1 b hb] at e
      cases e
      exact isT b hb
    · by_cases hb2 : b = a ∧ K.lookup a = none
      · obtain ⟨rfl, hk⟩ := hb2
        rw [H2 hk] at e
        cases e
        exact ⟨ha, by rw [List.length_map]; exact hl, vs, _, rv, ha⟩
      · rw [H3 b hb fun z y => hb2 ⟨z, y⟩] at e
        cases e
  have e0 : Env0 P w K mg (hidT s₁.heap H) callerA [] s₁ H := ⟨rfl, hM, fun b o e => of_hidT e, Nat.le_of_eq (hidT_size _ _), trivial, fun b hb => absurd (show b ∈ ([] : List Addr) from hb) (by simp), hok, .of_eq hg⟩
  have hS : SqS K H a (ns.map V.int) := by
    cases hk : K.lookup a with
    | none => exact .inl ⟨_, H2 hk⟩
    | some o =>
      have e := KX a o hk
      rw [ha] at e
      cases e
      exact .inr (.inr ⟨_, vs.toArray, _, hk, rfl, rfl, rfl, by rw [List.size_toArray, lenV]; exact hl, by simpa using rv⟩)
  have sp : spOf ⟨K, ts⟩ fs [.ref a] H (fun v _ => v = .bl true) fun _ _ _ => False := by
    refine ⟨fun _ => False, fun _ => False, [.scr ns], ⟨⟨fun _ h => h.elim, fun _ h => h.elim, fun _ h => h.elim, fun P' hP' => ⟨#[], H1 P' hP', trivial⟩, fun _ _ => ⟨fun h => h, fun h => h⟩⟩, rfl, fun i v y h1 h2 => ?_, fun b i j h1 h2 => ?_⟩, fun s hs t m e => ?_, ?_⟩
    · match i with
      | 0 =>
        cases h1
        cases h2
        exact ⟨a, rfl, hS⟩
      | i + 1 => cases h2
    · obtain ⟨_, t, m, h⟩ := h1
      match i with
      | 0 => cases h
      | i + 1 => cases h
    · rw [List.mem_singleton.mp hs] at e
      cases e
    · refine (F _ hKb (nsK hns) TB).mono _ _ _ _ _ (fun r args' e v H' Z' st I' R => ?_) (fun c z => z.elim) hfs
      subst e
      cases R
      rfl
  refine codeAny_mono ((F _ hKb (nsK hns) TB).run callerA [] s₁ H ⟨[.ref a], []⟩ [.ref a] [.ref a] _ _ hr e0 (hbind s₁ (.ref a)) (.cons rfl .nil) sp) fun r s' h => ?_
  match r, h with
  | .ok (.ret u), ⟨v, H', os, bare, un, hok', r', q⟩ =>
    have q' : v = .bl true := q
    subst q'
    obtain rfl : u = Value.bool true := r'
    have key : ∀ b o, b ∉ ts → s₁.heap.get? b = some o → s'.heap.get? b = some o := fun b o nb e => by
      by_cases hb2 : b = a ∧ K.lookup a = none
      · obtain ⟨rfl, hk⟩ := hb2
        obtain ⟨e1, _⟩ := hok b _ (H2 hk)
        obtain ⟨e2, _⟩ := hok' b _ (un.frzs b _ _ (H2 hk))
        rw [e] at e1; cases e1
        exact e2
      · exact un.keep b o e (H3 b nb fun z y => hb2 ⟨z, y⟩) (by intro z; exact absurd (show b ∈ ([] : List Addr) from z) (by simp)) (by simp)
    have grown : ∀ p ∈ cs, ∃ more : Array Value, s'.heap.get? p.2 = some { cls := .none, data := .fields more } := fun p hp => by
      obtain ⟨more, z⟩ := un.tbls p.2 #[] (H1 _ (memT p hp))
      exact ⟨_, hok' p.2 _ z⟩
    refine ⟨rfl, ⟨fun b o e => ?_, fun b o e => ?_⟩, os, bare⟩
    · by_cases hb : b ∈ ts
      · obtain ⟨p, hp, rfl⟩ := ofT b hb
        obtain ⟨more, hm⟩ := grown p hp
        rw [hT p hp] at e
        cases e
        exact .inr (.inl ⟨((C p hp).tab (hT p hp)).isCodeTable, rfl, #[], more, rfl, by rw [Array.empty_append]; exact hm⟩)
      · exact .inl (key b o hb e)
    · by_cases hb : b ∈ ts
      · obtain ⟨p, hp, rfl⟩ := ofT b hb
        obtain ⟨more, hm⟩ := grown p hp
        exact ⟨_, hm⟩
      · exact ⟨o, key b o hb e⟩
end
/-- the walk of a law row whose head tells K, the defs' tables -/
theorem walk_ofG {l : PySem.W.OpenLaw} {n k : Nat} {q : Program} {loose : List Str} {XP : (Str → Option Value) → Heap → Prop} {d : DefRec} {x : Str} {fa0 : List He.Fa} {fn : List He.DefD} {ts : List He.Tab} {tf : List He.Defn} {ex : Frag → Bool} {nf : Nat}
    (hn : l.most = some n) (hn2 : n ≤ sizeLine) (hdf : d.params.defaults = []) (hr : RoomG k callerA)
    (F : ∀ (w : World) (mg : Str → Option Value) (fa : Addr) (h : Heap) (K : Frag), K.In h → He.SaysX fa0 fn ts tf ex w h K → h.Ns mainGlobals mg → mg d.name = some (.ref fa) →
      ∃ (fd : FuncData) (fs : FS), (∀ (s : Shared) (u : Value), BindsTo s fd ⟨[u], []⟩ [(x, u)]) ∧
        (∀ base : Heap, K.In base → base.Ns mainGlobals mg → (∀ p ∈ tf.map (He.cT K), GxR.TabB base mg p.1 p.2) → FnG l.prog w K mg base CX0 ((tf.map (He.cT K)).map (·.2)) k fa fd [x] fs) ∧
        ∀ ns : List Int, ns.length ≤ n → (∀ z ∈ ns, Builtin.Int.intBits z ≤ 1048576) → fs [.scr ns] (fun r _ => r = .val (.bool true)) fun _ => False) :
    PySem.W.WalkO q loose XP (He.hookX nf fa0 fn ts tf ex).says l.row.toRowW d [] (fun f vs => PySem.call f vs) := by
  refine Att.attach_callB hn hdf fun w s₀ s₁ mg mb fa o pm cd doc a vs ns G Y ho hd hcd hmg hobj hints hlen hbits hg => ?_
  obtain ⟨K, KX, c⟩ := Y
  obtain ⟨fd, fs, hb, hF, hsp⟩ := F w mg fa _ K KX c G.T.g hmg
  have mem : ∀ {p : Addr × Addr}, p ∈ tf.map (He.cT K) → ∃ t ∈ tf, He.cT K t = p := fun h => List.mem_map.mp h
  exact law_callG (cs := tf.map (He.cT K)) KX G.T.g G.T.b G.T.builtins G.T.nolimit hg (fun p hp => by obtain ⟨t, ht, rfl⟩ := mem hp; exact c.empty t ht) (fun p hp => by obtain ⟨t, ht, rfl⟩ := mem hp; exact c.out t ht)
    (fun p hp => by obtain ⟨t, ht, rfl⟩ := mem hp; exact PySem.W.codeHd_of_K KX (c.hd t ht)) G.T.bmain hobj hints (Nat.le_trans hlen hn2) hr hF hb (hsp ns hlen hbits)
/-- a def told by the head, without defaults -/
theorem fun_of {K : Frag} {x qual : Str} {st : Stmt} {f : Addr} {fd : FuncData} (F : FunD K x qual (defArgs st) (defBody st) (defScope st) [] [] f fd) : L2.Fun K x qual st f fd := by
  obtain ⟨oc, od, dV, kV, doc, pm, an, cdv, ct, osl, e, lk, hcd, dfl, _⟩ := F.ex
  rcases dfl with ⟨_, rfl⟩ | ⟨z, _⟩
  · exact ⟨⟨oc, od, kV, doc, pm, an, cdv, ct, osl, e, lk, hcd⟩, F.kp⟩
  · exact absurd rfl z
end DV

set_option Elab.async false
set_option linter.all false
set_option maxRecDepth 100000
set_option maxHeartbeats 4000000
/-! short forms for the printed derivations -/
namespace DV
open PySem PySem.Spec PyProof.Rows L2
/-- what a def does, by its body's reading -/
def fsOf (N ps : List Str) (wb : DS) : FS := fun args Q _ => args.length = ps.length ∧ wb (entryE N args) { nx := finE args Q (.val .none), rt := finE args Q }
theorem fsOf_mono {N ps : List Str} {wb : DS} (m : MonoS wb) : ∀ args Q Q' X X', (∀ r a, Q r a → Q' r a) → (∀ c, X c → X' c) → fsOf N ps wb args Q X → fsOf N ps wb args Q' X' := fun args Q Q' X X' k _ ⟨l, q⟩ =>
  have fin : ∀ r e, finE args Q r e → finE args Q' r e := fun r e q => let ⟨_, c, q⟩ := need_out q; need_in c (k _ _ q)
  ⟨l, m _ { nx := finE args Q (.val .none), rt := finE args Q } _ ⟨fun e q => fin _ e q, fin, fun _ q => q, fun _ q => q⟩ q⟩
theorem room_at {k : Nat} {env : Env} (h : k ≤ 40) : RoomG k (callerA.deeper env) :=
  ⟨⟨rfl, by show callerA.depth + 1 + 3 * k + 5 < recursionLimit; have : callerA.depth + 1 + 3 * 40 + 5 < recursionLimit := (by decide); omega, by show callerA.units + 3 + 16 * k + 200 < cLine; have : callerA.units + 3 + 16 * 40 + 200 < cLine := (by decide); omega⟩, rfl⟩
theorem room_top {k : Nat} (h : k ≤ 40) : RoomG k callerA :=
  ⟨⟨rfl, by have : callerA.depth + 3 * 40 + 5 < recursionLimit := (by decide); omega, by have : callerA.units + 16 * 40 + 200 < cLine := (by decide); omega⟩, rfl⟩
section
variable {P : Program} {w : World} {K : Frag} {mg : Str → Option Value} {base : Heap} {tb : List Addr} {f : Addr}
theorem fn_by {x qual : Str} {st : Stmt} {fd : FuncData} {N ps : List Str} {k : Nat} {wb : DS} (F : L2.Fun K x qual st f fd) (S : FnScope N ps (defScope st)) (hk : k ≤ 40)
    (hbody : ∀ (cdv : Value) (A : Around) (outer : List Env) (s : Shared) (H : Hp) (E : XK), PySem.W.codeIn K cdv qual = true → RoomG k (A.deeper (envOfC qual (defScope st) s.heap.objs.size f cdv)) → fd.code = cdv →
      SSs tb (cxOf CX0 P w K mg base N qual (defScope st) f cdv A outer s H E).nox (defBody st) wb) : FnG P w K mg base CX0 tb (k + 1) f fd ps (fsOf N ps wb) := by
  have m : MonoS wb := by
    obtain ⟨oc, od, kV, doc, pm, an, cdv, ct, osl, e, lk, hcd⟩ := F.ex
    exact (hbody cdv callerA [] {} (fun _ => none) (fun _ _ _ => False) hcd (room_at hk) (by rw [e])).mono
  exact fnG_of F S (fsOf_mono m) (fun args Q X q => q.1) (fun args Q X q _ => q.2) hbody
end
section
variable {tb : List Addr} {X : Cx} {k : Nat} {a b c : Expr} {pos : Pos} {wa wb wc : DO}
theorem RoomG.u64 (hr : RoomG k X.A) : X.A.units + 64 < cLine := by have := hr.room.un; omega
theorem RoomG.u65 (hr : RoomG k X.A) : X.A.units + 65 < cLine := by have := hr.room.un; omega
theorem RoomG.u0 (hr : RoomG k X.A) : X.A.units < cLine := by have := hr.room.un; omega
theorem se_eq (hr : RoomG k X.A) (ha : SO tb X a wa) (hb : SO tb X b wb) : SE tb X (.Compare a [.Eq] [b] pos) (dOp2 (gEq false) wa wb) := se_cmp ((op_eqD hr.u64).or op_eq) sem_eq (gEq_mono _) ha hb (nomark _)
theorem se_ne (hr : RoomG k X.A) (ha : SO tb X a wa) (hb : SO tb X b wb) : SE tb X (.Compare a [.NotEq] [b] pos) (dOp2 (gEq true) wa wb) := se_cmp ((op_neD hr.u64).or op_ne) sem_ne (gEq_mono _) ha hb (nomark _)
theorem st_eq (hr : RoomG k X.A) (ha : SO tb X a wa) (hb : SO tb X b wb) : ST tb X (.Compare a [.Eq] [b] pos) (dTst (dOp2 (gEq false) wa wb)) := st_cmp ((op_eqD hr.u64).or op_eq) sem_eq (gEq_mono _) ha hb (nomark _)
theorem st_ne (hr : RoomG k X.A) (ha : SO tb X a wa) (hb : SO tb X b wb) : ST tb X (.Compare a [.NotEq] [b] pos) (dTst (dOp2 (gEq true) wa wb)) := st_cmp ((op_neD hr.u64).or op_ne) sem_ne (gEq_mono _) ha hb (nomark _)
theorem se_lt (hr : RoomG k X.A) (ha : SO tb X a wa) (hb : SO tb X b wb) : SE tb X (.Compare a [.Lt] [b] pos) (dOp2 gLt wa wb) := se_cmp (op_ltU hr.u0) sem_lt gLt_mono ha hb (nomark _)
theorem st_lt (hr : RoomG k X.A) (ha : SO tb X a wa) (hb : SO tb X b wb) : ST tb X (.Compare a [.Lt] [b] pos) (dTst (dOp2 gLt wa wb)) := st_cmp (op_ltU hr.u0) sem_lt gLt_mono ha hb (nomark _)
theorem se_le (ha : SO tb X a wa) (hb : SO tb X b wb) : SE tb X (.Compare a [.LtE] [b] pos) (dOp2 gLe wa wb) := se_cmp op_le sem_le (gI_mono _) ha hb (nomark _)
theorem st_le (ha : SO tb X a wa) (hb : SO tb X b wb) : ST tb X (.Compare a [.LtE] [b] pos) (dTst (dOp2 gLe wa wb)) := st_cmp op_le sem_le (gI_mono _) ha hb (nomark _)
theorem se_gt (ha : SO tb X a wa) (hb : SO tb X b wb) : SE tb X (.Compare a [.Gt] [b] pos) (dOp2 gGt wa wb) := se_cmp op_gt sem_gt (gI_mono _) ha hb (nomark _)
theorem st_gt (ha : SO tb X a wa) (hb : SO tb X b wb) : ST tb X (.Compare a [.Gt] [b] pos) (dTst (dOp2 gGt wa wb)) := st_cmp op_gt sem_gt (gI_mono _) ha hb (nomark _)
theorem se_ge (ha : SO tb X a wa) (hb : SO tb X b wb) : SE tb X (.Compare a [.GtE] [b] pos) (dOp2 gGe wa wb) := se_cmp op_ge sem_ge (gI_mono _) ha hb (nomark _)
theorem st_ge (ha : SO tb X a wa) (hb : SO tb X b wb) : ST tb X (.Compare a [.GtE] [b] pos) (dTst (dOp2 gGe wa wb)) := st_cmp op_ge sem_ge (gI_mono _) ha hb (nomark _)
theorem se_is (ha : SO tb X a wa) (hb : SO tb X b wb) : SE tb X (.Compare a [.Is] [b] pos) (dOp2 (gIs false) wa wb) := se_cmp op_isN sem_is (gIs_mono _) ha hb (nomark _)
theorem st_is (ha : SO tb X a wa) (hb : SO tb X b wb) : ST tb X (.Compare a [.Is] [b] pos) (dTst (dOp2 (gIs false) wa wb)) := st_cmp op_isN sem_is (gIs_mono _) ha hb (nomark _)
theorem se_isn (ha : SO tb X a wa) (hb : SO tb X b wb) : SE tb X (.Compare a [.IsNot] [b] pos) (dOp2 (gIs true) wa wb) := se_cmp op_notN sem_isNot (gIs_mono _) ha hb (nomark _)
theorem st_isn (ha : SO tb X a wa) (hb : SO tb X b wb) : ST tb X (.Compare a [.IsNot] [b] pos) (dTst (dOp2 (gIs true) wa wb)) := st_cmp op_notN sem_isNot (gIs_mono _) ha hb (nomark _)
theorem se_inL (hr : RoomG k X.A) (ha : SO tb X a wa) (hb : SO tb X b wb) (hm : behindInMarks .In b = false := by rfl) : SE tb X (.Compare a [.In] [b] pos) (dOp2 (gIn false) wa wb) := se_cmp (op_inD hr.u65) sem_in (gIn_mono _) ha hb hm
theorem st_inL (hr : RoomG k X.A) (ha : SO tb X a wa) (hb : SO tb X b wb) (hm : behindInMarks .In b = false := by rfl) : ST tb X (.Compare a [.In] [b] pos) (dTst (dOp2 (gIn false) wa wb)) := st_cmp (op_inD hr.u65) sem_in (gIn_mono _) ha hb hm
theorem se_notinL (hr : RoomG k X.A) (ha : SO tb X a wa) (hb : SO tb X b wb) (hm : behindInMarks .NotIn b = false := by rfl) : SE tb X (.Compare a [.NotIn] [b] pos) (dOp2 (gIn true) wa wb) := se_cmp (op_notInD hr.u65) sem_notIn (gIn_mono _) ha hb hm
theorem st_notinL (hr : RoomG k X.A) (ha : SO tb X a wa) (hb : SO tb X b wb) (hm : behindInMarks .NotIn b = false := by rfl) : ST tb X (.Compare a [.NotIn] [b] pos) (dTst (dOp2 (gIn true) wa wb)) := st_cmp (op_notInD hr.u65) sem_notIn (gIn_mono _) ha hb hm
/-- low <= x <= high -/
theorem se_lele (ha : SO tb X a wa) (hb : SO tb X b wb) (hc : SO tb X c wc) (hm : lastMarks [.LtE, .LtE] [b, c] = false := by with_unfolding_all rfl) : SE tb X (.Compare a [.LtE, .LtE] [b, c] pos) (dChain gLe gLe wa wb wc) := se_chain op_le op_le sem_le sem_le (gI_mono _) (gI_mono _) ha hb hc hm
theorem st_lele (ha : SO tb X a wa) (hb : SO tb X b wb) (hc : SO tb X c wc) (hm : lastMarks [.LtE, .LtE] [b, c] = false := by with_unfolding_all rfl) : ST tb X (.Compare a [.LtE, .LtE] [b, c] pos) (dTst (dChain gLe gLe wa wb wc)) := st_chain op_le op_le sem_le sem_le (gI_mono _) (gI_mono _) ha hb hc hm
end
end DV

set_option Elab.async false
set_option linter.all false
set_option maxRecDepth 100000
set_option maxHeartbeats 4000000
namespace DV
open PySem PySem.Spec PyProof.Rows L2
/-! ### a, b, c = e1, e2, e3 -/
def dPar3 (i j l : Nat) (ws : DOs) : DS := fun env D => ws env fun os e => match os with
  | [.res r1, .res r2, .res r3] => D.nx (((e.set i (some r1)).set j (some r2)).set l (some r3))
  | _ => False
theorem dPar3_mono {i j l : Nat} {ws : DOs} (m : Mono ws) : MonoS (dPar3 i j l ws) := fun env A B le q => m env _ _ (fun os e q => by
  revert q
  split
  · exact le.nx _
  · exact id) q
theorem OpdRs.setOther {C : Cfg} {Z : Addr → Prop} {σ : L2.St} {H : Hp} {env : En} {i : Nat} {v1 : V} {r1 : Slot} : ∀ {vs : List V} {rs : List Slot} {Fr : Addr → Prop}, OpdRs C Z σ env H (fun a => Fr a ∨ Own1 v1 r1 a) vs (rs.map Opd.res) → OpdRs C Z (σ.set i (some v1)) (env.set i (some r1)) H Fr vs (rs.map Opd.res)
  | [], [], _, h => h
  | v :: vs, r :: rs, Fr, h => ⟨ResR.setOther h.1, OpdRs.setOther (vs := vs) (rs := rs) (Fr := fun a => Fr a ∨ Own1 v r a) (by
      have h2 : OpdRs C Z σ env H (fun a => (Fr a ∨ Own1 v1 r1 a) ∨ Own1 v r a) vs (rs.map Opd.res) := h.2
      have e : (fun a => (Fr a ∨ Own1 v1 r1 a) ∨ Own1 v r a) = fun a => (Fr a ∨ Own1 v r a) ∨ Own1 v1 r1 a := funext fun a => propext ⟨fun h => h.elim (fun h => h.elim (fun h => .inl (.inl h)) .inr) fun h => .inl (.inr h), fun h => h.elim (fun h => h.elim (fun h => .inl (.inl h)) .inr) fun h => .inl (.inr h)⟩
      rw [e] at h2
      exact h2)⟩
  | [], _ :: _, _, h => h
  | _ :: _, [], _, h => h
theorem par3_env {C : Cfg} {Z Fr : Addr → Prop} {As : Nat → Addr} {σ : L2.St} {H : Hp} {env : En} {i j l : Nat} {v1 v2 v3 : V} {r1 r2 r3 : Slot} (I : EnvR C Z Fr As σ H env) (h : OpdRs C Z σ env H Fr [v1, v2, v3] [.res r1, .res r2, .res r3]) :
    EnvR C Z Fr As (((σ.set i (some v1)).set j (some v2)).set l (some v3)) H (((env.set i (some r1)).set j (some r2)).set l (some r3)) := by
  have h2 := OpdRs.setOther (i := i) (vs := [v2, v3]) (rs := [r2, r3]) h.2
  exact par_env (I.setRes h.1) h2
section
variable {tb : List Addr} {X : Cx}
theorem ss_par3 (i j l : Nat) {x y z : Str} {a b c : Expr} {px py pz pt pos : Pos} {kt k2 pt2} {ws : DOs} (hc : X.calm = true) (hN : X.N.Nodup) (ha : SOs tb X [a, b, c] ws) (hi : X.N[i]? = some x := by rfl) (hj : X.N[j]? = some y := by rfl) (hl : X.N[l]? = some z := by rfl)
    (hij : i ≠ j := by decide) (hil : i ≠ l := by decide) (hjl : j ≠ l := by decide)
    (hx : X.env.scope.names.lookup x = some .local := by rfl) (hy : X.env.scope.names.lookup y = some .local := by rfl) (hz : X.env.scope.names.lookup z = some .local := by rfl)
    (hw : swappedStores [.Tuple [.Name x px, .Name y py, .Name z pz] kt pt] (.Tuple [a, b, c] k2 pt2) X.env = pure (some [x, y, z]) := by rfl)
    (hs : swapsWithSole [.Tuple [.Name x px, .Name y py, .Name z pz] kt pt] (.Tuple [a, b, c] k2 pt2) pos.line X.env = pure false := by rfl) :
    SS tb X (.Assign [.Tuple [.Name x px, .Name y py, .Name z pz] kt pt] (.Tuple [a, b, c] k2 pt2) pos) (dPar3 i j l ws) :=
  ⟨dPar3_mono ha.mono, (ps_par3 hc hN hi hj hl hij hil hjl hx hy hz ha.pe hw hs).imp fun D σ H ⟨Z, Fr, As, env, I, q⟩ => ⟨Z, Fr, As, env, I, ha.mono env _ _ (fun os e q vs H' Z' st I' R => by
    revert q
    split
    · intro q
      match vs, R with
      | [v1, v2, v3], R => exact ⟨v1, v2, v3, rfl, q _ _ _ st (par3_env I' R)⟩
    · exact fun q => q.elim) q⟩⟩
end

/-! ### a def that may be called by its name -/
structure Cl (P : Program) (w : World) (K : Frag) (mg : Str → Option Value) (base : Heap) (tb : List Addr) (k : Nat) (x : Str) (ps : List Str) (fs : FS) : Prop where
  ex : ∃ f fd, FnG P w K mg base CX0 tb k f fd ps fs ∧ mg x = some (.ref f) ∧ PySem.W.keepIn K (.ref f) = true ∧ Binds K fd ps [] ∧ KB K fd ps
/-- what the head tells of a def -/
def Told (K : Frag) (mg : Str → Option Value) (x : Str) (st : Stmt) : Prop := ∃ fd, L2.Fun K x x st (He.fAd K (x, none)) fd ∧ mg x = some (.ref (He.fAd K (x, none)))
theorem code_is {K : Frag} {x qual : Str} {st : Stmt} {p : He.Defn} {fd : FuncData} {cdv : Value} (F : L2.Fun K x qual st (He.fAd K p) fd) (h : PySem.W.codeIn K cdv qual = true) (e : fd.code = cdv) : cdv = .ref (He.codeOf K p) := by
  obtain ⟨oc, od, kV, doc, pm, an, cd, ct, osl, efd, lk, hcd⟩ := F.ex
  obtain ⟨c, rfl⟩ := He.codeIn_ref h
  rw [He.codeOf_eq lk e]
section
variable {P : Program} {w : World} {K : Frag} {mg : Str → Option Value} {base : Heap} {tb : List Addr} {X : Cx} {j k : Nat} {fs : FS} {ws : DOs} {ps : List Str}
theorem cl_of {x : Str} {st : Stmt} {N : List Str} {wb : DS} (T : Told K mg x st) (S : FnScope N ps (defScope st)) (hk : k ≤ 40)
    (hb : ∀ (kV doc pm : Value) (an : Option Addr) (cdv ct : Value) (us : List Value), us.length = ps.length → bindArgs (PySem.W.fnOf x x (defArgs st) (defBody st) (defScope st) .none kV doc pm an cdv ct) ⟨us, []⟩ = pure (ps.zip us))
    (hkb : ∀ (kV doc pm : Value) (an : Option Addr) (cdv ct : Value) (us : List Value), us.length = ps.length → bindArgs (PySem.W.fnOf x x (defArgs st) (defBody st) (defScope st) .none kV doc pm an cdv ct) ⟨[], ps.zip us⟩ = pure (ps.zip us))
    (hbody : ∀ (cdv : Value) (A : Around) (outer : List Env) (s : Shared) (H : Hp) (E : XK), RoomG k (A.deeper (envOfC x (defScope st) s.heap.objs.size (He.fAd K (x, none)) cdv)) → cdv = .ref (He.codeOf K (x, none)) →
      SSs tb (cxOf CX0 P w K mg base N x (defScope st) (He.fAd K (x, none)) cdv A outer s H E).nox (defBody st) wb) : Cl P w K mg base tb (k + 1) x ps (fsOf N ps wb) := by
  obtain ⟨fd, F, m⟩ := T
  exact ⟨_, fd, fn_by F S hk fun cdv A outer s H E hcd hr e => hbody cdv A outer s H E hr (code_is F hcd e), m, F.kp, F.binds hb, kb_of F hkb⟩
theorem se_cl {x : Str} {e : Expr} {es : List Expr} {p pos : Pos} (c : Cl X.prog X.w X.K X.mg X.base tb k x ps fs) (hr : RoomG j X.A) (ha : SOs tb X (e :: es) ws) (hk : k ≤ j := by decide) (hg : Gl X x := by rfl) (hdb : (x == ("__debug__" : Str)) = false := by decide)
    (he : starEach (e :: es) X.env = (false, eval e X.env) :: starEach es X.env := by rfl) (hpl : (backTo pos (starEach es X.env)).any (·.1) = false := by rfl) : SE tb X (.Call (.Name x p) (e :: es) [] pos) (dCall fs ws) := by
  obtain ⟨f, fd, F, hm, kp, b, _⟩ := c
  exact se_call F (hr.mono hk) hm kp b ha hg hdb he hpl
theorem se_cl0 {x : Str} {p pos : Pos} (c : Cl X.prog X.w X.K X.mg X.base tb k x [] fs) (hr : RoomG j X.A) (hk : k ≤ j := by decide) (hg : Gl X x := by rfl) (hdb : (x == ("__debug__" : Str)) = false := by decide) : SE tb X (.Call (.Name x p) [] [] pos) (dCall fs dONil) := by
  obtain ⟨f, fd, F, hm, kp, b, _⟩ := c
  exact se_call0 F (hr.mono hk) hm kp b hg hdb
theorem se_clK {x : Str} {kws : List Keyword} {p pos : Pos} (c : Cl X.prog X.w X.K X.mg X.base tb k x ps fs) (hr : RoomG j X.A) (ha : SOk tb X kws ws) (hk : k ≤ j := by decide) (hks : (backToKw pos (keywordEach kws X.env)).filterMap (·.1) = ps := by rfl)
    (hall : (backToKw pos (keywordEach kws X.env)).all (·.1.isSome) = true := by rfl) (hg : Gl X x := by rfl) (hdb : (x == ("__debug__" : Str)) = false := by decide)
    (hpl : ((backTo pos (starEach [] X.env)).any (·.1) || (backToKw pos (keywordEach kws X.env)).any (·.1.isNone)) = false := by rfl) : SE tb X (.Call (.Name x p) [] kws pos) (dCall fs ws) := by
  obtain ⟨f, fd, F, hm, kp, _, b⟩ := c
  exact se_callK F (hr.mono hk) hm kp b ha hks hall hg hdb hpl
theorem se_gI {x : Str} {i : Int} {pos : Pos} (hm : ∃ t, X.mg x = some (.int i t)) (hg : Gl X x := by rfl) (hd : (x == ("__debug__" : Str)) = false := by decide) : SE tb X (.Name x pos) (dK (.int i)) := by
  obtain ⟨t, hm⟩ := hm
  exact se_globI hg hm hd
end
end DV

set_option Elab.async false
set_option linter.all false
set_option maxRecDepth 100000
set_option maxHeartbeats 4000000
/-! plain facts for the readings -/
namespace DV
open PySem PySem.Spec PyProof.Rows L2
section
variable {α : Type} {x y z u : α} {xs : List α}
theorem atI_0 : atI (x :: xs) 0 = some x := atI_nat (j := 0) rfl
theorem atI_1 : atI (x :: y :: xs) 1 = some y := atI_nat (j := 1) rfl
theorem atI_2 : atI (x :: y :: z :: xs) 2 = some z := atI_nat (j := 2) rfl
theorem atI_3 : atI (x :: y :: z :: u :: xs) 3 = some u := atI_nat (j := 3) rfl
end
theorem ixN_30 : ixN 3 0 = some 0 := rfl
theorem ixN_31 : ixN 3 1 = some 1 := rfl
theorem ixN_32 : ixN 3 2 = some 2 := rfl
theorem nb_mul {a b : Int} {p q : Nat} (ha : a.natAbs < 2 ^ p) (hb : b.natAbs < 2 ^ q) : (a * b).natAbs < 2 ^ (p + q) := by
  rw [Int.natAbs_mul, Nat.pow_add]
  exact Nat.mul_lt_mul'' ha hb
theorem nb_le {a : Int} {p q : Nat} (ha : a.natAbs < 2 ^ p) (h : p ≤ q) : a.natAbs < 2 ^ q := Nat.lt_of_lt_of_le ha (Nat.pow_le_pow_right (by decide) h)
theorem mul_ok {a b : Int} {p q : Nat} (ha : a.natAbs < 2 ^ p) (hb : b.natAbs < 2 ^ q) (h0 : 0 < p := by decide) (h1 : 0 < q := by decide) (h : p + q ≤ 1000000 := by decide) : CMul a b ∨ CMulW a b := .inr (wide_mul ha hb h0 h1 h)
theorem mul_l {a b : Int} (h1 : -(2 ^ 64) < a := by decide) (h2 : a < 2 ^ 64 := by decide) : CMul a b ∨ CMulW a b := .inl (.inl ⟨h1, h2⟩)
theorem mul_r {a b : Int} (h1 : -(2 ^ 64) < b) (h2 : b < 2 ^ 64) : CMul a b ∨ CMulW a b := .inl (.inr ⟨h1, h2⟩)
theorem div_ok {a b : Int} (h : 0 < b) (hb : b < 2 ^ 64) : CDivW a b := wide_div (b := 64) h (by omega) (by decide) (by decide)
theorem pow_ok {i j : Int} (h1 : 0 ≤ j := by decide) (h2 : j ≤ 1000000 := by decide) (h3 : i.natAbs < 2 ^ 64 := by decide) : CPow i j := ⟨h1, h2, h3⟩
theorem mod_lt {a m : Int} (h : 0 < m) : 0 ≤ a % m ∧ a % m < m := ⟨Int.emod_nonneg _ (by omega), Int.emod_lt_of_pos _ h⟩

/-! data that can be laid, of little depth -/
def Flat (k : Nat) (d : D) : Prop := d.canLay0 = true ∧ d.depth ≤ k
theorem Flat.le {j k : Nat} {d : D} (h : Flat j d) (l : j ≤ k) : Flat k d := ⟨h.1, Nat.le_trans h.2 l⟩
theorem flat_int {k : Nat} {i : Int} : Flat k (.int i) := ⟨by simp [PyData.canLay0], by simp [PyData.depth]⟩
theorem flat_none {k : Nat} : Flat k .none := ⟨by simp [PyData.canLay0], by simp [PyData.depth]⟩
theorem flat_bool {k : Nat} {b : Bool} : Flat k (.bool b) := ⟨by simp [PyData.canLay0], by simp [PyData.depth]⟩
theorem flat_all {k : Nat} : ∀ {ds : List D}, (∀ d ∈ ds, Flat k d) → PyData.canLayAll0 ds = true ∧ PyData.depthAll ds ≤ k
  | [], _ => ⟨by simp [PyData.canLayAll0], by simp [PyData.depthAll]⟩
  | d :: ds, h => by
    have h1 := h d (by simp)
    have h2 := flat_all (ds := ds) fun e he => h e (by simp [he])
    refine ⟨by simp [PyData.canLayAll0, h1.1, h2.1], ?_⟩
    simp only [PyData.depthAll]
    have := h1.2
    have := h2.2
    omega
theorem flat_tup {k : Nat} {ds : List D} (h : ∀ d ∈ ds, Flat k d) : Flat (k + 1) (.tuple ds) := ⟨by simp [PyData.canLay0, (flat_all h).1], by simp only [PyData.depth]; have := (flat_all h).2; omega⟩
theorem flat_list {k : Nat} {ds : List D} (h : ∀ d ∈ ds, Flat k d) : Flat (k + 1) (.list ds) := ⟨by simp [PyData.canLay0, (flat_all h).1], by simp only [PyData.depth]; have := (flat_all h).2; omega⟩
theorem Flat.shaped {k : Nat} {d : D} (h : Flat k d) (l : k ≤ 64 := by decide) : SeqAt.shaped d = true := by
  unfold SeqAt.shaped
  rw [h.1, Bool.true_and, decide_eq_true_eq]
  exact Nat.le_trans h.2 l
theorem shaped_int {i : Int} : SeqAt.shaped (.int i) = true := (flat_int (k := 0)).shaped
theorem shaped_ints {ns : List Int} : SeqAt.shaped (.list (ns.map .int)) = true := (flat_list (k := 0) fun d h => by obtain ⟨i, _, rfl⟩ := List.mem_map.mp h; exact flat_int).shaped
theorem shaped_nil : SeqAt.shaped (.list []) = true := (flat_list (k := 0) (ds := []) fun d h => by simp at h).shaped
theorem eqOk_int {i j : Int} : EqOk (.int i) (.int j) := .inl ⟨shaped_int, shaped_int⟩
theorem eqOk_str {x y : Str} : EqOk (.str x) (.str y) := .inr ⟨_, _, rfl, rfl⟩
theorem eqOk_flat {d e : D} (h : Flat 64 d) (h2 : Flat 64 e) : EqOk d e := .inl ⟨h.shaped, h2.shaped⟩
theorem eqv_int {i j : Int} : PyData.eqv (.int i) (.int j) = (i == j) := by simp [PyData.eqv]
theorem eqv_str {x y : Str} : PyData.eqv (.str x) (.str y) = (x == y) := by simp [PyData.eqv]
theorem eqv_list_nil {ds : List D} : PyData.eqv (.list ds) (.list []) = ds.isEmpty := by
  cases ds <;> simp [PyData.eqv, PyData.eqvAll]
theorem eqv_nil : PyData.eqv (.list []) (.list []) = true := by simp [PyData.eqv, PyData.eqvAll]
theorem atI_mem {α : Type} {xs : List α} {r : Int} (h0 : 0 ≤ r) (h1 : r < xs.length) : ∃ d ∈ xs, atI xs r = some d := by
  obtain ⟨n, rfl⟩ := Int.eq_ofNat_of_zero_le h0
  have hn : n < xs.length := by omega
  exact ⟨xs[n], List.getElem_mem hn, atI_nat (List.getElem?_eq_getElem hn)⟩
theorem atI_get {α : Type} {xs : List α} {r : Int} (h0 : 0 ≤ r) (h1 : r < xs.length) : ∃ d, xs[r.toNat]? = some d ∧ d ∈ xs ∧ atI xs r = some d := by
  obtain ⟨n, rfl⟩ := Int.eq_ofNat_of_zero_le h0
  have hn : n < xs.length := by omega
  exact ⟨xs[n], by simpa using List.getElem?_eq_getElem hn, List.getElem_mem hn, atI_nat (List.getElem?_eq_getElem hn)⟩
theorem rngD_mem {lo : Int} {n : Nat} {d : D} (h : d ∈ rngD lo n) : ∃ i : Nat, i < n ∧ d = .int (lo + (i : Nat)) := by
  obtain ⟨i, hi, rfl⟩ := List.mem_map.mp h
  exact ⟨i, List.mem_range.mp hi, rfl⟩

/-! written values -/
def dVK (d : D) : DV := fun env Q => Q d env
def dVKs (ds : List D) : DVs := fun env Q => Q ds env
section
variable {tb : List Addr} {X : Cx}
theorem sv_K {e : Expr} {d : D} (h : SE tb X e (dK d)) : SV tb X e (dVK d) := sv_se h
theorem svs_nilK : SVs tb X [] (dVKs []) := svs_nil
theorem svs_consK {e : Expr} {es : List Expr} {d : D} {ds : List D} (h : SE tb X e (dK d)) (hs : SVs tb X es (dVKs ds)) (hst : starEach (e :: es) X.env = (false, eval e X.env) :: starEach es X.env := by rfl) : SVs tb X (e :: es) (dVKs (d :: ds)) := svs_cons (sv_se h) hs hst
theorem se_tupK {es : List Expr} {k : Nat} {pos : Pos} {ds : List D} (h : SVs tb X es (dVKs ds)) (hl : ds.length ≤ sizeLine := by decide) : SE tb X (.Tuple es k pos) (dK (.tuple ds)) :=
  ⟨fun _ _ _ k q => k _ _ q, (se_tup (k := k) (pos := pos) h).pe.imp fun σ H Q ⟨Z, Fr, As, env, I, q⟩ => ⟨Z, Fr, As, env, I, hl, q⟩⟩
end
/-- a statement, then the rest -/
theorem seqI {w u : DS} {env : En} {D : DEnds} (h : ∀ U : En → Prop, (∀ e, u e D → U e) → w env { D with nx := U }) : dSeq w u env D := h _ fun _ q => q
theorem br {b : Bool} {A B : Prop} (h1 : b = true → A) (h2 : b = false → B) : if b = true then A else B := by
  cases b
  · exact h2 rfl
  · exact h1 rfl
end DV

set_option Elab.async false
set_option linter.all false
set_option maxRecDepth 100000
set_option maxHeartbeats 0
namespace DV
open PySem PySem.Spec PyProof.Rows L2
/-! ### the text -/
def top (i : Nat) : Stmt := PySem.Challenge.pw_answertests_k00_answers_of_words.main.body.getD i (.Pass ⟨0, 0, 0, 0⟩)
/-- the defs that hold a generator expression -/
def tf : List He.Defn := [("are_rows", none), ("is_word_form", none)]
def tbs (K : Frag) : List Addr := (tf.map (He.cT K)).map (·.2)
/-! _law_numbers -/
abbrev s__law_numbers : Stmt := top 32
theorem sc__law_numbers : FnScope ["script", "most"] ["script", "most"] (defScope s__law_numbers) := ⟨rfl, rfl, rfl, by decide +kernel, rfl, by decide +kernel, by decide +kernel⟩
def w__law_numbers : DS :=
  (dRet (dIf (dTst (dOp2 (gEq true) (dVarO 0) (dRes (dLst (dVKs []))))) (dSl (dVarO 0) dNoP (dPrt (dOf (dVar 1)))) (dLst (dVKs [(.int 0)]))))
def fs__law_numbers : FS := fsOf ["script", "most"] ["script", "most"] w__law_numbers
/-! _law_urn -/
abbrev s__law_urn : Stmt := top 29
theorem sc__law_urn : FnScope ["cell", "k"] ["cell", "k"] (defScope s__law_urn) := ⟨rfl, rfl, rfl, by decide +kernel, rfl, by decide +kernel, by decide +kernel⟩
def w__law_urn : DS :=
  (dSeq (dIfS (dTst (dOp2 (gGe) (dVarO 0) (dRes (dOp2 gPow (dRes (dK (.int 10))) (dRes (dK (.int 18))))))) (dRet (dLst (dVCons (dFz (dOp2 gSub (dVarO 0) (dRes (dOp2 gPow (dRes (dK (.int 10))) (dRes (dK (.int 18))))))) (dVCons (dFz (dOp2 gAdd (dRes (dOp2 gMul (dRes (dK (.int 61))) (dVarO 1))) (dRes (dK (.int 31))))) (dVCons (dVK (.int 0)) dVNil))))) dNext)
  (dRet (dLst (dVCons (dVK (.int 0)) (dVCons (dFz (dOp2 gMod (dRes (dCB gIntC (dOCons (dRes (dOp2 gAdd (dRes (dOp2 gAdd (dRes (dOp2 gMul (dVarO 0) (dRes (dK (.int 80021))))) (dRes (dOp2 gMul (dRes (dK (.int 61))) (dVarO 1))))) (dRes (dK (.int 13))))) dONil))) (dRes (dOp2 gAdd (dRes (dOp2 gPow (dRes (dK (.int 10))) (dRes (dK (.int 33))))) (dRes (dK (.int 67))))))) (dVCons (dVK (.int 0)) dVNil))))))
def fs__law_urn : FS := fsOf ["cell", "k"] ["cell", "k"] w__law_urn
/-! _law_roll -/
abbrev s__law_roll : Stmt := top 30
theorem sc__law_roll : FnScope ["urn", "many", "got", "stir"] ["urn", "many"] (defScope s__law_roll) := ⟨rfl, rfl, rfl, by decide +kernel, rfl, by decide +kernel, by decide +kernel⟩
def w__law_roll : DS :=
  (dSeq (dIfS (dTst (dOp2 (gGt) (dRes (dOp2 gIx (dVarO 0) (dRes (dK (.int 0))))) (dRes (dK (.int 0))))) (dSeq (dAsg (dOp2 gMod (dRes (dCB gIntC (dOCons (dRes (dOp2 gIx (dVarO 0) (dRes (dK (.int 0))))) dONil))) (dVarO 1)) (gNm 2))
    (dSeq (dSetIx 0 (dRes (dK (.int 0))) (dFz (dOp2 gDiv (dRes (dOp2 gIx (dVarO 0) (dRes (dK (.int 0))))) (dVarO 1))))
    (dRet (dMove 2)))) dNext)
  (dSeq (dSetIx 0 (dRes (dK (.int 2))) (dFz (dOp2 gAdd (dRes (dOp2 gIx (dVarO 0) (dRes (dK (.int 2))))) (dRes (dK (.int 1))))))
  (dSeq (dAsg (dOp2 gAdd (dRes (dOp2 gIx (dVarO 0) (dRes (dK (.int 1))))) (dRes (dOp2 gMul (dRes (dK (.int 67867967))) (dRes (dOp2 gIx (dVarO 0) (dRes (dK (.int 2)))))))) (gNm 3))
  (dSeq (dAsg (dOp2 gMod (dRes (dCB gIntC (dOCons (dRes (dOp2 gAdd (dRes (dOp2 gMul (dRes (dOp2 gMul (dVarO 3) (dVarO 3))) (dVarO 3))) (dRes (dOp2 gMul (dRes (dOp2 gMul (dRes (dK (.int 15487469))) (dRes (dOp2 gIx (dVarO 0) (dRes (dK (.int 2))))))) (dRes (dOp2 gIx (dVarO 0) (dRes (dK (.int 2))))))))) dONil))) (dRes (dOp2 gAdd (dRes (dOp2 gPow (dRes (dK (.int 10))) (dRes (dK (.int 43))))) (dRes (dK (.int 63)))))) (gNm 3))
  (dSeq (dAsg (dOp2 gMod (dRes (dCB gIntC (dOCons (dRes (dOp2 gAdd (dRes (dOp2 gMul (dVarO 3) (dVarO 3))) (dRes (dOp2 gMul (dRes (dK (.int 122949823))) (dVarO 3))))) dONil))) (dRes (dOp2 gAdd (dRes (dOp2 gPow (dRes (dK (.int 10))) (dRes (dK (.int 42))))) (dRes (dK (.int 37)))))) (gNm 3))
  (dRet (dOp2 gMod (dRes (dCB gIntC (dOCons (dRes (dOp2 gDiv (dVarO 3) (dRes (dOp2 gPow (dRes (dK (.int 10))) (dRes (dK (.int 11))))))) dONil))) (dVarO 1))))))))
def fs__law_roll : FS := fsOf ["urn", "many", "got", "stir"] ["urn", "many"] w__law_roll
/-! _law_any_rows -/
abbrev s__law_any_rows : Stmt := top 34
theorem sc__law_any_rows : FnScope ["urn", "letters", "answers", "states", "dull", "rows", "state", "row", "letter", "answer"] ["urn", "letters", "answers", "states", "dull"] (defScope s__law_any_rows) := ⟨rfl, rfl, rfl, by decide +kernel, rfl, by decide +kernel, by decide +kernel⟩
def w__law_any_rows_b1 : DS :=
  (dSeq (dAsg (dIf (dOr (dNot (dTst (dOf (dVar 4)))) (dTst (dOp2 (gEq false) (dRes (dCall fs__law_roll (dOCons (dVarO 0) (dOCons (dRes (dK (.int 5))) dONil)))) (dRes (dK (.int 0)))))) (dCall fs__law_roll (dOCons (dVarO 0) (dOCons (dVarO 2) dONil))) (dK (.int 0))) (gNm 9))
      (dExp (dApp 7 (dFz (dTup (dVCons (dFz (dCall fs__law_roll (dOCons (dVarO 0) (dOCons (dVarO 3) dONil)))) (dVCons (dVar 9) dVNil)))))))
def w__law_any_rows_b2 : DS :=
  (dSeq (dAsg (dLst (dVKs [])) (gNm 7))
    (dSeq (dFor (dRng1 (dVCons (dVar 1) dVNil)) (gNm 8) w__law_any_rows_b1)
    (dExp (dApp 5 (dFz (dCB gTupC (dOCons (dVarO 7) dONil)))))))
def w__law_any_rows : DS :=
  (dSeq (dAsg (dLst (dVKs [])) (gNm 5))
  (dSeq (dFor (dRng1 (dVCons (dVar 3) dVNil)) (gNm 6) w__law_any_rows_b2)
  (dRet (dMove 5))))
def fs__law_any_rows : FS := fsOf ["urn", "letters", "answers", "states", "dull", "rows", "state", "row", "letter", "answer"] ["urn", "letters", "answers", "states", "dull"] w__law_any_rows
/-! _law_one -/
abbrev s__law_one : Stmt := top 31
theorem sc__law_one : FnScope ["urn", "things"] ["urn", "things"] (defScope s__law_one) := ⟨rfl, rfl, rfl, by decide +kernel, rfl, by decide +kernel, by decide +kernel⟩
def w__law_one : DS :=
  (dRet (dOp2 gIx (dVarO 1) (dRes (dCall fs__law_roll (dOCons (dVarO 0) (dOCons (dRes (dCB gLen (dOCons (dVarO 1) dONil))) dONil))))))
def fs__law_one : FS := fsOf ["urn", "things"] ["urn", "things"] w__law_one
/-! _law_ring_rows -/
abbrev s__law_ring_rows : Stmt := top 35
theorem sc__law_ring_rows : FnScope ["urn", "letters", "answers", "states", "odd", "way", "rows", "state", "row", "letter"] ["urn", "letters", "answers", "states"] (defScope s__law_ring_rows) := ⟨rfl, rfl, rfl, by decide +kernel, rfl, by decide +kernel, by decide +kernel⟩
def w__law_ring_rows_b1 : DS :=
  (dIfS (dTst (dOp2 (gEq false) (dVarO 9) (dVarO 5))) (dExp (dApp 8 (dFz (dTup (dVCons (dFz (dOp2 gMod (dRes (dCB gIntC (dOCons (dRes (dOp2 gAdd (dVarO 7) (dRes (dK (.int 1))))) dONil))) (dVarO 3))) (dVCons (dFz (dIf (dTst (dOp2 (gEq false) (dVarO 7) (dVarO 4))) (dK (.int 1)) (dK (.int 0)))) dVNil)))))) (dExp (dApp 8 (dFz (dTup (dVCons (dFz (dCall fs__law_one (dOCons (dVarO 0) (dOCons (dRes (dLst (dVCons (dVar 7) (dVCons (dVK (.int 0)) (dVCons (dFz (dCall fs__law_roll (dOCons (dVarO 0) (dOCons (dVarO 3) dONil)))) dVNil))))) dONil)))) (dVCons (dVK (.int 0)) dVNil)))))))
def w__law_ring_rows_b2 : DS :=
  (dSeq (dAsg (dLst (dVKs [])) (gNm 8))
    (dSeq (dFor (dRng1 (dVCons (dVar 1) dVNil)) (gNm 9) w__law_ring_rows_b1)
    (dExp (dApp 6 (dFz (dCB gTupC (dOCons (dVarO 8) dONil)))))))
def w__law_ring_rows : DS :=
  (dSeq (dPar3 4 5 6 (dOCons (dRes (dCall fs__law_roll (dOCons (dVarO 0) (dOCons (dVarO 3) dONil)))) (dOCons (dRes (dCall fs__law_roll (dOCons (dVarO 0) (dOCons (dVarO 1) dONil)))) (dOCons (dRes (dLst (dVKs []))) dONil))))
  (dSeq (dFor (dRng1 (dVCons (dVar 3) dVNil)) (gNm 7) w__law_ring_rows_b2)
  (dRet (dMove 6))))
def fs__law_ring_rows : FS := fsOf ["urn", "letters", "answers", "states", "odd", "way", "rows", "state", "row", "letter"] ["urn", "letters", "answers", "states"] w__law_ring_rows
/-! _law_blown_rows -/
abbrev s__law_blown_rows : Stmt := top 36
theorem sc__law_blown_rows : FnScope ["urn", "rows", "states", "many", "found", "state", "row", "after", "answer", "some", "one"] ["urn", "rows", "states"] (defScope s__law_blown_rows) := ⟨rfl, rfl, rfl, by decide +kernel, rfl, by decide +kernel, by decide +kernel⟩
def w__law_blown_rows_t1 : DT :=
  (dTst (dOp2 (gEq false) (dRes (dOp2 gMod (dRes (dCB gIntC (dOCons (dVarO 10) dONil))) (dVarO 3))) (dVarO 7)))
def w__law_blown_rows_b1 : DS :=
  (dSeq (dAsg (dLc (dRng1 (dVCons (dVar 2) dVNil)) (gNm 10) w__law_blown_rows_t1 (dVar 10) [10]) (gNm 9))
      (dExp (dApp 6 (dFz (dTup (dVCons (dFz (dCall fs__law_one (dOCons (dVarO 0) (dOCons (dVarO 9) dONil)))) (dVCons (dVar 8) dVNil)))))))
def w__law_blown_rows_b2 : DS :=
  (dSeq (dAsg (dLst (dVKs [])) (gNm 6))
    (dSeq (dFor (dSq (dFz (dOp2 gIx (dVarO 1) (dRes (dOp2 gMod (dRes (dCB gIntC (dOCons (dVarO 5) dONil))) (dVarO 3)))))) (gTp 2 (gCons' (gNm 7) (gCons' (gNm 8) gNil'))) w__law_blown_rows_b1)
    (dExp (dApp 4 (dFz (dCB gTupC (dOCons (dVarO 6) dONil)))))))
def w__law_blown_rows : DS :=
  (dSeq (dPar 3 4 (dOCons (dRes (dCB gLen (dOCons (dVarO 1) dONil))) (dOCons (dRes (dLst (dVKs []))) dONil)))
  (dSeq (dFor (dRng1 (dVCons (dVar 2) dVNil)) (gNm 5) w__law_blown_rows_b2)
  (dRet (dMove 4))))
def fs__law_blown_rows : FS := fsOf ["urn", "rows", "states", "many", "found", "state", "row", "after", "answer", "some", "one"] ["urn", "rows", "states"] w__law_blown_rows
/-! _law_rows -/
abbrev s__law_rows : Stmt := top 37
theorem sc__law_rows : FnScope ["urn", "letters", "answers", "states", "way", "few"] ["urn", "letters", "answers", "states"] (defScope s__law_rows) := ⟨rfl, rfl, rfl, by decide +kernel, rfl, by decide +kernel, by decide +kernel⟩
def w__law_rows : DS :=
  (dSeq (dAsg (dCall fs__law_roll (dOCons (dVarO 0) (dOCons (dRes (dK (.int 5))) dONil))) (gNm 4))
  (dSeq (dIfS (dTst (dOp2 (gEq false) (dVarO 4) (dRes (dK (.int 2))))) (dRet (dCall fs__law_ring_rows (dOCons (dVarO 0) (dOCons (dVarO 1) (dOCons (dVarO 2) (dOCons (dVarO 3) dONil)))))) dNext)
  (dSeq (dIfS (dAnd (dTst (dOp2 (gGt) (dVarO 4) (dRes (dK (.int 2))))) (dTst (dOp2 (gGt) (dVarO 3) (dRes (dK (.int 1)))))) (dSeq (dAsg (dCall fs__law_any_rows (dOCons (dVarO 0) (dOCons (dVarO 1) (dOCons (dVarO 2) (dOCons (dRes (dOp2 gAdd (dRes (dK (.int 1))) (dRes (dCall fs__law_roll (dOCons (dVarO 0) (dOCons (dRes (dOp2 gSub (dVarO 3) (dRes (dK (.int 1))))) dONil)))))) (dOCons (dRes (dOp2 (gEq false) (dRes (dCall fs__law_roll (dOCons (dVarO 0) (dOCons (dRes (dK (.int 2))) dONil)))) (dRes (dK (.int 0))))) dONil)))))) (gNm 5))
    (dRet (dCall fs__law_blown_rows (dOCons (dVarO 0) (dOCons (dVarO 5) (dOCons (dVarO 3) dONil)))))) dNext)
  (dRet (dCall fs__law_any_rows (dOCons (dVarO 0) (dOCons (dVarO 1) (dOCons (dVarO 2) (dOCons (dVarO 3) (dOCons (dRes (dOp2 (gEq false) (dVarO 4) (dRes (dK (.int 1))))) dONil))))))))))
def fs__law_rows : FS := fsOf ["urn", "letters", "answers", "states", "way", "few"] ["urn", "letters", "answers", "states"] w__law_rows
/-! _law_machine_of -/
abbrev s__law_machine_of : Stmt := top 38
theorem sc__law_machine_of : FnScope ["urn", "size", "states"] ["urn", "size", "states"] (defScope s__law_machine_of) := ⟨rfl, rfl, rfl, by decide +kernel, rfl, by decide +kernel, by decide +kernel⟩
def w__law_machine_of : DS :=
  (dRet (dTup (dVCons (dFz (dOp2 gIx (dVarO 1) (dRes (dK (.int 0))))) (dVCons (dFz (dOp2 gIx (dVarO 1) (dRes (dK (.int 1))))) (dVCons (dFz (dCB gTupC (dOCons (dRes (dCall fs__law_rows (dOCons (dVarO 0) (dOCons (dRes (dOp2 gIx (dVarO 1) (dRes (dK (.int 0))))) (dOCons (dRes (dOp2 gIx (dVarO 1) (dRes (dK (.int 1))))) (dOCons (dVarO 2) dONil)))))) dONil))) dVNil)))))
def fs__law_machine_of : FS := fsOf ["urn", "size", "states"] ["urn", "size", "states"] w__law_machine_of
/-! _law_small -/
abbrev s__law_small : Stmt := top 33
theorem sc__law_small : FnScope ["urn"] ["urn"] (defScope s__law_small) := ⟨rfl, rfl, rfl, by decide +kernel, rfl, by decide +kernel, by decide +kernel⟩
def w__law_small : DS :=
  (dRet (dCall fs__law_one (dOCons (dVarO 0) (dOCons (dRes (dLst (dVKs [(.tuple [(.int 2), (.int 2)]), (.tuple [(.int 2), (.int 2)]), (.tuple [(.int 1), (.int 2)]), (.tuple [(.int 3), (.int 2)]), (.tuple [(.int 2), (.int 3)]), (.tuple [(.int 1), (.int 9)]), (.tuple [(.int 3), (.int 3)])]))) dONil))))
def fs__law_small : FS := fsOf ["urn"] ["urn"] w__law_small
/-! _law_machine -/
abbrev s__law_machine : Stmt := top 39
theorem sc__law_machine : FnScope ["urn", "most"] ["urn", "most"] (defScope s__law_machine) := ⟨rfl, rfl, rfl, by decide +kernel, rfl, by decide +kernel, by decide +kernel⟩
def w__law_machine : DS :=
  (dRet (dCall fs__law_machine_of (dOCons (dVarO 0) (dOCons (dRes (dCall fs__law_small (dOCons (dVarO 0) dONil))) (dOCons (dRes (dOp2 gAdd (dRes (dK (.int 1))) (dRes (dCall fs__law_roll (dOCons (dVarO 0) (dOCons (dVarO 1) dONil)))))) dONil)))))
def fs__law_machine : FS := fsOf ["urn", "most"] ["urn", "most"] w__law_machine
/-! _law_gaps -/
abbrev s__law_gaps : Stmt := top 40
theorem sc__law_gaps : FnScope ["urn", "machine", "often", "rows", "row", "entry"] ["urn", "machine", "often"] (defScope s__law_gaps) := ⟨rfl, rfl, rfl, by decide +kernel, rfl, by decide +kernel, by decide +kernel⟩
def w__law_gaps_e1 : DV :=
  (dFz (dIf (dTst (dOp2 (gEq false) (dRes (dCall fs__law_roll (dOCons (dVarO 0) (dOCons (dVarO 2) dONil)))) (dRes (dK (.int 0))))) (dK .none) (dOf (dVar 5))))
def w__law_gaps_b1 : DS :=
  (dExp (dApp 3 (dFz (dCB gTupC (dOCons (dRes (dLc (dSq (dVar 4)) (gNm 5) dYes w__law_gaps_e1 [5])) dONil)))))
def w__law_gaps : DS :=
  (dSeq (dAsg (dLst (dVKs [])) (gNm 3))
  (dSeq (dFor (dSq (dFz (dOp2 gIx (dVarO 1) (dRes (dK (.int 2)))))) (gNm 4) w__law_gaps_b1)
  (dRet (dTup (dVCons (dFz (dOp2 gIx (dVarO 1) (dRes (dK (.int 0))))) (dVCons (dFz (dOp2 gIx (dVarO 1) (dRes (dK (.int 1))))) (dVCons (dFz (dCB gTupC (dOCons (dVarO 3) dONil))) dVNil)))))))
def fs__law_gaps : FS := fsOf ["urn", "machine", "often", "rows", "row", "entry"] ["urn", "machine", "often"] w__law_gaps
/-! _law_word -/
abbrev s__law_word : Stmt := top 41
theorem sc__law_word : FnScope ["urn", "letters", "most", "at"] ["urn", "letters", "most"] (defScope s__law_word) := ⟨rfl, rfl, rfl, by decide +kernel, rfl, by decide +kernel, by decide +kernel⟩
def w__law_word_e1 : DV :=
  (dFz (dCall fs__law_roll (dOCons (dVarO 0) (dOCons (dVarO 1) dONil))))
def w__law_word : DS :=
  (dRet (dCB gTupC (dOCons (dRes (dLc (dRng1 (dVCons (dFz (dCall fs__law_roll (dOCons (dVarO 0) (dOCons (dRes (dOp2 gAdd (dVarO 2) (dRes (dK (.int 1))))) dONil)))) dVNil)) (gNm 3) dYes w__law_word_e1 [3])) dONil)))
def fs__law_word : FS := fsOf ["urn", "letters", "most", "at"] ["urn", "letters", "most"] w__law_word
/-! _law_run -/
abbrev s__law_run : Stmt := top 42
theorem sc__law_run : FnScope ["sketch", "state", "word", "found", "letter", "entry"] ["sketch", "state", "word"] (defScope s__law_run) := ⟨rfl, rfl, rfl, by decide +kernel, rfl, by decide +kernel, by decide +kernel⟩
def w__law_run_b1 : DS :=
  (dSeq (dAsg (dOp2 gIx (dRes (dOp2 gIx (dRes (dOp2 gIx (dVarO 0) (dRes (dK (.int 2))))) (dVarO 1))) (dVarO 4)) (gNm 5))
    (dSeq (dIfS (dTst (dOp2 (gIs false) (dVarO 5) (dRes (dK .none)))) (dRet (dK .none)) dNext)
    (dSeq (dAsg (dOp2 gIx (dVarO 5) (dRes (dK (.int 0)))) (gNm 1))
    (dExp (dApp 3 (dFz (dOp2 gIx (dVarO 5) (dRes (dK (.int 1))))))))))
def w__law_run : DS :=
  (dSeq (dAsg (dLst (dVKs [])) (gNm 3))
  (dSeq (dFor (dSq (dVar 2)) (gNm 4) w__law_run_b1)
  (dRet (dTup (dVCons (dFz (dCB gTupC (dOCons (dVarO 3) dONil))) (dVCons (dVar 1) dVNil))))))
def fs__law_run : FS := fsOf ["sketch", "state", "word", "found", "letter", "entry"] ["sketch", "state", "word"] w__law_run
/-! is_tuple_of -/
abbrev s_is_tuple_of : Stmt := top 7
theorem sc_is_tuple_of : FnScope ["thing", "least", "most"] ["thing", "least", "most"] (defScope s_is_tuple_of) := ⟨rfl, rfl, rfl, by decide +kernel, rfl, by decide +kernel, by decide +kernel⟩
def w_is_tuple_of : DS :=
  (dRet (dAndV (dIsi .tuple (dVarO 0)) (dChain gLe gLe (dVarO 1) (dRes (dCB gLen (dOCons (dVarO 0) dONil))) (dVarO 2))))
def fs_is_tuple_of : FS := fsOf ["thing", "least", "most"] ["thing", "least", "most"] w_is_tuple_of
/-! is_integer -/
abbrev s_is_integer : Stmt := top 5
theorem sc_is_integer : FnScope ["thing"] ["thing"] (defScope s_is_integer) := ⟨rfl, rfl, rfl, by decide +kernel, rfl, by decide +kernel, by decide +kernel⟩
def w_is_integer : DS :=
  (dRet (dAndV (dIsi .int (dVarO 0)) (dNotV (dIsi .bool (dVarO 0)))))
def fs_is_integer : FS := fsOf ["thing"] ["thing"] w_is_integer
/-! is_within -/
abbrev s_is_within : Stmt := top 6
theorem sc_is_within : FnScope ["thing", "low", "high"] ["thing", "low", "high"] (defScope s_is_within) := ⟨rfl, rfl, rfl, by decide +kernel, rfl, by decide +kernel, by decide +kernel⟩
def w_is_within : DS :=
  (dRet (dAndV (dCall fs_is_integer (dOCons (dVarO 0) dONil)) (dChain gLe gLe (dVarO 1) (dVarO 0) (dVarO 2))))
def fs_is_within : FS := fsOf ["thing", "low", "high"] ["thing", "low", "high"] w_is_within
/-! is_entry_form -/
abbrev s_is_entry_form : Stmt := top 15
theorem sc_is_entry_form : FnScope ["thing", "answers", "many"] ["thing", "answers", "many"] (defScope s_is_entry_form) := ⟨rfl, rfl, rfl, by decide +kernel, rfl, by decide +kernel, by decide +kernel⟩
def w_is_entry_form : DS :=
  (dSeq (dIfS (dTst (dOp2 (gIs false) (dVarO 0) (dRes (dK .none)))) (dRet (dK (.bool true))) dNext)
  (dRet (dAndV (dCall fs_is_tuple_of (dOCons (dVarO 0) (dOCons (dRes (dK (.int 2))) (dOCons (dRes (dK (.int 2))) dONil)))) (dAndV (dCall fs_is_within (dOCons (dRes (dOp2 gIx (dVarO 0) (dRes (dK (.int 0))))) (dOCons (dRes (dK (.int 0))) (dOCons (dRes (dOp2 gSub (dVarO 2) (dRes (dK (.int 1))))) dONil)))) (dCall fs_is_within (dOCons (dRes (dOp2 gIx (dVarO 0) (dRes (dK (.int 1))))) (dOCons (dRes (dK (.int 0))) (dOCons (dRes (dOp2 gSub (dVarO 1) (dRes (dK (.int 1))))) dONil))))))))
def fs_is_entry_form : FS := fsOf ["thing", "answers", "many"] ["thing", "answers", "many"] w_is_entry_form
/-! are_rows -/
abbrev s_are_rows : Stmt := top 16
theorem sc_are_rows : FnScope ["thing", "letters", "answers", "row", "one"] ["thing", "letters", "answers"] (defScope s_are_rows) := ⟨rfl, rfl, rfl, by decide +kernel, rfl, by decide +kernel, by decide +kernel⟩
def w_are_rows_g1 : DE :=
  (dCall fs_is_entry_form (dOCons (dVarO 4) (dOCons (dVarO 2) (dOCons (dRes (dCB gLen (dOCons (dVarO 0) dONil))) dONil))))
def w_are_rows_b1 : DS :=
  (dIfS (dOr (dNot (dTst (dCall fs_is_tuple_of (dOCons (dVarO 3) (dOCons (dVarO 1) (dOCons (dVarO 1) dONil)))))) (dNot (dTst (dAll (dSq (dVar 3)) (gNm 4) dYes w_are_rows_g1 [4])))) (dRet (dK (.bool false))) dNext)
def w_are_rows : DS :=
  (dSeq (dIfS (dNot (dTst (dIsi .tuple (dVarO 0)))) (dRet (dK (.bool false))) dNext)
  (dSeq (dFor (dSq (dVar 0)) (gNm 3) w_are_rows_b1)
  (dRet (dK (.bool true)))))
def fs_are_rows : FS := fsOf ["thing", "letters", "answers", "row", "one"] ["thing", "letters", "answers"] w_are_rows
/-! is_sketch_form -/
abbrev s_is_sketch_form : Stmt := top 18
theorem sc_is_sketch_form : FnScope ["thing", "letters", "answers", "rows"] ["thing"] (defScope s_is_sketch_form) := ⟨rfl, rfl, rfl, by decide +kernel, rfl, by decide +kernel, by decide +kernel⟩
def w_is_sketch_form : DS :=
  (dSeq (dIfS (dOr (dNot (dTst (dCall fs_is_tuple_of (dOCons (dVarO 0) (dOCons (dRes (dK (.int 3))) (dOCons (dRes (dK (.int 3))) dONil)))))) (dNot (dTst (dCall fs_is_within (dOCons (dRes (dOp2 gIx (dVarO 0) (dRes (dK (.int 0))))) (dOCons (dRes (dK (.int 1))) (dOCons (dRes (dK (.int 3))) dONil))))))) (dRet (dK (.bool false))) dNext)
  (dSeq (dIfS (dOr (dNot (dTst (dCall fs_is_within (dOCons (dRes (dOp2 gIx (dVarO 0) (dRes (dK (.int 1))))) (dOCons (dRes (dK (.int 2))) (dOCons (dRes (dK (.int 9))) dONil)))))) (dNot (dTst (dCall fs_is_tuple_of (dOCons (dRes (dOp2 gIx (dVarO 0) (dRes (dK (.int 2))))) (dOCons (dRes (dK (.int 1))) (dOCons (dRes (dK (.int 600))) dONil))))))) (dRet (dK (.bool false))) dNext)
  (dSeq (dAsg (dOf (dVar 0)) (gTp 3 (gCons' (gNm 1) (gCons' (gNm 2) (gCons' (gNm 3) gNil')))))
  (dRet (dAndV (dCall fs_are_rows (dOCons (dVarO 3) (dOCons (dVarO 1) (dOCons (dVarO 2) dONil)))) (dOrV (dOp2 (gLe) (dRes (dCB gLen (dOCons (dVarO 3) dONil))) (dRes (dK (.int 12)))) dNevE))))))
def fs_is_sketch_form : FS := fsOf ["thing", "letters", "answers", "rows"] ["thing"] w_is_sketch_form
/-! need_sketch -/
abbrev s_need_sketch : Stmt := top 19
theorem sc_need_sketch : FnScope ["thing"] ["thing"] (defScope s_need_sketch) := ⟨rfl, rfl, rfl, by decide +kernel, rfl, by decide +kernel, by decide +kernel⟩
def w_need_sketch : DS :=
  (dIfS (dNot (dTst (dCall fs_is_sketch_form (dOCons (dVarO 0) dONil)))) dNever dNext)
def fs_need_sketch : FS := fsOf ["thing"] ["thing"] w_need_sketch
/-! is_word_form -/
abbrev s_is_word_form : Stmt := top 20
theorem sc_is_word_form : FnScope ["letters", "thing", "one"] ["letters", "thing"] (defScope s_is_word_form) := ⟨rfl, rfl, rfl, by decide +kernel, rfl, by decide +kernel, by decide +kernel⟩
def w_is_word_form_g1 : DE :=
  (dCall fs_is_within (dOCons (dVarO 2) (dOCons (dRes (dK (.int 0))) (dOCons (dRes (dOp2 gSub (dVarO 0) (dRes (dK (.int 1))))) dONil))))
def w_is_word_form : DS :=
  (dRet (dAndV (dCall fs_is_tuple_of (dOCons (dVarO 1) (dOCons (dRes (dK (.int 0))) (dOCons (dRes (dK (.int 600))) dONil)))) (dAll (dSq (dVar 1)) (gNm 2) dYes w_is_word_form_g1 [2])))
def fs_is_word_form : FS := fsOf ["letters", "thing", "one"] ["letters", "thing"] w_is_word_form
/-! need_word -/
abbrev s_need_word : Stmt := top 21
theorem sc_need_word : FnScope ["letters", "thing"] ["letters", "thing"] (defScope s_need_word) := ⟨rfl, rfl, rfl, by decide +kernel, rfl, by decide +kernel, by decide +kernel⟩
def w_need_word : DS :=
  (dIfS (dNot (dTst (dCall fs_is_word_form (dOCons (dVarO 0) (dOCons (dVarO 1) dONil))))) dNever dNext)
def fs_need_word : FS := fsOf ["letters", "thing"] ["letters", "thing"] w_need_word
/-! run_from -/
abbrev s_run_from : Stmt := top 22
theorem sc_run_from : FnScope ["sketch", "state", "word", "found", "rows", "letter", "entry"] ["sketch", "state", "word"] (defScope s_run_from) := ⟨rfl, rfl, rfl, by decide +kernel, rfl, by decide +kernel, by decide +kernel⟩
def w_run_from_b1 : DS :=
  (dSeq (dAsg (dOp2 gIx (dRes (dOp2 gIx (dVarO 4) (dVarO 1))) (dVarO 5)) (gNm 6))
    (dSeq (dIfS (dTst (dOp2 (gIs false) (dVarO 6) (dRes (dK .none)))) (dRet (dK .none)) dNext)
    (dSeq (dAsg (dOp2 gIx (dVarO 6) (dRes (dK (.int 0)))) (gNm 1))
    (dExp (dApp 3 (dFz (dOp2 gIx (dVarO 6) (dRes (dK (.int 1))))))))))
def w_run_from : DS :=
  (dSeq (dPar 3 4 (dOCons (dRes (dLst (dVKs []))) (dOCons (dRes (dOp2 gIx (dVarO 0) (dRes (dK (.int 2))))) dONil)))
  (dSeq (dFor (dSq (dVar 2)) (gNm 5) w_run_from_b1)
  (dRet (dTup (dVCons (dFz (dCB gTupC (dOCons (dVarO 3) dONil))) (dVCons (dVar 1) dVNil))))))
def fs_run_from : FS := fsOf ["sketch", "state", "word", "found", "rows", "letter", "entry"] ["sketch", "state", "word"] w_run_from
/-! answers_from -/
abbrev s_answers_from : Stmt := top 23
theorem sc_answers_from : FnScope ["sketch", "state", "word", "found"] ["sketch", "state", "word"] (defScope s_answers_from) := ⟨rfl, rfl, rfl, by decide +kernel, rfl, by decide +kernel, by decide +kernel⟩
def w_answers_from : DS :=
  (dSeq (dAsg (dCall fs_run_from (dOCons (dVarO 0) (dOCons (dVarO 1) (dOCons (dVarO 2) dONil)))) (gNm 3))
  (dRet (dIf (dTst (dOp2 (gIs false) (dVarO 3) (dRes (dK .none)))) (dK .none) (dOp2 gIx (dVarO 3) (dRes (dK (.int 0)))))))
def fs_answers_from : FS := fsOf ["sketch", "state", "word", "found"] ["sketch", "state", "word"] w_answers_from
/-! told -/
abbrev s_told : Stmt := top 26
theorem sc_told : FnScope ["sketch", "word"] ["sketch", "word"] (defScope s_told) := ⟨rfl, rfl, rfl, by decide +kernel, rfl, by decide +kernel, by decide +kernel⟩
def w_told : DS :=
  (dSeq (dExp (dCall fs_need_sketch (dOCons (dVarO 0) dONil)))
  (dSeq (dExp (dCall fs_need_word (dOCons (dRes (dOp2 gIx (dVarO 0) (dRes (dK (.int 0))))) (dOCons (dVarO 1) dONil))))
  (dRet (dCall fs_answers_from (dOCons (dVarO 0) (dOCons (dRes (dK (.int 0))) (dOCons (dVarO 1) dONil)))))))
def fs_told : FS := fsOf ["sketch", "word"] ["sketch", "word"] w_told
/-! state_from -/
abbrev s_state_from : Stmt := top 24
theorem sc_state_from : FnScope ["sketch", "state", "word", "found"] ["sketch", "state", "word"] (defScope s_state_from) := ⟨rfl, rfl, rfl, by decide +kernel, rfl, by decide +kernel, by decide +kernel⟩
def w_state_from : DS :=
  (dSeq (dAsg (dCall fs_run_from (dOCons (dVarO 0) (dOCons (dVarO 1) (dOCons (dVarO 2) dONil)))) (gNm 3))
  (dRet (dIf (dTst (dOp2 (gIs false) (dVarO 3) (dRes (dK .none)))) (dK .none) (dOp2 gIx (dVarO 3) (dRes (dK (.int 1)))))))
def fs_state_from : FS := fsOf ["sketch", "state", "word", "found"] ["sketch", "state", "word"] w_state_from
/-! behind -/
abbrev s_behind : Stmt := top 27
theorem sc_behind : FnScope ["sketch", "word"] ["sketch", "word"] (defScope s_behind) := ⟨rfl, rfl, rfl, by decide +kernel, rfl, by decide +kernel, by decide +kernel⟩
def w_behind : DS :=
  (dSeq (dExp (dCall fs_need_sketch (dOCons (dVarO 0) dONil)))
  (dSeq (dExp (dCall fs_need_word (dOCons (dRes (dOp2 gIx (dVarO 0) (dRes (dK (.int 0))))) (dOCons (dVarO 1) dONil))))
  (dRet (dCall fs_state_from (dOCons (dVarO 0) (dOCons (dRes (dK (.int 0))) (dOCons (dVarO 1) dONil)))))))
def fs_behind : FS := fsOf ["sketch", "word"] ["sketch", "word"] w_behind
/-! _law_right -/
abbrev s__law_right : Stmt := top 43
theorem sc__law_right : FnScope ["sketch", "word", "found", "due"] ["sketch", "word"] (defScope s__law_right) := ⟨rfl, rfl, rfl, by decide +kernel, rfl, by decide +kernel, by decide +kernel⟩
def w__law_right : DS :=
  (dSeq (dAsg (dCall fs__law_run (dOCons (dVarO 0) (dOCons (dRes (dK (.int 0))) (dOCons (dVarO 1) dONil)))) (gNm 2))
  (dSeq (dAsg (dIf (dTst (dOp2 (gIs false) (dVarO 2) (dRes (dK .none)))) (dK (.tuple [.none, .none])) (dOf (dVar 2))) (gNm 3))
  (dSeq (dIfS (dTst (dOp2 (gEq true) (dRes (dCB gRepr (dOCons (dRes (dTup (dVCons (dFz (dCall fs_told (dOCons (dVarO 0) (dOCons (dVarO 1) dONil)))) (dVCons (dFz (dCall fs_behind (dOCons (dVarO 0) (dOCons (dVarO 1) dONil)))) dVNil)))) dONil))) (dRes (dCB gRepr (dOCons (dVarO 3) dONil))))) (dRet (dK (.bool false))) dNext)
  (dRet (dOp2 (gEq false) (dRes (dCB gRepr (dOCons (dRes (dTup (dVCons (dFz (dCall fs_told (dOCons (dVarO 0) (dOCons (dVarO 1) dONil)))) (dVCons (dFz (dCall fs_behind (dOCons (dVarO 0) (dOCons (dVarO 1) dONil)))) dVNil)))) dONil))) (dRes (dCB gRepr (dOCons (dVarO 3) dONil))))))))
def fs__law_right : FS := fsOf ["sketch", "word", "found", "due"] ["sketch", "word"] w__law_right
/-! law -/
abbrev s_law : Stmt := top 44
theorem sc_law : FnScope ["script", "k", "cell", "urn", "machine", "sketch", "words", "piece", "turn", "word"] ["script"] (defScope s_law) := ⟨rfl, rfl, rfl, by decide +kernel, rfl, by decide +kernel, by decide +kernel⟩
def w_law_e1 : DV :=
  (dFz (dCall fs__law_word (dOCons (dVarO 3) (dOCons (dRes (dOp2 gIx (dVarO 5) (dRes (dK (.int 0))))) (dOCons (dRes (dK (.int 9))) dONil)))))
def w_law_t1 : DT :=
  (dNot (dTst (dCall fs__law_right (dOCons (dVarO 5) (dOCons (dVarO 9) dONil)))))
def w_law_e2 : DV :=
  (dVK (.int 1))
def w_law_b1 : DS :=
  (dSeq (dAsg (dCall fs__law_urn (dOCons (dVarO 2) (dOCons (dVarO 1) dONil))) (gNm 3))
    (dSeq (dAsg (dCall fs__law_machine (dOCons (dVarO 3) (dOCons (dRes (dK (.int 12))) dONil))) (gNm 4))
    (dSeq (dAsg (dIf (dTst (dOp2 (gEq false) (dRes (dCall fs__law_roll (dOCons (dVarO 3) (dOCons (dRes (dK (.int 3))) dONil)))) (dRes (dK (.int 0))))) (dOf (dVar 4)) (dCall fs__law_gaps (dOCons (dVarO 3) (dOCons (dVarO 4) (dOCons (dRes (dOp2 gAdd (dRes (dK (.int 2))) (dRes (dCall fs__law_roll (dOCons (dVarO 3) (dOCons (dRes (dK (.int 8))) dONil)))))) dONil))))) (gNm 5))
    (dSeq (dAsg (dOp2 gAdd (dRes (dLst (dVKs [(.tuple [])]))) (dRes (dLc (dRng1 (dVKs [(.int 5)])) (gNm 8) dYes w_law_e1 [8]))) (gNm 6))
    (dSeq (dAsg (dOp2 gAdd (dRes (dTup (dVCons (dFz (dCall fs__law_roll (dOCons (dVarO 3) (dOCons (dRes (dOp2 gIx (dVarO 5) (dRes (dK (.int 0))))) dONil)))) dVNil))) (dRes (dCall fs__law_word (dOCons (dVarO 3) (dOCons (dRes (dOp2 gIx (dVarO 5) (dRes (dK (.int 0))))) (dOCons (dRes (dK (.int 4))) dONil)))))) (gNm 7))
    (dSeq (dExp (dApp 6 (dFz (dSl (dRes (dOp2 gMul (dVarO 7) (dRes (dK (.int 600))))) dNoP (dPrt (dCall fs__law_one (dOCons (dVarO 3) (dOCons (dRes (dLst (dVCons (dVK (.int 600)) (dVCons (dVK (.int 599)) (dVCons (dFz (dCall fs__law_roll (dOCons (dVarO 3) (dOCons (dRes (dK (.int 601))) dONil)))) dVNil))))) dONil))))))))
    (dIfS (dTst (dOp2 (gEq true) (dRes (dLc (dSq (dVar 6)) (gNm 9) w_law_t1 w_law_e2 [9])) (dRes (dLst (dVKs []))))) (dRet (dK (.bool false))) dNext)))))))
def w_law : DS :=
  (dSeq (dFor (dEnm (dVCons (dFz (dCall fs__law_numbers (dOCons (dVarO 0) (dOCons (dRes (dK (.int 12))) dONil)))) dVNil)) (gTp 2 (gCons' (gNm 1) (gCons' (gNm 2) gNil'))) w_law_b1)
  (dRet (dK (.bool true))))
def fs_law : FS := fsOf ["script", "k", "cell", "urn", "machine", "sketch", "words", "piece", "turn", "word"] ["script"] w_law
end DV

set_option Elab.async false
set_option linter.all false
set_option maxRecDepth 100000
set_option maxHeartbeats 0
namespace DV
open PySem PySem.Spec PyProof.Rows L2
/-! ### what the head tells -/
structure Fx (K : Frag) (mg : Str → Option Value) (base : Heap) : Prop where
  b_all : mg "all" = none
  b_bool : mg "bool" = none
  b_enumerate : mg "enumerate" = none
  b_int : mg "int" = none
  b_isinstance : mg "isinstance" = none
  b_len : mg "len" = none
  b_range : mg "range" = none
  b_repr : mg "repr" = none
  b_tuple : mg "tuple" = none
  i_LEAST_ANSWERS : ∃ t, mg "LEAST_ANSWERS" = some (.int 2 t)
  i_MOST_ANSWERS : ∃ t, mg "MOST_ANSWERS" = some (.int 9 t)
  i_MOST_LETTERS : ∃ t, mg "MOST_LETTERS" = some (.int 3 t)
  i_MOST_ROWS : ∃ t, mg "MOST_ROWS" = some (.int 600 t)
  i_MOST_STATES : ∃ t, mg "MOST_STATES" = some (.int 12 t)
  i_MOST_WORD : ∃ t, mg "MOST_WORD" = some (.int 600 t)
  d__law_numbers : Told K mg "_law_numbers" s__law_numbers
  d__law_urn : Told K mg "_law_urn" s__law_urn
  d__law_roll : Told K mg "_law_roll" s__law_roll
  d__law_any_rows : Told K mg "_law_any_rows" s__law_any_rows
  d__law_one : Told K mg "_law_one" s__law_one
  d__law_ring_rows : Told K mg "_law_ring_rows" s__law_ring_rows
  d__law_blown_rows : Told K mg "_law_blown_rows" s__law_blown_rows
  d__law_rows : Told K mg "_law_rows" s__law_rows
  d__law_machine_of : Told K mg "_law_machine_of" s__law_machine_of
  d__law_small : Told K mg "_law_small" s__law_small
  d__law_machine : Told K mg "_law_machine" s__law_machine
  d__law_gaps : Told K mg "_law_gaps" s__law_gaps
  d__law_word : Told K mg "_law_word" s__law_word
  d__law_run : Told K mg "_law_run" s__law_run
  d_is_tuple_of : Told K mg "is_tuple_of" s_is_tuple_of
  d_is_integer : Told K mg "is_integer" s_is_integer
  d_is_within : Told K mg "is_within" s_is_within
  d_is_entry_form : Told K mg "is_entry_form" s_is_entry_form
  d_are_rows : Told K mg "are_rows" s_are_rows
  d_is_sketch_form : Told K mg "is_sketch_form" s_is_sketch_form
  d_need_sketch : Told K mg "need_sketch" s_need_sketch
  d_is_word_form : Told K mg "is_word_form" s_is_word_form
  d_need_word : Told K mg "need_word" s_need_word
  d_run_from : Told K mg "run_from" s_run_from
  d_answers_from : Told K mg "answers_from" s_answers_from
  d_told : Told K mg "told" s_told
  d_state_from : Told K mg "state_from" s_state_from
  d_behind : Told K mg "behind" s_behind
  d__law_right : Told K mg "_law_right" s__law_right
  d_law : Told K mg "law" s_law
  p_are_rows : (He.cT K ("are_rows", none)).2 ∈ tbs K
  t_are_rows : GxR.TabB base mg (He.codeOf K ("are_rows", none)) (He.cT K ("are_rows", none)).2
  p_is_word_form : (He.cT K ("is_word_form", none)).2 ∈ tbs K
  t_is_word_form : GxR.TabB base mg (He.codeOf K ("is_word_form", none)) (He.cT K ("is_word_form", none)).2
/-! ### the walks -/
section
variable {P : Program} {w : World} {K : Frag} {mg : Str → Option Value} {base : Heap}
theorem c__law_numbers (x : Fx K mg base) : Cl P w K mg base (tbs K) 1 "_law_numbers" ["script", "most"] fs__law_numbers :=
  cl_of x.d__law_numbers sc__law_numbers (by decide) (fun _ _ _ _ _ _ us hl => match us, hl with | [_, _], _ => rfl) (fun _ _ _ _ _ _ us hl => match us, hl with | [_, _], _ => rfl) fun cdv A outer s H E hr hc => by
  exact (sss_one (ss_ret (se_if (st_ne hr (so_var 0) (so_se (se_lst svs_nilK))) (se_slice (so_var 0) sp_none (sp_some (se_sv (sv_var 1)))) (se_lst (svs_consK se_int svs_nilK)))))
theorem c__law_urn (x : Fx K mg base) : Cl P w K mg base (tbs K) 1 "_law_urn" ["cell", "k"] fs__law_urn :=
  cl_of x.d__law_urn sc__law_urn (by decide) (fun _ _ _ _ _ _ us hl => match us, hl with | [_, _], _ => rfl) (fun _ _ _ _ _ _ us hl => match us, hl with | [_, _], _ => rfl) fun cdv A outer s H E hr hc => by
  exact (sss_cons (ss_if (st_ge (so_var 0) (so_se (se_pow (so_se se_int) (so_se se_int)))) (sss_one (ss_ret (se_lst (svs_cons (sv_se (se_sub (so_var 0) (so_se (se_pow (so_se se_int) (so_se se_int))))) (svs_cons (sv_se (se_add (so_se (se_mul (so_se se_int) (so_var 1))) (so_se se_int))) (svs_cons (sv_K se_int) svs_nil)))))) sss_nil)
  (sss_one (ss_ret (se_lst (svs_cons (sv_K se_int) (svs_cons (sv_se (se_mod (so_se (se_intC x.b_int (sos_cons (so_se (se_add (so_se (se_add (so_se (se_mul (so_var 0) (so_se se_int))) (so_se (se_mul (so_se se_int) (so_var 1))))) (so_se se_int))) sos_nil))) (so_se (se_add (so_se (se_pow (so_se se_int) (so_se se_int))) (so_se se_int))))) (svs_cons (sv_K se_int) svs_nil)))))))
theorem c__law_roll (x : Fx K mg base) : Cl P w K mg base (tbs K) 1 "_law_roll" ["urn", "many"] fs__law_roll :=
  cl_of x.d__law_roll sc__law_roll (by decide) (fun _ _ _ _ _ _ us hl => match us, hl with | [_, _], _ => rfl) (fun _ _ _ _ _ _ us hl => match us, hl with | [_, _], _ => rfl) fun cdv A outer s H E hr hc => by
  exact (sss_cons (ss_if (st_gt (so_se (se_ix (so_var 0) (so_se se_int))) (so_se se_int)) (sss_cons (ss_set 2 sc__law_roll.nd (se_mod (so_se (se_intC x.b_int (sos_cons (so_se (se_ix (so_var 0) (so_se se_int))) sos_nil))) (so_var 1)))
    (sss_cons (ss_setIx 0 (sv_se (se_fdiv (so_se (se_ix (so_var 0) (so_se se_int))) (so_var 1))) (so_se se_int))
    (sss_one (ss_ret (se_move 2))))) sss_nil)
  (sss_cons (ss_setIx 0 (sv_se (se_add (so_se (se_ix (so_var 0) (so_se se_int))) (so_se se_int))) (so_se se_int))
  (sss_cons (ss_set 3 sc__law_roll.nd (se_add (so_se (se_ix (so_var 0) (so_se se_int))) (so_se (se_mul (so_se se_int) (so_se (se_ix (so_var 0) (so_se se_int)))))))
  (sss_cons (ss_set 3 sc__law_roll.nd (se_mod (so_se (se_intC x.b_int (sos_cons (so_se (se_add (so_se (se_mul (so_se (se_mul (so_var 3) (so_var 3))) (so_var 3))) (so_se (se_mul (so_se (se_mul (so_se se_int) (so_se (se_ix (so_var 0) (so_se se_int))))) (so_se (se_ix (so_var 0) (so_se se_int))))))) sos_nil))) (so_se (se_add (so_se (se_pow (so_se se_int) (so_se se_int))) (so_se se_int)))))
  (sss_cons (ss_set 3 sc__law_roll.nd (se_mod (so_se (se_intC x.b_int (sos_cons (so_se (se_add (so_se (se_mul (so_var 3) (so_var 3))) (so_se (se_mul (so_se se_int) (so_var 3))))) sos_nil))) (so_se (se_add (so_se (se_pow (so_se se_int) (so_se se_int))) (so_se se_int)))))
  (sss_one (ss_ret (se_mod (so_se (se_intC x.b_int (sos_cons (so_se (se_fdiv (so_var 3) (so_se (se_pow (so_se se_int) (so_se se_int))))) sos_nil))) (so_var 1)))))))))
theorem c__law_any_rows (x : Fx K mg base) : Cl P w K mg base (tbs K) 2 "_law_any_rows" ["urn", "letters", "answers", "states", "dull"] fs__law_any_rows :=
  cl_of x.d__law_any_rows sc__law_any_rows (by decide) (fun _ _ _ _ _ _ us hl => match us, hl with | [_, _, _, _, _], _ => rfl) (fun _ _ _ _ _ _ us hl => match us, hl with | [_, _, _, _, _], _ => rfl) fun cdv A outer s H E hr hc => by
  exact (sss_cons (ss_set 5 sc__law_any_rows.nd (se_lst svs_nilK))
  (sss_cons (ss_for PassesOwn.never rfl (si_rng1 (by rfl) x.b_range (svs_cons (sv_var 3) svs_nil)) (sg_name 6 sc__law_any_rows.nd) (sss_cons (ss_set 7 sc__law_any_rows.nd (se_lst svs_nilK))
    (sss_cons (ss_for PassesOwn.never rfl (si_rng1 (by rfl) x.b_range (svs_cons (sv_var 1) svs_nil)) (sg_name 8 sc__law_any_rows.nd) (sss_cons (ss_set 9 sc__law_any_rows.nd (se_if (SW.st (sw_or (st_not (st_val (se_sv (sv_var 4)))) (sw_or1 (st_eq hr (so_se (se_cl (c__law_roll x) hr (sos_cons (so_var 0) (sos_cons (so_se se_int) sos_nil)))) (so_se se_int))))) (se_cl (c__law_roll x) hr (sos_cons (so_var 0) (sos_cons (so_var 2) sos_nil))) se_int))
      (sss_one (ss_expr (se_app 7 (sv_se (se_tup (svs_cons (sv_se (se_cl (c__law_roll x) hr (sos_cons (so_var 0) (sos_cons (so_var 3) sos_nil)))) (svs_cons (sv_var 9) svs_nil)))))))))
    (sss_one (ss_expr (se_app 5 (sv_se (se_tupC x.b_tuple (sos_cons (so_var 7) sos_nil)))))))))
  (sss_one (ss_ret (se_move 5)))))
theorem c__law_one (x : Fx K mg base) : Cl P w K mg base (tbs K) 2 "_law_one" ["urn", "things"] fs__law_one :=
  cl_of x.d__law_one sc__law_one (by decide) (fun _ _ _ _ _ _ us hl => match us, hl with | [_, _], _ => rfl) (fun _ _ _ _ _ _ us hl => match us, hl with | [_, _], _ => rfl) fun cdv A outer s H E hr hc => by
  exact (sss_one (ss_ret (se_ix (so_var 1) (so_se (se_cl (c__law_roll x) hr (sos_cons (so_var 0) (sos_cons (so_se (se_len x.b_len (sos_cons (so_var 1) sos_nil))) sos_nil)))))))
theorem c__law_ring_rows (x : Fx K mg base) : Cl P w K mg base (tbs K) 3 "_law_ring_rows" ["urn", "letters", "answers", "states"] fs__law_ring_rows :=
  cl_of x.d__law_ring_rows sc__law_ring_rows (by decide) (fun _ _ _ _ _ _ us hl => match us, hl with | [_, _, _, _], _ => rfl) (fun _ _ _ _ _ _ us hl => match us, hl with | [_, _, _, _], _ => rfl) fun cdv A outer s H E hr hc => by
  exact (sss_cons (ss_par3 4 5 6 rfl sc__law_ring_rows.nd (sos_cons (so_se (se_cl (c__law_roll x) hr (sos_cons (so_var 0) (sos_cons (so_var 3) sos_nil)))) (sos_cons (so_se (se_cl (c__law_roll x) hr (sos_cons (so_var 0) (sos_cons (so_var 1) sos_nil)))) (sos_cons (so_se (se_lst svs_nilK)) sos_nil))))
  (sss_cons (ss_for PassesOwn.never rfl (si_rng1 (by rfl) x.b_range (svs_cons (sv_var 3) svs_nil)) (sg_name 7 sc__law_ring_rows.nd) (sss_cons (ss_set 8 sc__law_ring_rows.nd (se_lst svs_nilK))
    (sss_cons (ss_for PassesOwn.never rfl (si_rng1 (by rfl) x.b_range (svs_cons (sv_var 1) svs_nil)) (sg_name 9 sc__law_ring_rows.nd) (sss_one (ss_if (st_eq hr (so_var 9) (so_var 5)) (sss_one (ss_expr (se_app 8 (sv_se (se_tup (svs_cons (sv_se (se_mod (so_se (se_intC x.b_int (sos_cons (so_se (se_add (so_var 7) (so_se se_int))) sos_nil))) (so_var 3))) (svs_cons (sv_se (se_if (st_eq hr (so_var 7) (so_var 4)) se_int se_int)) svs_nil))))))) (sss_one (ss_expr (se_app 8 (sv_se (se_tup (svs_cons (sv_se (se_cl (c__law_one x) hr (sos_cons (so_var 0) (sos_cons (so_se (se_lst (svs_cons (sv_var 7) (svs_cons (sv_K se_int) (svs_cons (sv_se (se_cl (c__law_roll x) hr (sos_cons (so_var 0) (sos_cons (so_var 3) sos_nil)))) svs_nil))))) sos_nil)))) (svs_cons (sv_K se_int) svs_nil))))))))))
    (sss_one (ss_expr (se_app 6 (sv_se (se_tupC x.b_tuple (sos_cons (so_var 8) sos_nil)))))))))
  (sss_one (ss_ret (se_move 6)))))
theorem c__law_blown_rows (x : Fx K mg base) : Cl P w K mg base (tbs K) 3 "_law_blown_rows" ["urn", "rows", "states"] fs__law_blown_rows :=
  cl_of x.d__law_blown_rows sc__law_blown_rows (by decide) (fun _ _ _ _ _ _ us hl => match us, hl with | [_, _, _], _ => rfl) (fun _ _ _ _ _ _ us hl => match us, hl with | [_, _, _], _ => rfl) fun cdv A outer s H E hr hc => by
  exact (sss_cons (ss_parT 3 4 rfl sc__law_blown_rows.nd (sos_cons (so_se (se_len x.b_len (sos_cons (so_var 1) sos_nil))) (sos_cons (so_se (se_lst svs_nilK)) sos_nil)))
  (sss_cons (ss_for PassesOwn.never rfl (si_rng1 (by rfl) x.b_range (svs_cons (sv_var 2) svs_nil)) (sg_name 5 sc__law_blown_rows.nd) (sss_cons (ss_set 6 sc__law_blown_rows.nd (se_lst svs_nilK))
    (sss_cons (ss_for PassesOwn.never rfl (si_seq (sv_se (se_ix (so_var 1) (so_se (se_mod (so_se (se_intC x.b_int (sos_cons (so_var 5) sos_nil))) (so_var 3)))))) (sg_tup rfl (sgs_cons (sg_name 7 sc__law_blown_rows.nd) (sgs_cons (sg_name 8 sc__law_blown_rows.nd) sgs_nil))) (sss_cons (ss_setLc 9 [("one", 10)] rfl sc__law_blown_rows.nd (si_rng1 (by rfl) x.b_range (svs_cons (sv_var 2) svs_nil)) (blkOk_by (by kernel_rfl)) (fun _ _ _ _ _ => (sgb_name 10 sc__law_blown_rows.nd)) (fun _ _ _ _ _ => (sts_one (st_eq hr (so_se (se_mod (so_se (se_intC x.b_int (sos_cons (so_var 10) sos_nil))) (so_var 3))) (so_var 7)))) (fun _ _ _ _ _ => (sv_var 10)) (sw_true rfl rfl rfl (by kernel_rfl)))
      (sss_one (ss_expr (se_app 6 (sv_se (se_tup (svs_cons (sv_se (se_cl (c__law_one x) hr (sos_cons (so_var 0) (sos_cons (so_var 9) sos_nil)))) (svs_cons (sv_var 8) svs_nil)))))))))
    (sss_one (ss_expr (se_app 4 (sv_se (se_tupC x.b_tuple (sos_cons (so_var 6) sos_nil)))))))))
  (sss_one (ss_ret (se_move 4)))))
theorem c__law_rows (x : Fx K mg base) : Cl P w K mg base (tbs K) 4 "_law_rows" ["urn", "letters", "answers", "states"] fs__law_rows :=
  cl_of x.d__law_rows sc__law_rows (by decide) (fun _ _ _ _ _ _ us hl => match us, hl with | [_, _, _, _], _ => rfl) (fun _ _ _ _ _ _ us hl => match us, hl with | [_, _, _, _], _ => rfl) fun cdv A outer s H E hr hc => by
  exact (sss_cons (ss_set 4 sc__law_rows.nd (se_cl (c__law_roll x) hr (sos_cons (so_var 0) (sos_cons (so_se se_int) sos_nil))))
  (sss_cons (ss_if (st_eq hr (so_var 4) (so_se se_int)) (sss_one (ss_ret (se_cl (c__law_ring_rows x) hr (sos_cons (so_var 0) (sos_cons (so_var 1) (sos_cons (so_var 2) (sos_cons (so_var 3) sos_nil))))))) sss_nil)
  (sss_cons (ss_if (SW.st (sw_and (st_gt (so_var 4) (so_se se_int)) (sw_and1 (st_gt (so_var 3) (so_se se_int))))) (sss_cons (ss_set 5 sc__law_rows.nd (se_cl (c__law_any_rows x) hr (sos_cons (so_var 0) (sos_cons (so_var 1) (sos_cons (so_var 2) (sos_cons (so_se (se_add (so_se se_int) (so_se (se_cl (c__law_roll x) hr (sos_cons (so_var 0) (sos_cons (so_se (se_sub (so_var 3) (so_se se_int))) sos_nil)))))) (sos_cons (so_se (se_eq hr (so_se (se_cl (c__law_roll x) hr (sos_cons (so_var 0) (sos_cons (so_se se_int) sos_nil)))) (so_se se_int))) sos_nil)))))))
    (sss_one (ss_ret (se_cl (c__law_blown_rows x) hr (sos_cons (so_var 0) (sos_cons (so_var 5) (sos_cons (so_var 3) sos_nil))))))) sss_nil)
  (sss_one (ss_ret (se_cl (c__law_any_rows x) hr (sos_cons (so_var 0) (sos_cons (so_var 1) (sos_cons (so_var 2) (sos_cons (so_var 3) (sos_cons (so_se (se_eq hr (so_var 4) (so_se se_int))) sos_nil)))))))))))
theorem c__law_machine_of (x : Fx K mg base) : Cl P w K mg base (tbs K) 5 "_law_machine_of" ["urn", "size", "states"] fs__law_machine_of :=
  cl_of x.d__law_machine_of sc__law_machine_of (by decide) (fun _ _ _ _ _ _ us hl => match us, hl with | [_, _, _], _ => rfl) (fun _ _ _ _ _ _ us hl => match us, hl with | [_, _, _], _ => rfl) fun cdv A outer s H E hr hc => by
  exact (sss_one (ss_ret (se_tup (svs_cons (sv_se (se_ix (so_var 1) (so_se se_int))) (svs_cons (sv_se (se_ix (so_var 1) (so_se se_int))) (svs_cons (sv_se (se_tupC x.b_tuple (sos_cons (so_se (se_cl (c__law_rows x) hr (sos_cons (so_var 0) (sos_cons (so_se (se_ix (so_var 1) (so_se se_int))) (sos_cons (so_se (se_ix (so_var 1) (so_se se_int))) (sos_cons (so_var 2) sos_nil)))))) sos_nil))) svs_nil))))))
theorem c__law_small (x : Fx K mg base) : Cl P w K mg base (tbs K) 3 "_law_small" ["urn"] fs__law_small :=
  cl_of x.d__law_small sc__law_small (by decide) (fun _ _ _ _ _ _ us hl => match us, hl with | [_], _ => rfl) (fun _ _ _ _ _ _ us hl => match us, hl with | [_], _ => rfl) fun cdv A outer s H E hr hc => by
  exact (sss_one (ss_ret (se_cl (c__law_one x) hr (sos_cons (so_var 0) (sos_cons (so_se (se_lst (svs_consK (se_tupK (svs_consK se_int (svs_consK se_int svs_nilK))) (svs_consK (se_tupK (svs_consK se_int (svs_consK se_int svs_nilK))) (svs_consK (se_tupK (svs_consK se_int (svs_consK se_int svs_nilK))) (svs_consK (se_tupK (svs_consK se_int (svs_consK se_int svs_nilK))) (svs_consK (se_tupK (svs_consK se_int (svs_consK se_int svs_nilK))) (svs_consK (se_tupK (svs_consK se_int (svs_consK se_int svs_nilK))) (svs_consK (se_tupK (svs_consK se_int (svs_consK se_int svs_nilK))) svs_nilK))))))))) sos_nil)))))
theorem c__law_machine (x : Fx K mg base) : Cl P w K mg base (tbs K) 6 "_law_machine" ["urn", "most"] fs__law_machine :=
  cl_of x.d__law_machine sc__law_machine (by decide) (fun _ _ _ _ _ _ us hl => match us, hl with | [_, _], _ => rfl) (fun _ _ _ _ _ _ us hl => match us, hl with | [_, _], _ => rfl) fun cdv A outer s H E hr hc => by
  exact (sss_one (ss_ret (se_cl (c__law_machine_of x) hr (sos_cons (so_var 0) (sos_cons (so_se (se_cl (c__law_small x) hr (sos_cons (so_var 0) sos_nil))) (sos_cons (so_se (se_add (so_se se_int) (so_se (se_cl (c__law_roll x) hr (sos_cons (so_var 0) (sos_cons (so_var 1) sos_nil)))))) sos_nil))))))
theorem c__law_gaps (x : Fx K mg base) : Cl P w K mg base (tbs K) 2 "_law_gaps" ["urn", "machine", "often"] fs__law_gaps :=
  cl_of x.d__law_gaps sc__law_gaps (by decide) (fun _ _ _ _ _ _ us hl => match us, hl with | [_, _, _], _ => rfl) (fun _ _ _ _ _ _ us hl => match us, hl with | [_, _, _], _ => rfl) fun cdv A outer s H E hr hc => by
  exact (sss_cons (ss_set 3 sc__law_gaps.nd (se_lst svs_nilK))
  (sss_cons (ss_for PassesOwn.never rfl (si_seq (sv_se (se_ix (so_var 1) (so_se se_int)))) (sg_name 4 sc__law_gaps.nd) (sss_one (ss_expr (se_app 3 (sv_se (se_tupC x.b_tuple (sos_cons (so_se (se_lc [("entry", 5)] rfl sc__law_gaps.nd (si_seq (sv_var 4)) (blkOk_by (by kernel_rfl)) (fun _ _ _ _ _ => (sgb_name 5 sc__law_gaps.nd)) (fun _ _ _ _ _ => sts_nil) (fun _ _ _ _ _ => (sv_se (se_if (st_eq hr (so_se (se_cl (c__law_roll x) hr (sos_cons (so_var 0) (sos_cons (so_var 2) sos_nil)))) (so_se se_int)) se_none (se_sv (sv_var 5))))))) sos_nil)))))))
  (sss_one (ss_ret (se_tup (svs_cons (sv_se (se_ix (so_var 1) (so_se se_int))) (svs_cons (sv_se (se_ix (so_var 1) (so_se se_int))) (svs_cons (sv_se (se_tupC x.b_tuple (sos_cons (so_var 3) sos_nil))) svs_nil))))))))
theorem c__law_word (x : Fx K mg base) : Cl P w K mg base (tbs K) 2 "_law_word" ["urn", "letters", "most"] fs__law_word :=
  cl_of x.d__law_word sc__law_word (by decide) (fun _ _ _ _ _ _ us hl => match us, hl with | [_, _, _], _ => rfl) (fun _ _ _ _ _ _ us hl => match us, hl with | [_, _, _], _ => rfl) fun cdv A outer s H E hr hc => by
  exact (sss_one (ss_ret (se_tupC x.b_tuple (sos_cons (so_se (se_lc [("at", 3)] rfl sc__law_word.nd (si_rng1 (by rfl) x.b_range (svs_cons (sv_se (se_cl (c__law_roll x) hr (sos_cons (so_var 0) (sos_cons (so_se (se_add (so_var 2) (so_se se_int))) sos_nil)))) svs_nil)) (blkOk_by (by kernel_rfl)) (fun _ _ _ _ _ => (sgb_name 3 sc__law_word.nd)) (fun _ _ _ _ _ => sts_nil) (fun _ _ _ _ _ => (sv_se (se_cl (c__law_roll x) hr (sos_cons (so_var 0) (sos_cons (so_var 1) sos_nil))))))) sos_nil))))
theorem c__law_run (x : Fx K mg base) : Cl P w K mg base (tbs K) 1 "_law_run" ["sketch", "state", "word"] fs__law_run :=
  cl_of x.d__law_run sc__law_run (by decide) (fun _ _ _ _ _ _ us hl => match us, hl with | [_, _, _], _ => rfl) (fun _ _ _ _ _ _ us hl => match us, hl with | [_, _, _], _ => rfl) fun cdv A outer s H E hr hc => by
  exact (sss_cons (ss_set 3 sc__law_run.nd (se_lst svs_nilK))
  (sss_cons (ss_for PassesOwn.never rfl (si_seq (sv_var 2)) (sg_name 4 sc__law_run.nd) (sss_cons (ss_set 5 sc__law_run.nd (se_ix (so_se (se_ix (so_se (se_ix (so_var 0) (so_se se_int))) (so_var 1))) (so_var 4)))
    (sss_cons (ss_if (st_is (so_var 5) (so_se se_none)) (sss_one (ss_ret se_none)) sss_nil)
    (sss_cons (ss_set 1 sc__law_run.nd (se_ix (so_var 5) (so_se se_int)))
    (sss_one (ss_expr (se_app 3 (sv_se (se_ix (so_var 5) (so_se se_int))))))))))
  (sss_one (ss_ret (se_tup (svs_cons (sv_se (se_tupC x.b_tuple (sos_cons (so_var 3) sos_nil))) (svs_cons (sv_var 1) svs_nil)))))))
theorem c_is_tuple_of (x : Fx K mg base) : Cl P w K mg base (tbs K) 1 "is_tuple_of" ["thing", "least", "most"] fs_is_tuple_of :=
  cl_of x.d_is_tuple_of sc_is_tuple_of (by decide) (fun _ _ _ _ _ _ us hl => match us, hl with | [_, _, _], _ => rfl) (fun _ _ _ _ _ _ us hl => match us, hl with | [_, _, _], _ => rfl) fun cdv A outer s H E hr hc => by
  exact (sss_one (ss_ret (se_and (se_isi .tuple (by decide) (so_var 0) x.b_isinstance x.b_tuple PyProof.Rows.boot_tuple) (se_one (se_lele (so_var 1) (so_se (se_len x.b_len (sos_cons (so_var 0) sos_nil))) (so_var 2))))))
theorem c_is_integer (x : Fx K mg base) : Cl P w K mg base (tbs K) 1 "is_integer" ["thing"] fs_is_integer :=
  cl_of x.d_is_integer sc_is_integer (by decide) (fun _ _ _ _ _ _ us hl => match us, hl with | [_], _ => rfl) (fun _ _ _ _ _ _ us hl => match us, hl with | [_], _ => rfl) fun cdv A outer s H E hr hc => by
  exact (sss_one (ss_ret (se_and (se_isi .int (by decide) (so_var 0) x.b_isinstance x.b_int PyProof.Rows.boot_int) (se_one (se_not (se_isi .bool (by decide) (so_var 0) x.b_isinstance x.b_bool PyProof.Rows.boot_bool))))))
theorem c_is_within (x : Fx K mg base) : Cl P w K mg base (tbs K) 2 "is_within" ["thing", "low", "high"] fs_is_within :=
  cl_of x.d_is_within sc_is_within (by decide) (fun _ _ _ _ _ _ us hl => match us, hl with | [_, _, _], _ => rfl) (fun _ _ _ _ _ _ us hl => match us, hl with | [_, _, _], _ => rfl) fun cdv A outer s H E hr hc => by
  exact (sss_one (ss_ret (se_and (se_cl (c_is_integer x) hr (sos_cons (so_var 0) sos_nil)) (se_one (se_lele (so_var 1) (so_var 0) (so_var 2))))))
theorem c_is_entry_form (x : Fx K mg base) : Cl P w K mg base (tbs K) 3 "is_entry_form" ["thing", "answers", "many"] fs_is_entry_form :=
  cl_of x.d_is_entry_form sc_is_entry_form (by decide) (fun _ _ _ _ _ _ us hl => match us, hl with | [_, _, _], _ => rfl) (fun _ _ _ _ _ _ us hl => match us, hl with | [_, _, _], _ => rfl) fun cdv A outer s H E hr hc => by
  exact (sss_cons (ss_if (st_is (so_var 0) (so_se se_none)) (sss_one (ss_ret se_bool)) sss_nil)
  (sss_one (ss_ret (se_and (se_cl (c_is_tuple_of x) hr (sos_cons (so_var 0) (sos_cons (so_se se_int) (sos_cons (so_se se_int) sos_nil)))) (se_and (se_cl (c_is_within x) hr (sos_cons (so_se (se_ix (so_var 0) (so_se se_int))) (sos_cons (so_se se_int) (sos_cons (so_se (se_sub (so_var 2) (so_se se_int))) sos_nil)))) (se_one (se_cl (c_is_within x) hr (sos_cons (so_se (se_ix (so_var 0) (so_se se_int))) (sos_cons (so_se se_int) (sos_cons (so_se (se_sub (so_var 1) (so_se se_int))) sos_nil))))))))))
theorem c_are_rows (x : Fx K mg base) : Cl P w K mg base (tbs K) 5 "are_rows" ["thing", "letters", "answers"] fs_are_rows :=
  cl_of x.d_are_rows sc_are_rows (by decide) (fun _ _ _ _ _ _ us hl => match us, hl with | [_, _, _], _ => rfl) (fun _ _ _ _ _ _ us hl => match us, hl with | [_, _, _], _ => rfl) fun cdv A outer s H E hr hc => by
  subst hc; exact (sss_cons (ss_if (st_not (st_val (se_isi .tuple (by decide) (so_var 0) x.b_isinstance x.b_tuple PyProof.Rows.boot_tuple))) (sss_one (ss_ret se_bool)) sss_nil)
  (sss_cons (ss_for PassesOwn.never rfl (si_seq (sv_var 0)) (sg_name 3 sc_are_rows.nd) (sss_one (ss_if (SW.st (sw_or (st_not (st_val (se_cl (c_is_tuple_of x) hr (sos_cons (so_var 3) (sos_cons (so_var 1) (sos_cons (so_var 1) sos_nil)))))) (sw_or1 (st_not (st_val (se_all [("one", 4)] hr rfl sc_are_rows.nd x.p_are_rows x.t_are_rows rfl x.b_all boot_all (si_seq (sv_var 3)) (blkOk_by (by kernel_rfl)) ⟨rfl, by decide +kernel, rfl⟩ (fun _ _ _ _ _ => (sgb_name 4 sc_are_rows.nd)) (fun _ _ _ _ _ => sts_nil) (fun _ _ _ _ _ => (se_cl (c_is_entry_form x) hr.gen (sos_cons (so_var 4) (sos_cons (so_var 2) (sos_cons (so_se (se_len x.b_len (sos_cons (so_var 0) sos_nil))) sos_nil))))))))))) (sss_one (ss_ret se_bool)) sss_nil)))
  (sss_one (ss_ret se_bool))))
theorem c_is_sketch_form (x : Fx K mg base) : Cl P w K mg base (tbs K) 6 "is_sketch_form" ["thing"] fs_is_sketch_form :=
  cl_of x.d_is_sketch_form sc_is_sketch_form (by decide) (fun _ _ _ _ _ _ us hl => match us, hl with | [_], _ => rfl) (fun _ _ _ _ _ _ us hl => match us, hl with | [_], _ => rfl) fun cdv A outer s H E hr hc => by
  exact (sss_cons (ss_if (SW.st (sw_or (st_not (st_val (se_cl (c_is_tuple_of x) hr (sos_cons (so_var 0) (sos_cons (so_se se_int) (sos_cons (so_se se_int) sos_nil)))))) (sw_or1 (st_not (st_val (se_cl (c_is_within x) hr (sos_cons (so_se (se_ix (so_var 0) (so_se se_int))) (sos_cons (so_se se_int) (sos_cons (so_se (se_gI x.i_MOST_LETTERS)) sos_nil))))))))) (sss_one (ss_ret se_bool)) sss_nil)
  (sss_cons (ss_if (SW.st (sw_or (st_not (st_val (se_cl (c_is_within x) hr (sos_cons (so_se (se_ix (so_var 0) (so_se se_int))) (sos_cons (so_se (se_gI x.i_LEAST_ANSWERS)) (sos_cons (so_se (se_gI x.i_MOST_ANSWERS)) sos_nil)))))) (sw_or1 (st_not (st_val (se_cl (c_is_tuple_of x) hr (sos_cons (so_se (se_ix (so_var 0) (so_se se_int))) (sos_cons (so_se se_int) (sos_cons (so_se (se_gI x.i_MOST_ROWS)) sos_nil))))))))) (sss_one (ss_ret se_bool)) sss_nil)
  (sss_cons (ss_asg (se_sv (sv_var 0)) (sg_tup rfl (sgs_cons (sg_name 1 sc_is_sketch_form.nd) (sgs_cons (sg_name 2 sc_is_sketch_form.nd) (sgs_cons (sg_name 3 sc_is_sketch_form.nd) sgs_nil)))))
  (sss_one (ss_ret (se_and (se_cl (c_are_rows x) hr (sos_cons (so_var 3) (sos_cons (so_var 1) (sos_cons (so_var 2) sos_nil)))) (se_one (se_or (se_le (so_se (se_len x.b_len (sos_cons (so_var 3) sos_nil))) (so_se (se_gI x.i_MOST_STATES))) (se_one se_never)))))))))
theorem c_need_sketch (x : Fx K mg base) : Cl P w K mg base (tbs K) 7 "need_sketch" ["thing"] fs_need_sketch :=
  cl_of x.d_need_sketch sc_need_sketch (by decide) (fun _ _ _ _ _ _ us hl => match us, hl with | [_], _ => rfl) (fun _ _ _ _ _ _ us hl => match us, hl with | [_], _ => rfl) fun cdv A outer s H E hr hc => by
  exact (sss_one (ss_if (st_not (st_val (se_cl (c_is_sketch_form x) hr (sos_cons (so_var 0) sos_nil)))) (sss_one ss_never) sss_nil))
theorem c_is_word_form (x : Fx K mg base) : Cl P w K mg base (tbs K) 4 "is_word_form" ["letters", "thing"] fs_is_word_form :=
  cl_of x.d_is_word_form sc_is_word_form (by decide) (fun _ _ _ _ _ _ us hl => match us, hl with | [_, _], _ => rfl) (fun _ _ _ _ _ _ us hl => match us, hl with | [_, _], _ => rfl) fun cdv A outer s H E hr hc => by
  subst hc; exact (sss_one (ss_ret (se_and (se_cl (c_is_tuple_of x) hr (sos_cons (so_var 1) (sos_cons (so_se se_int) (sos_cons (so_se (se_gI x.i_MOST_WORD)) sos_nil)))) (se_one (se_all [("one", 2)] hr rfl sc_is_word_form.nd x.p_is_word_form x.t_is_word_form rfl x.b_all boot_all (si_seq (sv_var 1)) (blkOk_by (by kernel_rfl)) ⟨rfl, by decide +kernel, rfl⟩ (fun _ _ _ _ _ => (sgb_name 2 sc_is_word_form.nd)) (fun _ _ _ _ _ => sts_nil) (fun _ _ _ _ _ => (se_cl (c_is_within x) hr.gen (sos_cons (so_var 2) (sos_cons (so_se se_int) (sos_cons (so_se (se_sub (so_var 0) (so_se se_int))) sos_nil))))))))))
theorem c_need_word (x : Fx K mg base) : Cl P w K mg base (tbs K) 5 "need_word" ["letters", "thing"] fs_need_word :=
  cl_of x.d_need_word sc_need_word (by decide) (fun _ _ _ _ _ _ us hl => match us, hl with | [_, _], _ => rfl) (fun _ _ _ _ _ _ us hl => match us, hl with | [_, _], _ => rfl) fun cdv A outer s H E hr hc => by
  exact (sss_one (ss_if (st_not (st_val (se_cl (c_is_word_form x) hr (sos_cons (so_var 0) (sos_cons (so_var 1) sos_nil))))) (sss_one ss_never) sss_nil))
theorem c_run_from (x : Fx K mg base) : Cl P w K mg base (tbs K) 1 "run_from" ["sketch", "state", "word"] fs_run_from :=
  cl_of x.d_run_from sc_run_from (by decide) (fun _ _ _ _ _ _ us hl => match us, hl with | [_, _, _], _ => rfl) (fun _ _ _ _ _ _ us hl => match us, hl with | [_, _, _], _ => rfl) fun cdv A outer s H E hr hc => by
  exact (sss_cons (ss_par 3 4 rfl sc_run_from.nd (sos_cons (so_se (se_lst svs_nilK)) (sos_cons (so_se (se_ix (so_var 0) (so_se se_int))) sos_nil)))
  (sss_cons (ss_for PassesOwn.never rfl (si_seq (sv_var 2)) (sg_name 5 sc_run_from.nd) (sss_cons (ss_set 6 sc_run_from.nd (se_ix (so_se (se_ix (so_var 4) (so_var 1))) (so_var 5)))
    (sss_cons (ss_if (st_is (so_var 6) (so_se se_none)) (sss_one (ss_ret se_none)) sss_nil)
    (sss_cons (ss_set 1 sc_run_from.nd (se_ix (so_var 6) (so_se se_int)))
    (sss_one (ss_expr (se_app 3 (sv_se (se_ix (so_var 6) (so_se se_int))))))))))
  (sss_one (ss_ret (se_tup (svs_cons (sv_se (se_tupC x.b_tuple (sos_cons (so_var 3) sos_nil))) (svs_cons (sv_var 1) svs_nil)))))))
theorem c_answers_from (x : Fx K mg base) : Cl P w K mg base (tbs K) 2 "answers_from" ["sketch", "state", "word"] fs_answers_from :=
  cl_of x.d_answers_from sc_answers_from (by decide) (fun _ _ _ _ _ _ us hl => match us, hl with | [_, _, _], _ => rfl) (fun _ _ _ _ _ _ us hl => match us, hl with | [_, _, _], _ => rfl) fun cdv A outer s H E hr hc => by
  exact (sss_cons (ss_set 3 sc_answers_from.nd (se_cl (c_run_from x) hr (sos_cons (so_var 0) (sos_cons (so_var 1) (sos_cons (so_var 2) sos_nil)))))
  (sss_one (ss_ret (se_if (st_is (so_var 3) (so_se se_none)) se_none (se_ix (so_var 3) (so_se se_int))))))
theorem c_told (x : Fx K mg base) : Cl P w K mg base (tbs K) 8 "told" ["sketch", "word"] fs_told :=
  cl_of x.d_told sc_told (by decide) (fun _ _ _ _ _ _ us hl => match us, hl with | [_, _], _ => rfl) (fun _ _ _ _ _ _ us hl => match us, hl with | [_, _], _ => rfl) fun cdv A outer s H E hr hc => by
  exact (sss_cons (ss_expr (se_cl (c_need_sketch x) hr (sos_cons (so_var 0) sos_nil)))
  (sss_cons (ss_expr (se_cl (c_need_word x) hr (sos_cons (so_se (se_ix (so_var 0) (so_se se_int))) (sos_cons (so_var 1) sos_nil))))
  (sss_one (ss_ret (se_cl (c_answers_from x) hr (sos_cons (so_var 0) (sos_cons (so_se se_int) (sos_cons (so_var 1) sos_nil))))))))
theorem c_state_from (x : Fx K mg base) : Cl P w K mg base (tbs K) 2 "state_from" ["sketch", "state", "word"] fs_state_from :=
  cl_of x.d_state_from sc_state_from (by decide) (fun _ _ _ _ _ _ us hl => match us, hl with | [_, _, _], _ => rfl) (fun _ _ _ _ _ _ us hl => match us, hl with | [_, _, _], _ => rfl) fun cdv A outer s H E hr hc => by
  exact (sss_cons (ss_set 3 sc_state_from.nd (se_cl (c_run_from x) hr (sos_cons (so_var 0) (sos_cons (so_var 1) (sos_cons (so_var 2) sos_nil)))))
  (sss_one (ss_ret (se_if (st_is (so_var 3) (so_se se_none)) se_none (se_ix (so_var 3) (so_se se_int))))))
theorem c_behind (x : Fx K mg base) : Cl P w K mg base (tbs K) 8 "behind" ["sketch", "word"] fs_behind :=
  cl_of x.d_behind sc_behind (by decide) (fun _ _ _ _ _ _ us hl => match us, hl with | [_, _], _ => rfl) (fun _ _ _ _ _ _ us hl => match us, hl with | [_, _], _ => rfl) fun cdv A outer s H E hr hc => by
  exact (sss_cons (ss_expr (se_cl (c_need_sketch x) hr (sos_cons (so_var 0) sos_nil)))
  (sss_cons (ss_expr (se_cl (c_need_word x) hr (sos_cons (so_se (se_ix (so_var 0) (so_se se_int))) (sos_cons (so_var 1) sos_nil))))
  (sss_one (ss_ret (se_cl (c_state_from x) hr (sos_cons (so_var 0) (sos_cons (so_se se_int) (sos_cons (so_var 1) sos_nil))))))))
theorem c__law_right (x : Fx K mg base) : Cl P w K mg base (tbs K) 9 "_law_right" ["sketch", "word"] fs__law_right :=
  cl_of x.d__law_right sc__law_right (by decide) (fun _ _ _ _ _ _ us hl => match us, hl with | [_, _], _ => rfl) (fun _ _ _ _ _ _ us hl => match us, hl with | [_, _], _ => rfl) fun cdv A outer s H E hr hc => by
  exact (sss_cons (ss_set 2 sc__law_right.nd (se_cl (c__law_run x) hr (sos_cons (so_var 0) (sos_cons (so_se se_int) (sos_cons (so_var 1) sos_nil)))))
  (sss_cons (ss_set 3 sc__law_right.nd (se_if (st_is (so_var 2) (so_se se_none)) (se_tupK (svs_consK se_none (svs_consK se_none svs_nilK))) (se_sv (sv_var 2))))
  (sss_cons (ss_if (st_ne hr (so_se (se_repr hr x.b_repr (sos_cons (so_se (se_tup (svs_cons (sv_se (se_cl (c_told x) hr (sos_cons (so_var 0) (sos_cons (so_var 1) sos_nil)))) (svs_cons (sv_se (se_cl (c_behind x) hr (sos_cons (so_var 0) (sos_cons (so_var 1) sos_nil)))) svs_nil)))) sos_nil))) (so_se (se_repr hr x.b_repr (sos_cons (so_var 3) sos_nil)))) (sss_one (ss_ret se_bool)) sss_nil)
  (sss_one (ss_ret (se_eq hr (so_se (se_repr hr x.b_repr (sos_cons (so_se (se_tup (svs_cons (sv_se (se_clK (c_told x) hr (sok_cons (so_var 0) (sok_cons (so_var 1) sok_nil)))) (svs_cons (sv_se (se_clK (c_behind x) hr (sok_cons (so_var 0) (sok_cons (so_var 1) sok_nil)))) svs_nil)))) sos_nil))) (so_se (se_repr hr x.b_repr (sos_cons (so_var 3) sos_nil)))))))))
theorem f_law (x : Fx K mg base) {fd : FuncData} (F : L2.Fun K "law" "law" s_law (He.fAd K ("law", none)) fd) : FnG P w K mg base CX0 (tbs K) 10 (He.fAd K ("law", none)) fd ["script"] fs_law :=
  fn_by F sc_law (by decide) fun cdv A outer s H E hcd hr he => by
  exact (sss_cons (ss_for PassesOwn.never rfl (si_enum (by rfl) x.b_enumerate (svs_cons (sv_se (se_cl (c__law_numbers x) hr (sos_cons (so_var 0) (sos_cons (so_se se_int) sos_nil)))) svs_nil)) (sg_tup rfl (sgs_cons (sg_name 1 sc_law.nd) (sgs_cons (sg_name 2 sc_law.nd) sgs_nil))) (sss_cons (ss_set 3 sc_law.nd (se_cl (c__law_urn x) hr (sos_cons (so_var 2) (sos_cons (so_var 1) sos_nil))))
    (sss_cons (ss_set 4 sc_law.nd (se_cl (c__law_machine x) hr (sos_cons (so_var 3) (sos_cons (so_se se_int) sos_nil))))
    (sss_cons (ss_set 5 sc_law.nd (se_if (st_eq hr (so_se (se_cl (c__law_roll x) hr (sos_cons (so_var 3) (sos_cons (so_se se_int) sos_nil)))) (so_se se_int)) (se_sv (sv_var 4)) (se_cl (c__law_gaps x) hr (sos_cons (so_var 3) (sos_cons (so_var 4) (sos_cons (so_se (se_add (so_se se_int) (so_se (se_cl (c__law_roll x) hr (sos_cons (so_var 3) (sos_cons (so_se se_int) sos_nil)))))) sos_nil))))))
    (sss_cons (ss_set 6 sc_law.nd (se_add (so_se (se_lst (svs_consK (se_tupK svs_nilK) svs_nilK))) (so_se (se_lc [("turn", 8)] rfl sc_law.nd (si_rng1 (by rfl) x.b_range (svs_consK se_int svs_nilK)) (blkOk_by (by kernel_rfl)) (fun _ _ _ _ _ => (sgb_name 8 sc_law.nd)) (fun _ _ _ _ _ => sts_nil) (fun _ _ _ _ _ => (sv_se (se_cl (c__law_word x) hr (sos_cons (so_var 3) (sos_cons (so_se (se_ix (so_var 5) (so_se se_int))) (sos_cons (so_se se_int) sos_nil))))))))))
    (sss_cons (ss_set 7 sc_law.nd (se_add (so_se (se_tup (svs_cons (sv_se (se_cl (c__law_roll x) hr (sos_cons (so_var 3) (sos_cons (so_se (se_ix (so_var 5) (so_se se_int))) sos_nil)))) svs_nil))) (so_se (se_cl (c__law_word x) hr (sos_cons (so_var 3) (sos_cons (so_se (se_ix (so_var 5) (so_se se_int))) (sos_cons (so_se se_int) sos_nil)))))))
    (sss_cons (ss_expr (se_app 6 (sv_se (se_slice (so_se (se_mul (so_var 7) (so_se se_int))) sp_none (sp_some (se_cl (c__law_one x) hr (sos_cons (so_var 3) (sos_cons (so_se (se_lst (svs_cons (sv_K se_int) (svs_cons (sv_K se_int) (svs_cons (sv_se (se_cl (c__law_roll x) hr (sos_cons (so_var 3) (sos_cons (so_se se_int) sos_nil)))) svs_nil))))) sos_nil))))))))
    (sss_one (ss_if (st_ne hr (so_se (se_lc [("word", 9)] rfl sc_law.nd (si_seq (sv_var 6)) (blkOk_by (by kernel_rfl)) (fun _ _ _ _ _ => (sgb_name 9 sc_law.nd)) (fun _ _ _ _ _ => (sts_one (st_not (st_val (se_cl (c__law_right x) hr (sos_cons (so_var 5) (sos_cons (so_var 9) sos_nil))))))) (fun _ _ _ _ _ => (sv_K se_int)))) (so_se (se_lst svs_nilK))) (sss_one (ss_ret se_bool)) sss_nil)))))))))
  (sss_one (ss_ret se_bool)))
end
end DV

set_option Elab.async false
set_option linter.all false
set_option maxRecDepth 100000
set_option maxHeartbeats 0
namespace DV
open PySem PySem.Spec PyProof.Rows L2
/-! ### the head -/
def fn : List He.DefD := [⟨("_law_numbers", none), "_law_numbers", "_law_numbers", defArgs s__law_numbers, defBody s__law_numbers, defScope s__law_numbers, [], []⟩, ⟨("_law_urn", none), "_law_urn", "_law_urn", defArgs s__law_urn, defBody s__law_urn, defScope s__law_urn, [], []⟩, ⟨("_law_roll", none), "_law_roll", "_law_roll", defArgs s__law_roll, defBody s__law_roll, defScope s__law_roll, [], []⟩, ⟨("_law_any_rows", none), "_law_any_rows", "_law_any_rows", defArgs s__law_any_rows, defBody s__law_any_rows, defScope s__law_any_rows, [], []⟩, ⟨("_law_one", none), "_law_one", "_law_one", defArgs s__law_one, defBody s__law_one, defScope s__law_one, [], []⟩, ⟨("_law_ring_rows", none), "_law_ring_rows", "_law_ring_rows", defArgs s__law_ring_rows, defBody s__law_ring_rows, defScope s__law_ring_rows, [], []⟩, ⟨("_law_blown_rows", none), "_law_blown_rows", "_law_blown_rows", defArgs s__law_blown_rows, defBody s__law_blown_rows, defScope s__law_blown_rows, [], []⟩, ⟨("_law_rows", none), "_law_rows", "_law_rows", defArgs s__law_rows, defBody s__law_rows, defScope s__law_rows, [], []⟩, ⟨("_law_machine_of", none), "_law_machine_of", "_law_machine_of", defArgs s__law_machine_of, defBody s__law_machine_of, defScope s__law_machine_of, [], []⟩, ⟨("_law_small", none), "_law_small", "_law_small", defArgs s__law_small, defBody s__law_small, defScope s__law_small, [], []⟩, ⟨("_law_machine", none), "_law_machine", "_law_machine", defArgs s__law_machine, defBody s__law_machine, defScope s__law_machine, [], []⟩, ⟨("_law_gaps", none), "_law_gaps", "_law_gaps", defArgs s__law_gaps, defBody s__law_gaps, defScope s__law_gaps, [], []⟩, ⟨("_law_word", none), "_law_word", "_law_word", defArgs s__law_word, defBody s__law_word, defScope s__law_word, [], []⟩, ⟨("_law_run", none), "_law_run", "_law_run", defArgs s__law_run, defBody s__law_run, defScope s__law_run, [], []⟩, ⟨("is_tuple_of", none), "is_tuple_of", "is_tuple_of", defArgs s_is_tuple_of, defBody s_is_tuple_of, defScope s_is_tuple_of, [], []⟩, ⟨("is_integer", none), "is_integer", "is_integer", defArgs s_is_integer, defBody s_is_integer, defScope s_is_integer, [], []⟩, ⟨("is_within", none), "is_within", "is_within", defArgs s_is_within, defBody s_is_within, defScope s_is_within, [], []⟩, ⟨("is_entry_form", none), "is_entry_form", "is_entry_form", defArgs s_is_entry_form, defBody s_is_entry_form, defScope s_is_entry_form, [], []⟩, ⟨("are_rows", none), "are_rows", "are_rows", defArgs s_are_rows, defBody s_are_rows, defScope s_are_rows, [], []⟩, ⟨("is_sketch_form", none), "is_sketch_form", "is_sketch_form", defArgs s_is_sketch_form, defBody s_is_sketch_form, defScope s_is_sketch_form, [], []⟩, ⟨("need_sketch", none), "need_sketch", "need_sketch", defArgs s_need_sketch, defBody s_need_sketch, defScope s_need_sketch, [], []⟩, ⟨("is_word_form", none), "is_word_form", "is_word_form", defArgs s_is_word_form, defBody s_is_word_form, defScope s_is_word_form, [], []⟩, ⟨("need_word", none), "need_word", "need_word", defArgs s_need_word, defBody s_need_word, defScope s_need_word, [], []⟩, ⟨("run_from", none), "run_from", "run_from", defArgs s_run_from, defBody s_run_from, defScope s_run_from, [], []⟩, ⟨("answers_from", none), "answers_from", "answers_from", defArgs s_answers_from, defBody s_answers_from, defScope s_answers_from, [], []⟩, ⟨("told", none), "told", "told", defArgs s_told, defBody s_told, defScope s_told, [], []⟩, ⟨("state_from", none), "state_from", "state_from", defArgs s_state_from, defBody s_state_from, defScope s_state_from, [], []⟩, ⟨("behind", none), "behind", "behind", defArgs s_behind, defBody s_behind, defScope s_behind, [], []⟩, ⟨("_law_right", none), "_law_right", "_law_right", defArgs s__law_right, defBody s__law_right, defScope s__law_right, [], []⟩, ⟨("law", none), "law", "law", defArgs s_law, defBody s_law, defScope s_law, [], []⟩]
def fa : List He.Fa := [.glo "_law_numbers", .glo "_law_urn", .glo "_law_roll", .glo "_law_any_rows", .glo "_law_one", .glo "_law_ring_rows", .glo "_law_blown_rows", .glo "_law_rows", .glo "_law_machine_of", .glo "_law_small", .glo "_law_machine", .glo "_law_gaps", .glo "_law_word", .glo "_law_run", .glo "is_tuple_of", .glo "is_integer", .glo "is_within", .glo "is_entry_form", .glo "are_rows", .glo "is_sketch_form", .glo "need_sketch", .glo "is_word_form", .glo "need_word", .glo "run_from", .glo "answers_from", .glo "told", .glo "state_from", .glo "behind", .glo "_law_right", .glo "law", .free "all", .free "bool", .free "enumerate", .free "int", .free "isinstance", .free "len", .free "range", .free "repr", .free "tuple", .int "LEAST_ANSWERS" 2, .int "MOST_ANSWERS" 9, .int "MOST_LETTERS" 3, .int "MOST_ROWS" 600, .int "MOST_STATES" 12, .int "MOST_WORD" 600]
abbrev R : PySem.W.OpenRow := PySem.W.OpenLaw.row PySem.Challenge.rw_answertests_k00_answers_of_words
abbrev hk : PySem.W.Hook := He.hookX 6 fa fn [] tf (fun _ => true)
def ob (s : PySem.W.SharedT) : He.AlX := He.obsX 6 fa fn [] tf (fun _ => true) (HandSHeadRun.getT s)
theorem ob_eq (s : PySem.W.SharedT) : ob s = hk.obs s.abs := He.obsX_eq (HandSHeadRun.getT_eq s)
def loose : List PySem.Str := (["TestsError", "BadWord", "BadSketch", "is_integer", "is_within", "is_tuple_of", "MOST_LETTERS", "LEAST_ANSWERS", "MOST_ANSWERS", "MOST_STATES", "MOST_ROWS", "MOST_WORD", "is_entry_form", "are_rows", "is_tree", "is_sketch_form", "need_sketch", "is_word_form", "need_word", "run_from", "answers_from", "state_from", "told", "behind", "_law_urn", "_law_roll", "_law_one", "_law_numbers", "_law_small", "_law_any_rows"] : List PySem.Str) ++ (["_law_ring_rows", "_law_blown_rows", "_law_rows", "_law_machine_of", "_law_machine", "_law_gaps", "_law_word", "_law_run", "_law_right"] : List PySem.Str)
theorem run (w : World) : HandSHeadRun.RunEq R (PySem.W.view R.prog [44]) hk ob 6000 loose w := by
  intro os
  kernel_rfl
theorem facts {K : Frag} {h : Heap} {mg : Str → Option Value} {base : Heap} {w : World} (X : K.In h) (G : h.Ns mainGlobals mg) (c : He.SaysX fa fn [] tf (fun _ => true) w h K) (TB : ∀ p ∈ tf.map (He.cT K), GxR.TabB base mg p.1 p.2) : Fx K mg base := by
  have cd : He.SaysD fa fn K := congrArg (fun z : He.AlT => z.1) c.t
  exact {
    b_all := He.free_ok X G (cd.fact 30 (f := .free "all") rfl)
    b_bool := He.free_ok X G (cd.fact 31 (f := .free "bool") rfl)
    b_enumerate := He.free_ok X G (cd.fact 32 (f := .free "enumerate") rfl)
    b_int := He.free_ok X G (cd.fact 33 (f := .free "int") rfl)
    b_isinstance := He.free_ok X G (cd.fact 34 (f := .free "isinstance") rfl)
    b_len := He.free_ok X G (cd.fact 35 (f := .free "len") rfl)
    b_range := He.free_ok X G (cd.fact 36 (f := .free "range") rfl)
    b_repr := He.free_ok X G (cd.fact 37 (f := .free "repr") rfl)
    b_tuple := He.free_ok X G (cd.fact 38 (f := .free "tuple") rfl)
    i_LEAST_ANSWERS := He.int_ok X G (cd.fact 39 (f := .int "LEAST_ANSWERS" 2) rfl)
    i_MOST_ANSWERS := He.int_ok X G (cd.fact 40 (f := .int "MOST_ANSWERS" 9) rfl)
    i_MOST_LETTERS := He.int_ok X G (cd.fact 41 (f := .int "MOST_LETTERS" 3) rfl)
    i_MOST_ROWS := He.int_ok X G (cd.fact 42 (f := .int "MOST_ROWS" 600) rfl)
    i_MOST_STATES := He.int_ok X G (cd.fact 43 (f := .int "MOST_STATES" 12) rfl)
    i_MOST_WORD := He.int_ok X G (cd.fact 44 (f := .int "MOST_WORD" 600) rfl)
    d__law_numbers := let ⟨fd, F⟩ := cd.def_ 0 rfl; ⟨fd, fun_of F, He.glo_ok X G (cd.fact 0 (f := .glo "_law_numbers") rfl)⟩
    d__law_urn := let ⟨fd, F⟩ := cd.def_ 1 rfl; ⟨fd, fun_of F, He.glo_ok X G (cd.fact 1 (f := .glo "_law_urn") rfl)⟩
    d__law_roll := let ⟨fd, F⟩ := cd.def_ 2 rfl; ⟨fd, fun_of F, He.glo_ok X G (cd.fact 2 (f := .glo "_law_roll") rfl)⟩
    d__law_any_rows := let ⟨fd, F⟩ := cd.def_ 3 rfl; ⟨fd, fun_of F, He.glo_ok X G (cd.fact 3 (f := .glo "_law_any_rows") rfl)⟩
    d__law_one := let ⟨fd, F⟩ := cd.def_ 4 rfl; ⟨fd, fun_of F, He.glo_ok X G (cd.fact 4 (f := .glo "_law_one") rfl)⟩
    d__law_ring_rows := let ⟨fd, F⟩ := cd.def_ 5 rfl; ⟨fd, fun_of F, He.glo_ok X G (cd.fact 5 (f := .glo "_law_ring_rows") rfl)⟩
    d__law_blown_rows := let ⟨fd, F⟩ := cd.def_ 6 rfl; ⟨fd, fun_of F, He.glo_ok X G (cd.fact 6 (f := .glo "_law_blown_rows") rfl)⟩
    d__law_rows := let ⟨fd, F⟩ := cd.def_ 7 rfl; ⟨fd, fun_of F, He.glo_ok X G (cd.fact 7 (f := .glo "_law_rows") rfl)⟩
    d__law_machine_of := let ⟨fd, F⟩ := cd.def_ 8 rfl; ⟨fd, fun_of F, He.glo_ok X G (cd.fact 8 (f := .glo "_law_machine_of") rfl)⟩
    d__law_small := let ⟨fd, F⟩ := cd.def_ 9 rfl; ⟨fd, fun_of F, He.glo_ok X G (cd.fact 9 (f := .glo "_law_small") rfl)⟩
    d__law_machine := let ⟨fd, F⟩ := cd.def_ 10 rfl; ⟨fd, fun_of F, He.glo_ok X G (cd.fact 10 (f := .glo "_law_machine") rfl)⟩
    d__law_gaps := let ⟨fd, F⟩ := cd.def_ 11 rfl; ⟨fd, fun_of F, He.glo_ok X G (cd.fact 11 (f := .glo "_law_gaps") rfl)⟩
    d__law_word := let ⟨fd, F⟩ := cd.def_ 12 rfl; ⟨fd, fun_of F, He.glo_ok X G (cd.fact 12 (f := .glo "_law_word") rfl)⟩
    d__law_run := let ⟨fd, F⟩ := cd.def_ 13 rfl; ⟨fd, fun_of F, He.glo_ok X G (cd.fact 13 (f := .glo "_law_run") rfl)⟩
    d_is_tuple_of := let ⟨fd, F⟩ := cd.def_ 14 rfl; ⟨fd, fun_of F, He.glo_ok X G (cd.fact 14 (f := .glo "is_tuple_of") rfl)⟩
    d_is_integer := let ⟨fd, F⟩ := cd.def_ 15 rfl; ⟨fd, fun_of F, He.glo_ok X G (cd.fact 15 (f := .glo "is_integer") rfl)⟩
    d_is_within := let ⟨fd, F⟩ := cd.def_ 16 rfl; ⟨fd, fun_of F, He.glo_ok X G (cd.fact 16 (f := .glo "is_within") rfl)⟩
    d_is_entry_form := let ⟨fd, F⟩ := cd.def_ 17 rfl; ⟨fd, fun_of F, He.glo_ok X G (cd.fact 17 (f := .glo "is_entry_form") rfl)⟩
    d_are_rows := let ⟨fd, F⟩ := cd.def_ 18 rfl; ⟨fd, fun_of F, He.glo_ok X G (cd.fact 18 (f := .glo "are_rows") rfl)⟩
    d_is_sketch_form := let ⟨fd, F⟩ := cd.def_ 19 rfl; ⟨fd, fun_of F, He.glo_ok X G (cd.fact 19 (f := .glo "is_sketch_form") rfl)⟩
    d_need_sketch := let ⟨fd, F⟩ := cd.def_ 20 rfl; ⟨fd, fun_of F, He.glo_ok X G (cd.fact 20 (f := .glo "need_sketch") rfl)⟩
    d_is_word_form := let ⟨fd, F⟩ := cd.def_ 21 rfl; ⟨fd, fun_of F, He.glo_ok X G (cd.fact 21 (f := .glo "is_word_form") rfl)⟩
    d_need_word := let ⟨fd, F⟩ := cd.def_ 22 rfl; ⟨fd, fun_of F, He.glo_ok X G (cd.fact 22 (f := .glo "need_word") rfl)⟩
    d_run_from := let ⟨fd, F⟩ := cd.def_ 23 rfl; ⟨fd, fun_of F, He.glo_ok X G (cd.fact 23 (f := .glo "run_from") rfl)⟩
    d_answers_from := let ⟨fd, F⟩ := cd.def_ 24 rfl; ⟨fd, fun_of F, He.glo_ok X G (cd.fact 24 (f := .glo "answers_from") rfl)⟩
    d_told := let ⟨fd, F⟩ := cd.def_ 25 rfl; ⟨fd, fun_of F, He.glo_ok X G (cd.fact 25 (f := .glo "told") rfl)⟩
    d_state_from := let ⟨fd, F⟩ := cd.def_ 26 rfl; ⟨fd, fun_of F, He.glo_ok X G (cd.fact 26 (f := .glo "state_from") rfl)⟩
    d_behind := let ⟨fd, F⟩ := cd.def_ 27 rfl; ⟨fd, fun_of F, He.glo_ok X G (cd.fact 27 (f := .glo "behind") rfl)⟩
    d__law_right := let ⟨fd, F⟩ := cd.def_ 28 rfl; ⟨fd, fun_of F, He.glo_ok X G (cd.fact 28 (f := .glo "_law_right") rfl)⟩
    d_law := let ⟨fd, F⟩ := cd.def_ 29 rfl; ⟨fd, fun_of F, He.glo_ok X G (cd.fact 29 (f := .glo "law") rfl)⟩
    p_are_rows := List.mem_map.mpr ⟨_, List.mem_map.mpr ⟨("are_rows", none), .head _, rfl⟩, rfl⟩
    t_are_rows := TB _ (List.mem_map.mpr ⟨("are_rows", none), .head _, rfl⟩)
    p_is_word_form := List.mem_map.mpr ⟨_, List.mem_map.mpr ⟨("is_word_form", none), .tail _ (.head _), rfl⟩, rfl⟩
    t_is_word_form := TB _ (List.mem_map.mpr ⟨("is_word_form", none), .tail _ (.head _), rfl⟩) }
end DV


set_option Elab.async false
set_option linter.all false
set_option maxRecDepth 100000
set_option maxHeartbeats 4000000
namespace DV
open PySem PySem.Spec PyProof.Rows L2
/-- three ints of a draw's own; the same as a def's first argument -/
abbrev uS (a b c : Int) : Slot := .own none (.lst [.int a, .int b, .int c])
abbrev uE (a b c : Int) : Option Slot := some (.own (some 0) (.lst [.int a, .int b, .int c]))
theorem sz1 : (1 : Nat) ≤ sizeLine := by decide
theorem sz2 : (2 : Nat) ≤ sizeLine := by decide
theorem sz3 : (3 : Nat) ≤ sizeLine := by decide
theorem szlt {n : Nat} (h : n < 100000) : n < sizeLine := Nat.lt_of_lt_of_le h (by decide)
theorem sp_roll (a b c m : Int) (Q : Slot → List Slot → Prop) (X : Value → Prop) (hb : b.natAbs < 2 ^ 128) (hc : 0 ≤ c) (hc2 : c < 2 ^ 40) (hm : 0 < m) (hm2 : m < 2 ^ 60)
    (h : ∀ r a' c', 0 ≤ r → r < m → c ≤ c' → c' ≤ c + 1 → Q (.val (.int r)) [uS a' b c', .val (.int m)]) : fs__law_roll [uS a b c, .val (.int m)] Q X := by
  refine ⟨rfl, ?_⟩
  unfold w__law_roll
  simp only [dSeq, dIfS, dTst, dOp2, dVarO, dRes, dK, dOf, dVar, dFz, dAsg, gNm, dRet, dRetN, dExp, dCB, dOCons, dONil, dVCons, dVNil, dLst, dTup, dMove, dNext, dNot, dAnd, dOr, dIf, dAndV, dOrV, dNotV, dIsi, dNeg, dSl, dNoP, dPrt, dApp, dPop, dSetIx, dChain, dPar, dPar3, gTp, gCons', gNil', dCall, dFor, dSq, dRng1, dRng2, dEnm, dZip, dLc, dAll, dYes, dVK, dVKs, dNever, dNevE, dBreak, dCont, con, sl, frzS, isB, tuO, daO, sqO, lsO, lenO, ngO, consO, argO, varsO, wrB, untag, owL, tyS, tyD, isT, entryE, tagA, finE, backA, wipeE, backE, keepS, seqD, gAdd, gSub, gI, gMul, gMod, gIc, gDiv, gPow, gEq, isNone, gIs, gLt, gLe, gGt, gGe, gIx, gLen, gIntC, gTupC, gLstC, gRepr, gSl, gII, need_some, atI_0, atI_1, atI_2, atI_3, ixN_30, ixN_31, ixN_32, List.getElem?_cons_zero, List.getElem?_cons_succ, List.getElem?_nil, List.set_cons_zero, List.set_cons_succ, List.length_cons, List.length_nil, Option.join_some, Option.join_none, List.replicate_succ, List.replicate_zero, List.cons_append, List.nil_append, Option.map_some, Nat.zero_add, Nat.reduceAdd, Nat.reduceSub, Bool.not_true, Bool.not_false, if_true, if_false, Bool.false_eq_true, true_and, and_true, decide_true, decide_false, Nat.reduceLeDiff, Nat.reduceEqDiff, reduceIte, reduceCtorEq, Bool.or_false, Bool.or_true, Bool.and_true, Bool.and_false, Bool.true_and, Bool.false_and, Bool.true_or, Bool.false_or, List.map_cons, List.map_nil, List.nodup_cons, List.nodup_nil, List.mem_cons, List.not_mem_nil, not_false_eq_true, or_false, false_or]
  by_cases ha : 0 < a
  · simp only [ha, decide_true, if_true]
    exact ⟨hm, div_ok hm (by omega), h _ _ _ (mod_lt hm).1 (mod_lt hm).2 (by omega) (by omega)⟩
  · simp only [ha, decide_false, if_false, Bool.false_eq_true]
    have s1 : (b + 67867967 * (c + 1)).natAbs < 2 ^ 130 := by omega
    have s2 : ∀ z : Int, (z % (10 ^ Int.toNat 43 + 63)).natAbs < 2 ^ 150 := fun z => by
      have := mod_lt (a := z) (m := 10 ^ Int.toNat 43 + 63) (by decide)
      have e : (10 ^ Int.toNat 43 + 63 : Int) < 2 ^ 150 := by decide
      omega
    refine ⟨mul_l, mul_ok s1 s1, mul_ok (nb_mul s1 s1) s1, mul_l, mul_r (by omega) (by omega), pow_ok, by decide, mul_ok (s2 _) (s2 _), mul_l, pow_ok, by decide, pow_ok, div_ok (by decide) (by decide), hm, ?_⟩
    exact h _ _ _ (mod_lt hm).1 (mod_lt hm).2 (by omega) (by omega)
theorem sp_urn (cell k : Int) (Q : Slot → List Slot → Prop) (X : Value → Prop) (hk : 0 ≤ k) (hk2 : k < 1000) (h : ∀ a b, b.natAbs < 2 ^ 128 → Q (uS a b 0) [.val (.int cell), .val (.int k)]) : fs__law_urn [.val (.int cell), .val (.int k)] Q X := by
  refine ⟨rfl, ?_⟩
  unfold w__law_urn
  simp only [dSeq, dIfS, dTst, dOp2, dVarO, dRes, dK, dOf, dVar, dFz, dAsg, gNm, dRet, dRetN, dExp, dCB, dOCons, dONil, dVCons, dVNil, dLst, dTup, dMove, dNext, dNot, dAnd, dOr, dIf, dAndV, dOrV, dNotV, dIsi, dNeg, dSl, dNoP, dPrt, dApp, dPop, dSetIx, dChain, dPar, dPar3, gTp, gCons', gNil', dCall, dFor, dSq, dRng1, dRng2, dEnm, dZip, dLc, dAll, dYes, dVK, dVKs, dNever, dNevE, dBreak, dCont, con, sl, frzS, isB, tuO, daO, sqO, lsO, lenO, ngO, consO, argO, varsO, wrB, untag, owL, tyS, tyD, isT, entryE, tagA, finE, backA, wipeE, backE, keepS, seqD, gAdd, gSub, gI, gMul, gMod, gIc, gDiv, gPow, gEq, isNone, gIs, gLt, gLe, gGt, gGe, gIx, gLen, gIntC, gTupC, gLstC, gRepr, gSl, gII, need_some, atI_0, atI_1, atI_2, atI_3, ixN_30, ixN_31, ixN_32, List.getElem?_cons_zero, List.getElem?_cons_succ, List.getElem?_nil, List.set_cons_zero, List.set_cons_succ, List.length_cons, List.length_nil, Option.join_some, Option.join_none, List.replicate_succ, List.replicate_zero, List.cons_append, List.nil_append, Option.map_some, Nat.zero_add, Nat.reduceAdd, Nat.reduceSub, Bool.not_true, Bool.not_false, if_true, if_false, Bool.false_eq_true, true_and, and_true, decide_true, decide_false, Nat.reduceLeDiff, Nat.reduceEqDiff, reduceIte, reduceCtorEq, Bool.or_false, Bool.or_true, Bool.and_true, Bool.and_false, Bool.true_and, Bool.false_and, Bool.true_or, Bool.false_or, List.map_cons, List.map_nil, List.nodup_cons, List.nodup_nil, List.mem_cons, List.not_mem_nil, not_false_eq_true, or_false, false_or]
  refine ⟨pow_ok, ?_⟩
  by_cases hc : 10 ^ Int.toNat 18 ≤ cell
  · simp only [hc, decide_true, if_true]
    exact ⟨pow_ok, mul_l, sz3, h _ _ (by omega)⟩
  · simp only [hc, decide_false, if_false, Bool.false_eq_true]
    refine ⟨mul_r (by decide) (by decide), mul_l, pow_ok, by decide, sz3, h _ _ ?_⟩
    have := mod_lt (a := cell * 80021 + 61 * k + 13) (m := 10 ^ Int.toNat 33 + 67) (by decide)
    have e : (10 ^ Int.toNat 33 + 67 : Int) < 2 ^ 128 := by decide
    omega
end DV

set_option Elab.async false
set_option linter.all false
set_option maxRecDepth 100000
set_option maxHeartbeats 4000000
namespace DV
open PySem PySem.Spec PyProof.Rows L2
theorem sp_one (a b c : Int) (ds : List D) (Q : Slot → List Slot → Prop) (X : Value → Prop) (hb : b.natAbs < 2 ^ 128) (hc : 0 ≤ c) (hc2 : c < 2 ^ 40) (hl : 0 < ds.length) (hl2 : ds.length < 100000)
    (h : ∀ d a' c', d ∈ ds → c ≤ c' → c' ≤ c + 1 → Q (.val d) [uS a' b c', .own none (.lst ds)]) : fs__law_one [uS a b c, .own none (.lst ds)] Q X := by
  refine ⟨rfl, ?_⟩
  unfold w__law_one
  simp only [dSeq, dIfS, dTst, dOp2, dVarO, dRes, dK, dOf, dVar, dFz, dAsg, gNm, dRet, dRetN, dExp, dCB, dOCons, dONil, dVCons, dVNil, dLst, dTup, dMove, dNext, dNot, dAnd, dOr, dIf, dAndV, dOrV, dNotV, dIsi, dNeg, dSl, dNoP, dPrt, dApp, dPop, dSetIx, dChain, dPar, dPar3, gTp, gCons', gNil', dCall, dFor, dSq, dRng1, dRng2, dEnm, dZip, dLc, dAll, dYes, dVK, dVKs, dNever, dNevE, dBreak, dCont, con, sl, frzS, isB, tuO, daO, sqO, lsO, lenO, ngO, consO, argO, varsO, wrB, untag, owL, tyS, tyD, isT, entryE, tagA, finE, backA, wipeE, backE, keepS, seqD, gAdd, gSub, gI, gMul, gMod, gIc, gDiv, gPow, gEq, isNone, gIs, gLt, gLe, gGt, gGe, gIx, gLen, gIntC, gTupC, gLstC, gRepr, gSl, gII, need_some, atI_0, atI_1, atI_2, atI_3, ixN_30, ixN_31, ixN_32, List.getElem?_cons_zero, List.getElem?_cons_succ, List.getElem?_nil, List.set_cons_zero, List.set_cons_succ, List.length_cons, List.length_nil, Option.join_some, Option.join_none, List.replicate_succ, List.replicate_zero, List.cons_append, List.nil_append, Option.map_some, Nat.zero_add, Nat.reduceAdd, Nat.reduceSub, Bool.not_true, Bool.not_false, if_true, if_false, Bool.false_eq_true, true_and, and_true, decide_true, decide_false, Nat.reduceLeDiff, Nat.reduceEqDiff, reduceIte, reduceCtorEq, Bool.or_false, Bool.or_true, Bool.and_true, Bool.and_false, Bool.true_and, Bool.false_and, Bool.true_or, Bool.false_or, List.map_cons, List.map_nil, List.nodup_cons, List.nodup_nil, List.mem_cons, List.not_mem_nil, not_false_eq_true, or_false, false_or]
  refine sp_roll _ _ _ _ _ _ hb hc hc2 (by omega) (by omega) fun r a' c' h0 h1 h2 h3 => ?_
  obtain ⟨d, hd, e⟩ := atI_mem h0 h1
  simp only [dSeq, dIfS, dTst, dOp2, dVarO, dRes, dK, dOf, dVar, dFz, dAsg, gNm, dRet, dRetN, dExp, dCB, dOCons, dONil, dVCons, dVNil, dLst, dTup, dMove, dNext, dNot, dAnd, dOr, dIf, dAndV, dOrV, dNotV, dIsi, dNeg, dSl, dNoP, dPrt, dApp, dPop, dSetIx, dChain, dPar, dPar3, gTp, gCons', gNil', dCall, dFor, dSq, dRng1, dRng2, dEnm, dZip, dLc, dAll, dYes, dVK, dVKs, dNever, dNevE, dBreak, dCont, con, sl, frzS, isB, tuO, daO, sqO, lsO, lenO, ngO, consO, argO, varsO, wrB, untag, owL, tyS, tyD, isT, entryE, tagA, finE, backA, wipeE, backE, keepS, seqD, gAdd, gSub, gI, gMul, gMod, gIc, gDiv, gPow, gEq, isNone, gIs, gLt, gLe, gGt, gGe, gIx, gLen, gIntC, gTupC, gLstC, gRepr, gSl, gII, need_some, atI_0, atI_1, atI_2, atI_3, ixN_30, ixN_31, ixN_32, List.getElem?_cons_zero, List.getElem?_cons_succ, List.getElem?_nil, List.set_cons_zero, List.set_cons_succ, List.length_cons, List.length_nil, Option.join_some, Option.join_none, List.replicate_succ, List.replicate_zero, List.cons_append, List.nil_append, Option.map_some, Nat.zero_add, Nat.reduceAdd, Nat.reduceSub, Bool.not_true, Bool.not_false, if_true, if_false, Bool.false_eq_true, true_and, and_true, decide_true, decide_false, Nat.reduceLeDiff, Nat.reduceEqDiff, reduceIte, reduceCtorEq, Bool.or_false, Bool.or_true, Bool.and_true, Bool.and_false, Bool.true_and, Bool.false_and, Bool.true_or, Bool.false_or, List.map_cons, List.map_nil, List.nodup_cons, List.nodup_nil, List.mem_cons, List.not_mem_nil, not_false_eq_true, or_false, false_or, e]
  exact h d a' c' hd h2 h3
theorem cut_take {α : Type} (xs : List α) (k : Nat) : cutD xs none (some (k : Int)) = xs.take k := by
  unfold cutD
  rw [HT.sIx_none, HT.sIx_nat, List.drop_zero, Nat.sub_zero]
  rcases Nat.le_total k xs.length with h | h
  · rw [Nat.min_eq_left h]
  · rw [Nat.min_eq_right h, List.take_of_length_le (Nat.le_refl _), List.take_of_length_le h]
theorem sp_numbers (ns : List Int) (k : Nat) (Q : Slot → List Slot → Prop) (X : Value → Prop) (hk : 0 < k) (h : ∀ cells : List Int, cells.length ≤ k → Q (.own none (.lst (cells.map .int))) [.scr ns, .val (.int k)]) : fs__law_numbers [.scr ns, .val (.int k)] Q X := by
  refine ⟨rfl, ?_⟩
  unfold w__law_numbers
  simp only [dSeq, dIfS, dTst, dOp2, dVarO, dRes, dK, dOf, dVar, dFz, dAsg, gNm, dRet, dRetN, dExp, dCB, dOCons, dONil, dVCons, dVNil, dLst, dTup, dMove, dNext, dNot, dAnd, dOr, dIf, dAndV, dOrV, dNotV, dIsi, dNeg, dSl, dNoP, dPrt, dApp, dPop, dSetIx, dChain, dPar, dPar3, gTp, gCons', gNil', dCall, dFor, dSq, dRng1, dRng2, dEnm, dZip, dLc, dAll, dYes, dVK, dVKs, dNever, dNevE, dBreak, dCont, con, sl, frzS, isB, tuO, daO, sqO, lsO, lenO, ngO, consO, argO, varsO, wrB, untag, owL, tyS, tyD, isT, entryE, tagA, finE, backA, wipeE, backE, keepS, seqD, gAdd, gSub, gI, gMul, gMod, gIc, gDiv, gPow, gEq, isNone, gIs, gLt, gLe, gGt, gGe, gIx, gLen, gIntC, gTupC, gLstC, gRepr, gSl, gII, need_some, atI_0, atI_1, atI_2, atI_3, ixN_30, ixN_31, ixN_32, List.getElem?_cons_zero, List.getElem?_cons_succ, List.getElem?_nil, List.set_cons_zero, List.set_cons_succ, List.length_cons, List.length_nil, Option.join_some, Option.join_none, List.replicate_succ, List.replicate_zero, List.cons_append, List.nil_append, Option.map_some, Nat.zero_add, Nat.reduceAdd, Nat.reduceSub, Bool.not_true, Bool.not_false, if_true, if_false, Bool.false_eq_true, true_and, and_true, decide_true, decide_false, Nat.reduceLeDiff, Nat.reduceEqDiff, reduceIte, reduceCtorEq, Bool.or_false, Bool.or_true, Bool.and_true, Bool.and_false, Bool.true_and, Bool.false_and, Bool.true_or, Bool.false_or, List.map_cons, List.map_nil, List.nodup_cons, List.nodup_nil, List.mem_cons, List.not_mem_nil, not_false_eq_true, or_false, false_or]
  refine ⟨Nat.zero_le _, .inl ⟨shaped_ints, shaped_nil⟩, ?_⟩
  rw [eqv_list_nil]
  cases ns with
  | nil => exact ⟨sz1, h [0] hk⟩
  | cons n ns =>
    simp only [List.map_cons, List.isEmpty_cons, Bool.not_false, if_true]
    rw [cut_take, ← List.map_cons, ← List.map_take]
    exact h ((n :: ns).take k) (by rw [List.length_take]; omega)
end DV

set_option Elab.async false
set_option linter.all false
set_option maxRecDepth 100000
set_option maxHeartbeats 4000000
namespace DV
open PySem PySem.Spec PyProof.Rows L2
theorem sp_small (a b c : Int) (Q : Slot → List Slot → Prop) (X : Value → Prop) (hb : b.natAbs < 2 ^ 128) (hc : 0 ≤ c) (hc2 : c < 2 ^ 40)
    (h : ∀ L A a' c', 1 ≤ L → L ≤ 3 → 2 ≤ A → A ≤ 9 → c ≤ c' → c' ≤ c + 1 → Q (.val (.tuple [.int L, .int A])) [uS a' b c']) : fs__law_small [uS a b c] Q X := by
  refine ⟨rfl, ?_⟩
  unfold w__law_small
  simp only [dSeq, dIfS, dTst, dOp2, dVarO, dRes, dK, dOf, dVar, dFz, dAsg, gNm, dRet, dRetN, dExp, dCB, dOCons, dONil, dVCons, dVNil, dLst, dTup, dMove, dNext, dNot, dAnd, dOr, dIf, dAndV, dOrV, dNotV, dIsi, dNeg, dSl, dNoP, dPrt, dApp, dPop, dSetIx, dChain, dPar, dPar3, gTp, gCons', gNil', dCall, dFor, dSq, dRng1, dRng2, dEnm, dZip, dLc, dAll, dYes, dVK, dVKs, dNever, dNevE, dBreak, dCont, con, sl, frzS, isB, tuO, daO, sqO, lsO, lenO, ngO, consO, argO, varsO, wrB, untag, owL, tyS, tyD, isT, entryE, tagA, finE, backA, wipeE, backE, keepS, seqD, gAdd, gSub, gI, gMul, gMod, gIc, gDiv, gPow, gEq, isNone, gIs, gLt, gLe, gGt, gGe, gIx, gLen, gIntC, gTupC, gLstC, gRepr, gSl, gII, need_some, atI_0, atI_1, atI_2, atI_3, ixN_30, ixN_31, ixN_32, List.getElem?_cons_zero, List.getElem?_cons_succ, List.getElem?_nil, List.set_cons_zero, List.set_cons_succ, List.length_cons, List.length_nil, Option.join_some, Option.join_none, List.replicate_succ, List.replicate_zero, List.cons_append, List.nil_append, Option.map_some, Nat.zero_add, Nat.reduceAdd, Nat.reduceSub, Bool.not_true, Bool.not_false, if_true, if_false, Bool.false_eq_true, true_and, and_true, decide_true, decide_false, Nat.reduceLeDiff, Nat.reduceEqDiff, reduceIte, reduceCtorEq, Bool.or_false, Bool.or_true, Bool.and_true, Bool.and_false, Bool.true_and, Bool.false_and, Bool.true_or, Bool.false_or, List.map_cons, List.map_nil, List.nodup_cons, List.nodup_nil, List.mem_cons, List.not_mem_nil, not_false_eq_true, or_false, false_or]
  refine ⟨by decide, ?_⟩
  refine sp_one _ _ _ _ _ _ hb hc hc2 (by decide) (by decide) fun d a' c' hd h2 h3 => ?_
  simp only [dSeq, dIfS, dTst, dOp2, dVarO, dRes, dK, dOf, dVar, dFz, dAsg, gNm, dRet, dRetN, dExp, dCB, dOCons, dONil, dVCons, dVNil, dLst, dTup, dMove, dNext, dNot, dAnd, dOr, dIf, dAndV, dOrV, dNotV, dIsi, dNeg, dSl, dNoP, dPrt, dApp, dPop, dSetIx, dChain, dPar, dPar3, gTp, gCons', gNil', dCall, dFor, dSq, dRng1, dRng2, dEnm, dZip, dLc, dAll, dYes, dVK, dVKs, dNever, dNevE, dBreak, dCont, con, sl, frzS, isB, tuO, daO, sqO, lsO, lenO, ngO, consO, argO, varsO, wrB, untag, owL, tyS, tyD, isT, entryE, tagA, finE, backA, wipeE, backE, keepS, seqD, gAdd, gSub, gI, gMul, gMod, gIc, gDiv, gPow, gEq, isNone, gIs, gLt, gLe, gGt, gGe, gIx, gLen, gIntC, gTupC, gLstC, gRepr, gSl, gII, need_some, atI_0, atI_1, atI_2, atI_3, ixN_30, ixN_31, ixN_32, List.getElem?_cons_zero, List.getElem?_cons_succ, List.getElem?_nil, List.set_cons_zero, List.set_cons_succ, List.length_cons, List.length_nil, Option.join_some, Option.join_none, List.replicate_succ, List.replicate_zero, List.cons_append, List.nil_append, Option.map_some, Nat.zero_add, Nat.reduceAdd, Nat.reduceSub, Bool.not_true, Bool.not_false, if_true, if_false, Bool.false_eq_true, true_and, and_true, decide_true, decide_false, Nat.reduceLeDiff, Nat.reduceEqDiff, reduceIte, reduceCtorEq, Bool.or_false, Bool.or_true, Bool.and_true, Bool.and_false, Bool.true_and, Bool.false_and, Bool.true_or, Bool.false_or, List.map_cons, List.map_nil, List.nodup_cons, List.nodup_nil, List.mem_cons, List.not_mem_nil, not_false_eq_true, or_false, false_or]
  simp only [List.mem_cons, List.not_mem_nil, or_false] at hd
  rcases hd with rfl | rfl | rfl | rfl | rfl | rfl | rfl <;> exact h _ _ _ _ (by decide) (by decide) (by decide) (by decide) h2 h3
end DV

set_option Elab.async false
set_option linter.all false
set_option maxRecDepth 100000
set_option maxHeartbeats 4000000
namespace DV
open PySem PySem.Spec PyProof.Rows L2
/-- an entry of a machine: a state, an answer -/
def EntD (S A : Int) (e : D) : Prop := ∃ s t, e = .tuple [.int s, .int t] ∧ 0 ≤ s ∧ s < S ∧ 0 ≤ t ∧ t < A
def RowD (n : Nat) (S A : Int) (r : D) : Prop := ∃ es, r = .tuple es ∧ es.length = n ∧ ∀ e ∈ es, EntD S A e
theorem mem_snoc {P : D → Prop} {xs : List D} {y : D} (h : ∀ e ∈ xs, P e) (hy : P y) : ∀ e ∈ xs ++ [y], P e := fun e he => by
  rcases List.mem_append.mp he with he | he
  · exact h e he
  · rw [List.mem_singleton.mp he]; exact hy
theorem any_in (S A : Int) (dl : Bool) (hS : 0 < S) (hS2 : S < 2 ^ 60) (hA : 0 < A) (hA2 : A < 2 ^ 60) (x1 x5 x6 : Option Slot) (b : Int) (hb : b.natAbs < 2 ^ 128) : ∀ (ds : List D) (a c : Int) (row : List D) (x8 x9 : Option Slot) (D : DEnds), 0 ≤ c → c + 3 * ds.length < 2 ^ 40 → row.length + ds.length < 1000 →
    (∀ e ∈ row, EntD S A e) → (∀ a' c' row' x8' x9', c ≤ c' → c' ≤ c + 3 * ds.length → row'.length = row.length + ds.length → (∀ e ∈ row', EntD S A e) →
      D.nx [uE a' b c', x1, some (.val (.int A)), some (.val (.int S)), some (.val (.bool dl)), x5, x6, some (.own none (.lst row')), x8', x9']) →
    dForL (gNm 8) w__law_any_rows_b1 ds [uE a b c, x1, some (.val (.int A)), some (.val (.int S)), some (.val (.bool dl)), x5, x6, some (.own none (.lst row)), x8, x9] D := by
  intro ds
  induction ds with
  | nil =>
    intro a c row x8 x9 D h0 h1 h2 h3 h
    simp only [dForL]
    exact h _ _ _ _ _ (by omega) (by omega) (by simp) h3
  | cons d ds ih =>
    intro a c row x8 x9 D h0 h1 h2 h3 h
    simp only [List.length_cons] at h1 h2 h
    simp only [dForL]
    unfold w__law_any_rows_b1
    refine seqI fun U hU => ?_
    have rest : ∀ a' c' t, c ≤ c' → c' ≤ c + 2 → 0 ≤ t → t < A → U [uE a' b c', x1, some (.val (.int A)), some (.val (.int S)), some (.val (.bool dl)), x5, x6, some (.own none (.lst row)), some (.val d), some (.val (.int t))] := fun a' c' t q1 q2 q3 q4 => by
      refine hU _ ?_
      simp only [dSeq, dIfS, dTst, dOp2, dVarO, dRes, dK, dOf, dVar, dFz, dAsg, gNm, dRet, dRetN, dExp, dCB, dOCons, dONil, dVCons, dVNil, dLst, dTup, dMove, dNext, dNot, dAnd, dOr, dIf, dAndV, dOrV, dNotV, dIsi, dNeg, dSl, dNoP, dPrt, dApp, dPop, dSetIx, dChain, dPar, dPar3, gTp, gCons', gNil', dCall, dFor, dSq, dRng1, dRng2, dEnm, dZip, dLc, dAll, dYes, dVK, dVKs, dNever, dNevE, dBreak, dCont, con, sl, frzS, isB, tuO, daO, sqO, lsO, lenO, ngO, consO, argO, varsO, wrB, untag, owL, tyS, tyD, isT, entryE, tagA, finE, backA, wipeE, backE, keepS, seqD, gAdd, gSub, gI, gMul, gMod, gIc, gDiv, gPow, gEq, isNone, gIs, gLt, gLe, gGt, gGe, gIx, gLen, gIntC, gTupC, gLstC, gRepr, gSl, gII, need_some, atI_0, atI_1, atI_2, atI_3, ixN_30, ixN_31, ixN_32, List.getElem?_cons_zero, List.getElem?_cons_succ, List.getElem?_nil, List.set_cons_zero, List.set_cons_succ, List.length_cons, List.length_nil, Option.join_some, Option.join_none, List.replicate_succ, List.replicate_zero, List.cons_append, List.nil_append, Option.map_some, Nat.zero_add, Nat.reduceAdd, Nat.reduceSub, Bool.not_true, Bool.not_false, if_true, if_false, Bool.false_eq_true, true_and, and_true, decide_true, decide_false, Nat.reduceLeDiff, Nat.reduceEqDiff, reduceIte, reduceCtorEq, Bool.or_false, Bool.or_true, Bool.and_true, Bool.and_false, Bool.true_and, Bool.false_and, Bool.true_or, Bool.false_or, List.map_cons, List.map_nil, List.nodup_cons, List.nodup_nil, List.mem_cons, List.not_mem_nil, not_false_eq_true, or_false, false_or]
      refine sp_roll _ _ _ _ _ _ hb (by omega) (by omega) hS hS2 fun r a2 c2 g0 g1 g2 g3 => ?_
      simp only [dSeq, dIfS, dTst, dOp2, dVarO, dRes, dK, dOf, dVar, dFz, dAsg, gNm, dRet, dRetN, dExp, dCB, dOCons, dONil, dVCons, dVNil, dLst, dTup, dMove, dNext, dNot, dAnd, dOr, dIf, dAndV, dOrV, dNotV, dIsi, dNeg, dSl, dNoP, dPrt, dApp, dPop, dSetIx, dChain, dPar, dPar3, gTp, gCons', gNil', dCall, dFor, dSq, dRng1, dRng2, dEnm, dZip, dLc, dAll, dYes, dVK, dVKs, dNever, dNevE, dBreak, dCont, con, sl, frzS, isB, tuO, daO, sqO, lsO, lenO, ngO, consO, argO, varsO, wrB, untag, owL, tyS, tyD, isT, entryE, tagA, finE, backA, wipeE, backE, keepS, seqD, gAdd, gSub, gI, gMul, gMod, gIc, gDiv, gPow, gEq, isNone, gIs, gLt, gLe, gGt, gGe, gIx, gLen, gIntC, gTupC, gLstC, gRepr, gSl, gII, need_some, atI_0, atI_1, atI_2, atI_3, ixN_30, ixN_31, ixN_32, List.getElem?_cons_zero, List.getElem?_cons_succ, List.getElem?_nil, List.set_cons_zero, List.set_cons_succ, List.length_cons, List.length_nil, Option.join_some, Option.join_none, List.replicate_succ, List.replicate_zero, List.cons_append, List.nil_append, Option.map_some, Nat.zero_add, Nat.reduceAdd, Nat.reduceSub, Bool.not_true, Bool.not_false, if_true, if_false, Bool.false_eq_true, true_and, and_true, decide_true, decide_false, Nat.reduceLeDiff, Nat.reduceEqDiff, reduceIte, reduceCtorEq, Bool.or_false, Bool.or_true, Bool.and_true, Bool.and_false, Bool.true_and, Bool.false_and, Bool.true_or, Bool.false_or, List.map_cons, List.map_nil, List.nodup_cons, List.nodup_nil, List.mem_cons, List.not_mem_nil, not_false_eq_true, or_false, false_or]
      refine ⟨sz2, szlt (by omega), ?_⟩
      rw [← w__law_any_rows_b1]
      exact ih _ _ _ _ _ _ (by omega) (by omega) (by simp; omega) (mem_snoc h3 ⟨_, _, rfl, g0, g1, q3, q4⟩) fun a4 c4 row' x8' x9' k1 k2 k3 k4 => h _ _ _ _ _ (by omega) (by omega) (by rw [k3]; simp; omega) k4
    cases dl with
    | false =>
      simp only [dSeq, dIfS, dTst, dOp2, dVarO, dRes, dK, dOf, dVar, dFz, dAsg, gNm, dRet, dRetN, dExp, dCB, dOCons, dONil, dVCons, dVNil, dLst, dTup, dMove, dNext, dNot, dAnd, dOr, dIf, dAndV, dOrV, dNotV, dIsi, dNeg, dSl, dNoP, dPrt, dApp, dPop, dSetIx, dChain, dPar, dPar3, gTp, gCons', gNil', dCall, dFor, dSq, dRng1, dRng2, dEnm, dZip, dLc, dAll, dYes, dVK, dVKs, dNever, dNevE, dBreak, dCont, con, sl, frzS, isB, tuO, daO, sqO, lsO, lenO, ngO, consO, argO, varsO, wrB, untag, owL, tyS, tyD, isT, entryE, tagA, finE, backA, wipeE, backE, keepS, seqD, gAdd, gSub, gI, gMul, gMod, gIc, gDiv, gPow, gEq, isNone, gIs, gLt, gLe, gGt, gGe, gIx, gLen, gIntC, gTupC, gLstC, gRepr, gSl, gII, need_some, atI_0, atI_1, atI_2, atI_3, ixN_30, ixN_31, ixN_32, List.getElem?_cons_zero, List.getElem?_cons_succ, List.getElem?_nil, List.set_cons_zero, List.set_cons_succ, List.length_cons, List.length_nil, Option.join_some, Option.join_none, List.replicate_succ, List.replicate_zero, List.cons_append, List.nil_append, Option.map_some, Nat.zero_add, Nat.reduceAdd, Nat.reduceSub, Bool.not_true, Bool.not_false, if_true, if_false, Bool.false_eq_true, true_and, and_true, decide_true, decide_false, Nat.reduceLeDiff, Nat.reduceEqDiff, reduceIte, reduceCtorEq, Bool.or_false, Bool.or_true, Bool.and_true, Bool.and_false, Bool.true_and, Bool.false_and, Bool.true_or, Bool.false_or, List.map_cons, List.map_nil, List.nodup_cons, List.nodup_nil, List.mem_cons, List.not_mem_nil, not_false_eq_true, or_false, false_or]
      refine sp_roll _ _ _ _ _ _ hb h0 (by omega) hA hA2 fun r a' c' g0 g1 g2 g3 => ?_
      simp only [dSeq, dIfS, dTst, dOp2, dVarO, dRes, dK, dOf, dVar, dFz, dAsg, gNm, dRet, dRetN, dExp, dCB, dOCons, dONil, dVCons, dVNil, dLst, dTup, dMove, dNext, dNot, dAnd, dOr, dIf, dAndV, dOrV, dNotV, dIsi, dNeg, dSl, dNoP, dPrt, dApp, dPop, dSetIx, dChain, dPar, dPar3, gTp, gCons', gNil', dCall, dFor, dSq, dRng1, dRng2, dEnm, dZip, dLc, dAll, dYes, dVK, dVKs, dNever, dNevE, dBreak, dCont, con, sl, frzS, isB, tuO, daO, sqO, lsO, lenO, ngO, consO, argO, varsO, wrB, untag, owL, tyS, tyD, isT, entryE, tagA, finE, backA, wipeE, backE, keepS, seqD, gAdd, gSub, gI, gMul, gMod, gIc, gDiv, gPow, gEq, isNone, gIs, gLt, gLe, gGt, gGe, gIx, gLen, gIntC, gTupC, gLstC, gRepr, gSl, gII, need_some, atI_0, atI_1, atI_2, atI_3, ixN_30, ixN_31, ixN_32, List.getElem?_cons_zero, List.getElem?_cons_succ, List.getElem?_nil, List.set_cons_zero, List.set_cons_succ, List.length_cons, List.length_nil, Option.join_some, Option.join_none, List.replicate_succ, List.replicate_zero, List.cons_append, List.nil_append, Option.map_some, Nat.zero_add, Nat.reduceAdd, Nat.reduceSub, Bool.not_true, Bool.not_false, if_true, if_false, Bool.false_eq_true, true_and, and_true, decide_true, decide_false, Nat.reduceLeDiff, Nat.reduceEqDiff, reduceIte, reduceCtorEq, Bool.or_false, Bool.or_true, Bool.and_true, Bool.and_false, Bool.true_and, Bool.false_and, Bool.true_or, Bool.false_or, List.map_cons, List.map_nil, List.nodup_cons, List.nodup_nil, List.mem_cons, List.not_mem_nil, not_false_eq_true, or_false, false_or]
      exact rest _ _ _ (by omega) (by omega) g0 g1
    | true =>
      simp only [dSeq, dIfS, dTst, dOp2, dVarO, dRes, dK, dOf, dVar, dFz, dAsg, gNm, dRet, dRetN, dExp, dCB, dOCons, dONil, dVCons, dVNil, dLst, dTup, dMove, dNext, dNot, dAnd, dOr, dIf, dAndV, dOrV, dNotV, dIsi, dNeg, dSl, dNoP, dPrt, dApp, dPop, dSetIx, dChain, dPar, dPar3, gTp, gCons', gNil', dCall, dFor, dSq, dRng1, dRng2, dEnm, dZip, dLc, dAll, dYes, dVK, dVKs, dNever, dNevE, dBreak, dCont, con, sl, frzS, isB, tuO, daO, sqO, lsO, lenO, ngO, consO, argO, varsO, wrB, untag, owL, tyS, tyD, isT, entryE, tagA, finE, backA, wipeE, backE, keepS, seqD, gAdd, gSub, gI, gMul, gMod, gIc, gDiv, gPow, gEq, isNone, gIs, gLt, gLe, gGt, gGe, gIx, gLen, gIntC, gTupC, gLstC, gRepr, gSl, gII, need_some, atI_0, atI_1, atI_2, atI_3, ixN_30, ixN_31, ixN_32, List.getElem?_cons_zero, List.getElem?_cons_succ, List.getElem?_nil, List.set_cons_zero, List.set_cons_succ, List.length_cons, List.length_nil, Option.join_some, Option.join_none, List.replicate_succ, List.replicate_zero, List.cons_append, List.nil_append, Option.map_some, Nat.zero_add, Nat.reduceAdd, Nat.reduceSub, Bool.not_true, Bool.not_false, if_true, if_false, Bool.false_eq_true, true_and, and_true, decide_true, decide_false, Nat.reduceLeDiff, Nat.reduceEqDiff, reduceIte, reduceCtorEq, Bool.or_false, Bool.or_true, Bool.and_true, Bool.and_false, Bool.true_and, Bool.false_and, Bool.true_or, Bool.false_or, List.map_cons, List.map_nil, List.nodup_cons, List.nodup_nil, List.mem_cons, List.not_mem_nil, not_false_eq_true, or_false, false_or]
      refine sp_roll _ _ _ _ _ _ hb h0 (by omega) (by omega) (by omega) fun r a' c' g0 g1 g2 g3 => ?_
      simp only [dSeq, dIfS, dTst, dOp2, dVarO, dRes, dK, dOf, dVar, dFz, dAsg, gNm, dRet, dRetN, dExp, dCB, dOCons, dONil, dVCons, dVNil, dLst, dTup, dMove, dNext, dNot, dAnd, dOr, dIf, dAndV, dOrV, dNotV, dIsi, dNeg, dSl, dNoP, dPrt, dApp, dPop, dSetIx, dChain, dPar, dPar3, gTp, gCons', gNil', dCall, dFor, dSq, dRng1, dRng2, dEnm, dZip, dLc, dAll, dYes, dVK, dVKs, dNever, dNevE, dBreak, dCont, con, sl, frzS, isB, tuO, daO, sqO, lsO, lenO, ngO, consO, argO, varsO, wrB, untag, owL, tyS, tyD, isT, entryE, tagA, finE, backA, wipeE, backE, keepS, seqD, gAdd, gSub, gI, gMul, gMod, gIc, gDiv, gPow, gEq, isNone, gIs, gLt, gLe, gGt, gGe, gIx, gLen, gIntC, gTupC, gLstC, gRepr, gSl, gII, need_some, atI_0, atI_1, atI_2, atI_3, ixN_30, ixN_31, ixN_32, List.getElem?_cons_zero, List.getElem?_cons_succ, List.getElem?_nil, List.set_cons_zero, List.set_cons_succ, List.length_cons, List.length_nil, Option.join_some, Option.join_none, List.replicate_succ, List.replicate_zero, List.cons_append, List.nil_append, Option.map_some, Nat.zero_add, Nat.reduceAdd, Nat.reduceSub, Bool.not_true, Bool.not_false, if_true, if_false, Bool.false_eq_true, true_and, and_true, decide_true, decide_false, Nat.reduceLeDiff, Nat.reduceEqDiff, reduceIte, reduceCtorEq, Bool.or_false, Bool.or_true, Bool.and_true, Bool.and_false, Bool.true_and, Bool.false_and, Bool.true_or, Bool.false_or, List.map_cons, List.map_nil, List.nodup_cons, List.nodup_nil, List.mem_cons, List.not_mem_nil, not_false_eq_true, or_false, false_or]
      refine ⟨eqOk_int, br (fun _ => ?_) fun _ => ?_⟩
      · refine sp_roll _ _ _ _ _ _ hb (by omega) (by omega) hA hA2 fun r a2 c2 k0 k1 k2 k3 => ?_
        simp only [dSeq, dIfS, dTst, dOp2, dVarO, dRes, dK, dOf, dVar, dFz, dAsg, gNm, dRet, dRetN, dExp, dCB, dOCons, dONil, dVCons, dVNil, dLst, dTup, dMove, dNext, dNot, dAnd, dOr, dIf, dAndV, dOrV, dNotV, dIsi, dNeg, dSl, dNoP, dPrt, dApp, dPop, dSetIx, dChain, dPar, dPar3, gTp, gCons', gNil', dCall, dFor, dSq, dRng1, dRng2, dEnm, dZip, dLc, dAll, dYes, dVK, dVKs, dNever, dNevE, dBreak, dCont, con, sl, frzS, isB, tuO, daO, sqO, lsO, lenO, ngO, consO, argO, varsO, wrB, untag, owL, tyS, tyD, isT, entryE, tagA, finE, backA, wipeE, backE, keepS, seqD, gAdd, gSub, gI, gMul, gMod, gIc, gDiv, gPow, gEq, isNone, gIs, gLt, gLe, gGt, gGe, gIx, gLen, gIntC, gTupC, gLstC, gRepr, gSl, gII, need_some, atI_0, atI_1, atI_2, atI_3, ixN_30, ixN_31, ixN_32, List.getElem?_cons_zero, List.getElem?_cons_succ, List.getElem?_nil, List.set_cons_zero, List.set_cons_succ, List.length_cons, List.length_nil, Option.join_some, Option.join_none, List.replicate_succ, List.replicate_zero, List.cons_append, List.nil_append, Option.map_some, Nat.zero_add, Nat.reduceAdd, Nat.reduceSub, Bool.not_true, Bool.not_false, if_true, if_false, Bool.false_eq_true, true_and, and_true, decide_true, decide_false, Nat.reduceLeDiff, Nat.reduceEqDiff, reduceIte, reduceCtorEq, Bool.or_false, Bool.or_true, Bool.and_true, Bool.and_false, Bool.true_and, Bool.false_and, Bool.true_or, Bool.false_or, List.map_cons, List.map_nil, List.nodup_cons, List.nodup_nil, List.mem_cons, List.not_mem_nil, not_false_eq_true, or_false, false_or]
        exact rest _ _ _ (by omega) (by omega) k0 k1
      · exact rest _ _ _ (by omega) (by omega) (by omega) hA
end DV

set_option Elab.async false
set_option linter.all false
set_option maxRecDepth 100000
set_option maxHeartbeats 4000000
namespace DV
open PySem PySem.Spec PyProof.Rows L2
theorem any_out (L S A : Int) (dl : Bool) (hL : 1 ≤ L) (hL2 : L ≤ 3) (hS : 0 < S) (hS2 : S < 2 ^ 60) (hA : 0 < A) (hA2 : A < 2 ^ 60) (b : Int) (hb : b.natAbs < 2 ^ 128) : ∀ (ds : List D) (a c : Int) (rows : List D) (x6 x7 x8 x9 : Option Slot) (D : DEnds), 0 ≤ c → c + 20 * ds.length < 2 ^ 40 → rows.length + ds.length < 1000 →
    (∀ r ∈ rows, RowD L.toNat S A r) → (∀ a' c' rows' x6' x7' x8' x9', c ≤ c' → c' ≤ c + 20 * ds.length → rows'.length = rows.length + ds.length → (∀ r ∈ rows', RowD L.toNat S A r) →
      D.nx [uE a' b c', some (.val (.int L)), some (.val (.int A)), some (.val (.int S)), some (.val (.bool dl)), some (.own none (.lst rows')), x6', x7', x8', x9']) →
    dForL (gNm 6) w__law_any_rows_b2 ds [uE a b c, some (.val (.int L)), some (.val (.int A)), some (.val (.int S)), some (.val (.bool dl)), some (.own none (.lst rows)), x6, x7, x8, x9] D := by
  intro ds
  induction ds with
  | nil =>
    intro a c rows x6 x7 x8 x9 D h0 h1 h2 h3 h
    simp only [dForL]
    exact h _ _ _ _ _ _ _ (by omega) (by omega) (by simp) h3
  | cons d ds ih =>
    intro a c rows x6 x7 x8 x9 D h0 h1 h2 h3 h
    simp only [List.length_cons] at h1 h2 h
    simp only [dForL]
    unfold w__law_any_rows_b2
    simp only [dSeq, dIfS, dTst, dOp2, dVarO, dRes, dK, dOf, dVar, dFz, dAsg, gNm, dRet, dRetN, dExp, dCB, dOCons, dONil, dVCons, dVNil, dLst, dTup, dMove, dNext, dNot, dAnd, dOr, dIf, dAndV, dOrV, dNotV, dIsi, dNeg, dSl, dNoP, dPrt, dApp, dPop, dSetIx, dChain, dPar, dPar3, gTp, gCons', gNil', dCall, dFor, dSq, dRng1, dRng2, dEnm, dZip, dLc, dAll, dYes, dVK, dVKs, dNever, dNevE, dBreak, dCont, con, sl, frzS, isB, tuO, daO, sqO, lsO, lenO, ngO, consO, argO, varsO, wrB, untag, owL, tyS, tyD, isT, entryE, tagA, finE, backA, wipeE, backE, keepS, seqD, gAdd, gSub, gI, gMul, gMod, gIc, gDiv, gPow, gEq, isNone, gIs, gLt, gLe, gGt, gGe, gIx, gLen, gIntC, gTupC, gLstC, gRepr, gSl, gII, need_some, atI_0, atI_1, atI_2, atI_3, ixN_30, ixN_31, ixN_32, List.getElem?_cons_zero, List.getElem?_cons_succ, List.getElem?_nil, List.set_cons_zero, List.set_cons_succ, List.length_cons, List.length_nil, Option.join_some, Option.join_none, List.replicate_succ, List.replicate_zero, List.cons_append, List.nil_append, Option.map_some, Nat.zero_add, Nat.reduceAdd, Nat.reduceSub, Bool.not_true, Bool.not_false, if_true, if_false, Bool.false_eq_true, true_and, and_true, decide_true, decide_false, Nat.reduceLeDiff, Nat.reduceEqDiff, reduceIte, reduceCtorEq, Bool.or_false, Bool.or_true, Bool.and_true, Bool.and_false, Bool.true_and, Bool.false_and, Bool.true_or, Bool.false_or, List.map_cons, List.map_nil, List.nodup_cons, List.nodup_nil, List.mem_cons, List.not_mem_nil, not_false_eq_true, or_false, false_or]
    refine ⟨Nat.zero_le _, ⟨by omega, by omega⟩, ?_⟩
    refine any_in S A dl hS hS2 hA hA2 _ _ _ b hb _ a c [] _ _ _ h0 (by rw [rngD_length]; omega) (by rw [rngD_length]; simp; omega) (fun e he => by simp at he) fun a' c' row' x8' x9' k1 k2 k3 k4 => ?_
    rw [rngD_length] at k2 k3
    simp only [dSeq, dIfS, dTst, dOp2, dVarO, dRes, dK, dOf, dVar, dFz, dAsg, gNm, dRet, dRetN, dExp, dCB, dOCons, dONil, dVCons, dVNil, dLst, dTup, dMove, dNext, dNot, dAnd, dOr, dIf, dAndV, dOrV, dNotV, dIsi, dNeg, dSl, dNoP, dPrt, dApp, dPop, dSetIx, dChain, dPar, dPar3, gTp, gCons', gNil', dCall, dFor, dSq, dRng1, dRng2, dEnm, dZip, dLc, dAll, dYes, dVK, dVKs, dNever, dNevE, dBreak, dCont, con, sl, frzS, isB, tuO, daO, sqO, lsO, lenO, ngO, consO, argO, varsO, wrB, untag, owL, tyS, tyD, isT, entryE, tagA, finE, backA, wipeE, backE, keepS, seqD, gAdd, gSub, gI, gMul, gMod, gIc, gDiv, gPow, gEq, isNone, gIs, gLt, gLe, gGt, gGe, gIx, gLen, gIntC, gTupC, gLstC, gRepr, gSl, gII, need_some, atI_0, atI_1, atI_2, atI_3, ixN_30, ixN_31, ixN_32, List.getElem?_cons_zero, List.getElem?_cons_succ, List.getElem?_nil, List.set_cons_zero, List.set_cons_succ, List.length_cons, List.length_nil, Option.join_some, Option.join_none, List.replicate_succ, List.replicate_zero, List.cons_append, List.nil_append, Option.map_some, Nat.zero_add, Nat.reduceAdd, Nat.reduceSub, Bool.not_true, Bool.not_false, if_true, if_false, Bool.false_eq_true, true_and, and_true, decide_true, decide_false, Nat.reduceLeDiff, Nat.reduceEqDiff, reduceIte, reduceCtorEq, Bool.or_false, Bool.or_true, Bool.and_true, Bool.and_false, Bool.true_and, Bool.false_and, Bool.true_or, Bool.false_or, List.map_cons, List.map_nil, List.nodup_cons, List.nodup_nil, List.mem_cons, List.not_mem_nil, not_false_eq_true, or_false, false_or]
    refine ⟨szlt (by omega), ?_⟩
    exact ih _ _ _ _ _ _ _ _ (by omega) (by omega) (by simp; omega) (mem_snoc h3 ⟨_, rfl, by simpa using k3, k4⟩) fun a4 c4 rows' y6 y7 y8 y9 g1 g2 g3 g4 => h _ _ _ _ _ _ _ (by omega) (by omega) (by rw [g3]; simp; omega) g4
theorem sp_any (a b c L A S : Int) (dl : Bool) (Q : Slot → List Slot → Prop) (X : Value → Prop) (hb : b.natAbs < 2 ^ 128) (hc : 0 ≤ c) (hc2 : c < 2 ^ 39) (hL : 1 ≤ L) (hL2 : L ≤ 3) (hS : 0 < S) (hS2 : S ≤ 12) (hA : 0 < A) (hA2 : A < 2 ^ 60)
    (h : ∀ a' c' rows, c ≤ c' → c' ≤ c + 240 → rows.length = S.toNat → (∀ r ∈ rows, RowD L.toNat S A r) → Q (.own none (.lst rows)) [uS a' b c', .val (.int L), .val (.int A), .val (.int S), .val (.bool dl)]) :
    fs__law_any_rows [uS a b c, .val (.int L), .val (.int A), .val (.int S), .val (.bool dl)] Q X := by
  refine ⟨rfl, ?_⟩
  unfold w__law_any_rows
  simp only [dSeq, dIfS, dTst, dOp2, dVarO, dRes, dK, dOf, dVar, dFz, dAsg, gNm, dRet, dRetN, dExp, dCB, dOCons, dONil, dVCons, dVNil, dLst, dTup, dMove, dNext, dNot, dAnd, dOr, dIf, dAndV, dOrV, dNotV, dIsi, dNeg, dSl, dNoP, dPrt, dApp, dPop, dSetIx, dChain, dPar, dPar3, gTp, gCons', gNil', dCall, dFor, dSq, dRng1, dRng2, dEnm, dZip, dLc, dAll, dYes, dVK, dVKs, dNever, dNevE, dBreak, dCont, con, sl, frzS, isB, tuO, daO, sqO, lsO, lenO, ngO, consO, argO, varsO, wrB, untag, owL, tyS, tyD, isT, entryE, tagA, finE, backA, wipeE, backE, keepS, seqD, gAdd, gSub, gI, gMul, gMod, gIc, gDiv, gPow, gEq, isNone, gIs, gLt, gLe, gGt, gGe, gIx, gLen, gIntC, gTupC, gLstC, gRepr, gSl, gII, need_some, atI_0, atI_1, atI_2, atI_3, ixN_30, ixN_31, ixN_32, List.getElem?_cons_zero, List.getElem?_cons_succ, List.getElem?_nil, List.set_cons_zero, List.set_cons_succ, List.length_cons, List.length_nil, Option.join_some, Option.join_none, List.replicate_succ, List.replicate_zero, List.cons_append, List.nil_append, Option.map_some, Nat.zero_add, Nat.reduceAdd, Nat.reduceSub, Bool.not_true, Bool.not_false, if_true, if_false, Bool.false_eq_true, true_and, and_true, decide_true, decide_false, Nat.reduceLeDiff, Nat.reduceEqDiff, reduceIte, reduceCtorEq, Bool.or_false, Bool.or_true, Bool.and_true, Bool.and_false, Bool.true_and, Bool.false_and, Bool.true_or, Bool.false_or, List.map_cons, List.map_nil, List.nodup_cons, List.nodup_nil, List.mem_cons, List.not_mem_nil, not_false_eq_true, or_false, false_or]
  refine ⟨Nat.zero_le _, ⟨by omega, by omega⟩, ?_⟩
  refine any_out L S A dl hL hL2 hS (by omega) hA hA2 b hb _ a c [] _ _ _ _ _ hc (by rw [rngD_length]; omega) (by rw [rngD_length]; simp; omega) (fun e he => by simp at he) fun a' c' rows' x6 x7 x8 x9 k1 k2 k3 k4 => ?_
  rw [rngD_length] at k2 k3
  simp only [dSeq, dIfS, dTst, dOp2, dVarO, dRes, dK, dOf, dVar, dFz, dAsg, gNm, dRet, dRetN, dExp, dCB, dOCons, dONil, dVCons, dVNil, dLst, dTup, dMove, dNext, dNot, dAnd, dOr, dIf, dAndV, dOrV, dNotV, dIsi, dNeg, dSl, dNoP, dPrt, dApp, dPop, dSetIx, dChain, dPar, dPar3, gTp, gCons', gNil', dCall, dFor, dSq, dRng1, dRng2, dEnm, dZip, dLc, dAll, dYes, dVK, dVKs, dNever, dNevE, dBreak, dCont, con, sl, frzS, isB, tuO, daO, sqO, lsO, lenO, ngO, consO, argO, varsO, wrB, untag, owL, tyS, tyD, isT, entryE, tagA, finE, backA, wipeE, backE, keepS, seqD, gAdd, gSub, gI, gMul, gMod, gIc, gDiv, gPow, gEq, isNone, gIs, gLt, gLe, gGt, gGe, gIx, gLen, gIntC, gTupC, gLstC, gRepr, gSl, gII, need_some, atI_0, atI_1, atI_2, atI_3, ixN_30, ixN_31, ixN_32, List.getElem?_cons_zero, List.getElem?_cons_succ, List.getElem?_nil, List.set_cons_zero, List.set_cons_succ, List.length_cons, List.length_nil, Option.join_some, Option.join_none, List.replicate_succ, List.replicate_zero, List.cons_append, List.nil_append, Option.map_some, Nat.zero_add, Nat.reduceAdd, Nat.reduceSub, Bool.not_true, Bool.not_false, if_true, if_false, Bool.false_eq_true, true_and, and_true, decide_true, decide_false, Nat.reduceLeDiff, Nat.reduceEqDiff, reduceIte, reduceCtorEq, Bool.or_false, Bool.or_true, Bool.and_true, Bool.and_false, Bool.true_and, Bool.false_and, Bool.true_or, Bool.false_or, List.map_cons, List.map_nil, List.nodup_cons, List.nodup_nil, List.mem_cons, List.not_mem_nil, not_false_eq_true, or_false, false_or]
  exact h _ _ _ k1 (by omega) (by simpa using k3) k4
/-! a ring -/
theorem ring_in (L S A od wy st : Int) (hS : 0 < S) (hS2 : S < 2 ^ 60) (hA : 2 ≤ A) (hst : 0 ≤ st) (hst2 : st < S) (x1 x6 : Option Slot) (b : Int) (hb : b.natAbs < 2 ^ 128) : ∀ (ds : List D) (a c : Int) (row : List D) (x9 : Option Slot) (D : DEnds), (∀ d ∈ ds, ∃ i, d = .int i) → 0 ≤ c → c + 3 * ds.length < 2 ^ 40 → row.length + ds.length < 1000 →
    (∀ e ∈ row, EntD S A e) → (∀ a' c' row' x9', c ≤ c' → c' ≤ c + 3 * ds.length → row'.length = row.length + ds.length → (∀ e ∈ row', EntD S A e) →
      D.nx [uE a' b c', x1, some (.val (.int A)), some (.val (.int S)), some (.val (.int od)), some (.val (.int wy)), x6, some (.val (.int st)), some (.own none (.lst row')), x9']) →
    dForL (gNm 9) w__law_ring_rows_b1 ds [uE a b c, x1, some (.val (.int A)), some (.val (.int S)), some (.val (.int od)), some (.val (.int wy)), x6, some (.val (.int st)), some (.own none (.lst row)), x9] D := by
  intro ds
  induction ds with
  | nil =>
    intro a c row x9 D hd h0 h1 h2 h3 h
    simp only [dForL]
    exact h _ _ _ _ (by omega) (by omega) (by simp) h3
  | cons d ds ih =>
    intro a c row x9 D hd h0 h1 h2 h3 h
    simp only [List.length_cons] at h1 h2 h
    obtain ⟨i, rfl⟩ := hd d (by simp)
    have hd' : ∀ d ∈ ds, ∃ i, d = PyData.int i := fun e he => hd e (by simp [he])
    simp only [dForL]
    unfold w__law_ring_rows_b1
    have next : ∀ a' c' e, c ≤ c' → c' ≤ c + 3 → EntD S A e → dForL (gNm 9) w__law_ring_rows_b1 ds [uE a' b c', x1, some (.val (.int A)), some (.val (.int S)), some (.val (.int od)), some (.val (.int wy)), x6, some (.val (.int st)), some (.own none (.lst (row ++ [e]))), some (.val (.int i))] D := fun a' c' e q1 q2 q3 =>
      ih _ _ _ _ _ hd' (by omega) (by omega) (by simp; omega) (mem_snoc h3 q3) fun a4 c4 row' y9 g1 g2 g3 g4 => h _ _ _ _ (by omega) (by omega) (by rw [g3]; simp; omega) g4
    unfold w__law_ring_rows_b1 at next
    simp only [dSeq, dIfS, dTst, dOp2, dVarO, dRes, dK, dOf, dVar, dFz, dAsg, gNm, dRet, dRetN, dExp, dCB, dOCons, dONil, dVCons, dVNil, dLst, dTup, dMove, dNext, dNot, dAnd, dOr, dIf, dAndV, dOrV, dNotV, dIsi, dNeg, dSl, dNoP, dPrt, dApp, dPop, dSetIx, dChain, dPar, dPar3, gTp, gCons', gNil', dCall, dFor, dSq, dRng1, dRng2, dEnm, dZip, dLc, dAll, dYes, dVK, dVKs, dNever, dNevE, dBreak, dCont, con, sl, frzS, isB, tuO, daO, sqO, lsO, lenO, ngO, consO, argO, varsO, wrB, untag, owL, tyS, tyD, isT, entryE, tagA, finE, backA, wipeE, backE, keepS, seqD, gAdd, gSub, gI, gMul, gMod, gIc, gDiv, gPow, gEq, isNone, gIs, gLt, gLe, gGt, gGe, gIx, gLen, gIntC, gTupC, gLstC, gRepr, gSl, gII, need_some, atI_0, atI_1, atI_2, atI_3, ixN_30, ixN_31, ixN_32, List.getElem?_cons_zero, List.getElem?_cons_succ, List.getElem?_nil, List.set_cons_zero, List.set_cons_succ, List.length_cons, List.length_nil, Option.join_some, Option.join_none, List.replicate_succ, List.replicate_zero, List.cons_append, List.nil_append, Option.map_some, Nat.zero_add, Nat.reduceAdd, Nat.reduceSub, Bool.not_true, Bool.not_false, if_true, if_false, Bool.false_eq_true, true_and, and_true, decide_true, decide_false, Nat.reduceLeDiff, Nat.reduceEqDiff, reduceIte, reduceCtorEq, Bool.or_false, Bool.or_true, Bool.and_true, Bool.and_false, Bool.true_and, Bool.false_and, Bool.true_or, Bool.false_or, List.map_cons, List.map_nil, List.nodup_cons, List.nodup_nil, List.mem_cons, List.not_mem_nil, not_false_eq_true, or_false, false_or]
    refine ⟨eqOk_int, br (fun _ => ?_) fun _ => ?_⟩
    · refine ⟨hS, eqOk_int, br (fun _ => ⟨sz2, szlt (by omega), next _ _ _ (by omega) (by omega) ⟨_, _, rfl, (mod_lt hS).1, (mod_lt hS).2, by omega, by omega⟩⟩) fun _ => ⟨sz2, szlt (by omega), next _ _ _ (by omega) (by omega) ⟨_, _, rfl, (mod_lt hS).1, (mod_lt hS).2, by omega, by omega⟩⟩⟩
    · refine sp_roll _ _ _ _ _ _ hb h0 (by omega) hS hS2 fun r a' c' g0 g1 g2 g3 => ?_
      simp only [dSeq, dIfS, dTst, dOp2, dVarO, dRes, dK, dOf, dVar, dFz, dAsg, gNm, dRet, dRetN, dExp, dCB, dOCons, dONil, dVCons, dVNil, dLst, dTup, dMove, dNext, dNot, dAnd, dOr, dIf, dAndV, dOrV, dNotV, dIsi, dNeg, dSl, dNoP, dPrt, dApp, dPop, dSetIx, dChain, dPar, dPar3, gTp, gCons', gNil', dCall, dFor, dSq, dRng1, dRng2, dEnm, dZip, dLc, dAll, dYes, dVK, dVKs, dNever, dNevE, dBreak, dCont, con, sl, frzS, isB, tuO, daO, sqO, lsO, lenO, ngO, consO, argO, varsO, wrB, untag, owL, tyS, tyD, isT, entryE, tagA, finE, backA, wipeE, backE, keepS, seqD, gAdd, gSub, gI, gMul, gMod, gIc, gDiv, gPow, gEq, isNone, gIs, gLt, gLe, gGt, gGe, gIx, gLen, gIntC, gTupC, gLstC, gRepr, gSl, gII, need_some, atI_0, atI_1, atI_2, atI_3, ixN_30, ixN_31, ixN_32, List.getElem?_cons_zero, List.getElem?_cons_succ, List.getElem?_nil, List.set_cons_zero, List.set_cons_succ, List.length_cons, List.length_nil, Option.join_some, Option.join_none, List.replicate_succ, List.replicate_zero, List.cons_append, List.nil_append, Option.map_some, Nat.zero_add, Nat.reduceAdd, Nat.reduceSub, Bool.not_true, Bool.not_false, if_true, if_false, Bool.false_eq_true, true_and, and_true, decide_true, decide_false, Nat.reduceLeDiff, Nat.reduceEqDiff, reduceIte, reduceCtorEq, Bool.or_false, Bool.or_true, Bool.and_true, Bool.and_false, Bool.true_and, Bool.false_and, Bool.true_or, Bool.false_or, List.map_cons, List.map_nil, List.nodup_cons, List.nodup_nil, List.mem_cons, List.not_mem_nil, not_false_eq_true, or_false, false_or]
      refine ⟨sz3, ?_⟩
      refine sp_one _ _ _ _ _ _ hb (by omega) (by omega) (by simp) (by simp) fun d a2 c2 hd k2 k3 => ?_
      simp only [dSeq, dIfS, dTst, dOp2, dVarO, dRes, dK, dOf, dVar, dFz, dAsg, gNm, dRet, dRetN, dExp, dCB, dOCons, dONil, dVCons, dVNil, dLst, dTup, dMove, dNext, dNot, dAnd, dOr, dIf, dAndV, dOrV, dNotV, dIsi, dNeg, dSl, dNoP, dPrt, dApp, dPop, dSetIx, dChain, dPar, dPar3, gTp, gCons', gNil', dCall, dFor, dSq, dRng1, dRng2, dEnm, dZip, dLc, dAll, dYes, dVK, dVKs, dNever, dNevE, dBreak, dCont, con, sl, frzS, isB, tuO, daO, sqO, lsO, lenO, ngO, consO, argO, varsO, wrB, untag, owL, tyS, tyD, isT, entryE, tagA, finE, backA, wipeE, backE, keepS, seqD, gAdd, gSub, gI, gMul, gMod, gIc, gDiv, gPow, gEq, isNone, gIs, gLt, gLe, gGt, gGe, gIx, gLen, gIntC, gTupC, gLstC, gRepr, gSl, gII, need_some, atI_0, atI_1, atI_2, atI_3, ixN_30, ixN_31, ixN_32, List.getElem?_cons_zero, List.getElem?_cons_succ, List.getElem?_nil, List.set_cons_zero, List.set_cons_succ, List.length_cons, List.length_nil, Option.join_some, Option.join_none, List.replicate_succ, List.replicate_zero, List.cons_append, List.nil_append, Option.map_some, Nat.zero_add, Nat.reduceAdd, Nat.reduceSub, Bool.not_true, Bool.not_false, if_true, if_false, Bool.false_eq_true, true_and, and_true, decide_true, decide_false, Nat.reduceLeDiff, Nat.reduceEqDiff, reduceIte, reduceCtorEq, Bool.or_false, Bool.or_true, Bool.and_true, Bool.and_false, Bool.true_and, Bool.false_and, Bool.true_or, Bool.false_or, List.map_cons, List.map_nil, List.nodup_cons, List.nodup_nil, List.mem_cons, List.not_mem_nil, not_false_eq_true, or_false, false_or]
      have hdi : ∃ s, d = .int s ∧ 0 ≤ s ∧ s < S := by
        simp only [List.mem_cons, List.not_mem_nil, or_false] at hd
        rcases hd with rfl | rfl | rfl
        · exact ⟨_, rfl, hst, hst2⟩
        · exact ⟨_, rfl, by omega, hS⟩
        · exact ⟨_, rfl, g0, g1⟩
      obtain ⟨s, rfl, s1, s2⟩ := hdi
      exact ⟨sz2, szlt (by omega), next _ _ _ (by omega) (by omega) ⟨_, _, rfl, s1, s2, by omega, by omega⟩⟩
end DV

set_option Elab.async false
set_option linter.all false
set_option maxRecDepth 100000
set_option maxHeartbeats 4000000
namespace DV
open PySem PySem.Spec PyProof.Rows L2
theorem rng_ints {lo : Int} {n : Nat} : ∀ d ∈ rngD lo n, ∃ i, d = PyData.int i := fun d h => by
  obtain ⟨i, _, rfl⟩ := rngD_mem h
  exact ⟨_, rfl⟩
theorem ring_out (L S A od wy : Int) (hL : 1 ≤ L) (hL2 : L ≤ 3) (hS : 0 < S) (hS2 : S < 2 ^ 60) (hA : 2 ≤ A) (b : Int) (hb : b.natAbs < 2 ^ 128) : ∀ (ds : List D) (a c : Int) (rows : List D) (x7 x8 x9 : Option Slot) (D : DEnds), (∀ d ∈ ds, ∃ i, d = PyData.int i ∧ 0 ≤ i ∧ i < S) → 0 ≤ c → c + 20 * ds.length < 2 ^ 40 → rows.length + ds.length < 1000 →
    (∀ r ∈ rows, RowD L.toNat S A r) → (∀ a' c' rows' x7' x8' x9', c ≤ c' → c' ≤ c + 20 * ds.length → rows'.length = rows.length + ds.length → (∀ r ∈ rows', RowD L.toNat S A r) →
      D.nx [uE a' b c', some (.val (.int L)), some (.val (.int A)), some (.val (.int S)), some (.val (.int od)), some (.val (.int wy)), some (.own none (.lst rows')), x7', x8', x9']) →
    dForL (gNm 7) w__law_ring_rows_b2 ds [uE a b c, some (.val (.int L)), some (.val (.int A)), some (.val (.int S)), some (.val (.int od)), some (.val (.int wy)), some (.own none (.lst rows)), x7, x8, x9] D := by
  intro ds
  induction ds with
  | nil =>
    intro a c rows x7 x8 x9 D hd h0 h1 h2 h3 h
    simp only [dForL]
    exact h _ _ _ _ _ _ (by omega) (by omega) (by simp) h3
  | cons d ds ih =>
    intro a c rows x7 x8 x9 D hd h0 h1 h2 h3 h
    simp only [List.length_cons] at h1 h2 h
    obtain ⟨st, rfl, t1, t2⟩ := hd d (by simp)
    simp only [dForL]
    unfold w__law_ring_rows_b2
    simp only [dSeq, dIfS, dTst, dOp2, dVarO, dRes, dK, dOf, dVar, dFz, dAsg, gNm, dRet, dRetN, dExp, dCB, dOCons, dONil, dVCons, dVNil, dLst, dTup, dMove, dNext, dNot, dAnd, dOr, dIf, dAndV, dOrV, dNotV, dIsi, dNeg, dSl, dNoP, dPrt, dApp, dPop, dSetIx, dChain, dPar, dPar3, gTp, gCons', gNil', dCall, dFor, dSq, dRng1, dRng2, dEnm, dZip, dLc, dAll, dYes, dVK, dVKs, dNever, dNevE, dBreak, dCont, con, sl, frzS, isB, tuO, daO, sqO, lsO, lenO, ngO, consO, argO, varsO, wrB, untag, owL, tyS, tyD, isT, entryE, tagA, finE, backA, wipeE, backE, keepS, seqD, gAdd, gSub, gI, gMul, gMod, gIc, gDiv, gPow, gEq, isNone, gIs, gLt, gLe, gGt, gGe, gIx, gLen, gIntC, gTupC, gLstC, gRepr, gSl, gII, need_some, atI_0, atI_1, atI_2, atI_3, ixN_30, ixN_31, ixN_32, List.getElem?_cons_zero, List.getElem?_cons_succ, List.getElem?_nil, List.set_cons_zero, List.set_cons_succ, List.length_cons, List.length_nil, Option.join_some, Option.join_none, List.replicate_succ, List.replicate_zero, List.cons_append, List.nil_append, Option.map_some, Nat.zero_add, Nat.reduceAdd, Nat.reduceSub, Bool.not_true, Bool.not_false, if_true, if_false, Bool.false_eq_true, true_and, and_true, decide_true, decide_false, Nat.reduceLeDiff, Nat.reduceEqDiff, reduceIte, reduceCtorEq, Bool.or_false, Bool.or_true, Bool.and_true, Bool.and_false, Bool.true_and, Bool.false_and, Bool.true_or, Bool.false_or, List.map_cons, List.map_nil, List.nodup_cons, List.nodup_nil, List.mem_cons, List.not_mem_nil, not_false_eq_true, or_false, false_or]
    refine ⟨Nat.zero_le _, ⟨by omega, by omega⟩, ?_⟩
    refine ring_in L S A od wy st hS hS2 hA t1 t2 _ _ b hb _ a c [] _ _ rng_ints h0 (by rw [rngD_length]; omega) (by rw [rngD_length]; simp; omega) (fun e he => by simp at he) fun a' c' row' x9' k1 k2 k3 k4 => ?_
    rw [rngD_length] at k2 k3
    simp only [dSeq, dIfS, dTst, dOp2, dVarO, dRes, dK, dOf, dVar, dFz, dAsg, gNm, dRet, dRetN, dExp, dCB, dOCons, dONil, dVCons, dVNil, dLst, dTup, dMove, dNext, dNot, dAnd, dOr, dIf, dAndV, dOrV, dNotV, dIsi, dNeg, dSl, dNoP, dPrt, dApp, dPop, dSetIx, dChain, dPar, dPar3, gTp, gCons', gNil', dCall, dFor, dSq, dRng1, dRng2, dEnm, dZip, dLc, dAll, dYes, dVK, dVKs, dNever, dNevE, dBreak, dCont, con, sl, frzS, isB, tuO, daO, sqO, lsO, lenO, ngO, consO, argO, varsO, wrB, untag, owL, tyS, tyD, isT, entryE, tagA, finE, backA, wipeE, backE, keepS, seqD, gAdd, gSub, gI, gMul, gMod, gIc, gDiv, gPow, gEq, isNone, gIs, gLt, gLe, gGt, gGe, gIx, gLen, gIntC, gTupC, gLstC, gRepr, gSl, gII, need_some, atI_0, atI_1, atI_2, atI_3, ixN_30, ixN_31, ixN_32, List.getElem?_cons_zero, List.getElem?_cons_succ, List.getElem?_nil, List.set_cons_zero, List.set_cons_succ, List.length_cons, List.length_nil, Option.join_some, Option.join_none, List.replicate_succ, List.replicate_zero, List.cons_append, List.nil_append, Option.map_some, Nat.zero_add, Nat.reduceAdd, Nat.reduceSub, Bool.not_true, Bool.not_false, if_true, if_false, Bool.false_eq_true, true_and, and_true, decide_true, decide_false, Nat.reduceLeDiff, Nat.reduceEqDiff, reduceIte, reduceCtorEq, Bool.or_false, Bool.or_true, Bool.and_true, Bool.and_false, Bool.true_and, Bool.false_and, Bool.true_or, Bool.false_or, List.map_cons, List.map_nil, List.nodup_cons, List.nodup_nil, List.mem_cons, List.not_mem_nil, not_false_eq_true, or_false, false_or]
    refine ⟨szlt (by omega), ?_⟩
    exact ih _ _ _ _ _ _ _ (fun e he => hd e (by simp [he])) (by omega) (by omega) (by simp; omega) (mem_snoc h3 ⟨_, rfl, by simpa using k3, k4⟩) fun a4 c4 rows' y7 y8 y9 g1 g2 g3 g4 => h _ _ _ _ _ _ (by omega) (by omega) (by rw [g3]; simp; omega) g4
theorem rng_in {n : Nat} {S : Int} (h : n ≤ S.toNat) : ∀ d ∈ rngD 0 n, ∃ i, d = PyData.int i ∧ 0 ≤ i ∧ i < S := fun d hd => by
  obtain ⟨i, hi, rfl⟩ := rngD_mem hd
  exact ⟨_, rfl, by omega, by omega⟩
theorem sp_ring (a b c L A S : Int) (Q : Slot → List Slot → Prop) (X : Value → Prop) (hb : b.natAbs < 2 ^ 128) (hc : 0 ≤ c) (hc2 : c < 2 ^ 39) (hL : 1 ≤ L) (hL2 : L ≤ 3) (hS : 0 < S) (hS2 : S ≤ 12) (hA : 2 ≤ A)
    (h : ∀ a' c' rows, c ≤ c' → c' ≤ c + 250 → rows.length = S.toNat → (∀ r ∈ rows, RowD L.toNat S A r) → Q (.own none (.lst rows)) [uS a' b c', .val (.int L), .val (.int A), .val (.int S)]) :
    fs__law_ring_rows [uS a b c, .val (.int L), .val (.int A), .val (.int S)] Q X := by
  refine ⟨rfl, ?_⟩
  unfold w__law_ring_rows
  refine seqI fun U hU => ?_
  have rest : ∀ a' c' od wy, c ≤ c' → c' ≤ c + 2 → U [uE a' b c', some (.val (.int L)), some (.val (.int A)), some (.val (.int S)), some (.val (.int od)), some (.val (.int wy)), some (.own none (.lst [])), none, none, none] := fun a' c' od wy q1 q2 => by
    refine hU _ ?_
    simp only [dSeq, dIfS, dTst, dOp2, dVarO, dRes, dK, dOf, dVar, dFz, dAsg, gNm, dRet, dRetN, dExp, dCB, dOCons, dONil, dVCons, dVNil, dLst, dTup, dMove, dNext, dNot, dAnd, dOr, dIf, dAndV, dOrV, dNotV, dIsi, dNeg, dSl, dNoP, dPrt, dApp, dPop, dSetIx, dChain, dPar, dPar3, gTp, gCons', gNil', dCall, dFor, dSq, dRng1, dRng2, dEnm, dZip, dLc, dAll, dYes, dVK, dVKs, dNever, dNevE, dBreak, dCont, con, sl, frzS, isB, tuO, daO, sqO, lsO, lenO, ngO, consO, argO, varsO, wrB, untag, owL, tyS, tyD, isT, entryE, tagA, finE, backA, wipeE, backE, keepS, seqD, gAdd, gSub, gI, gMul, gMod, gIc, gDiv, gPow, gEq, isNone, gIs, gLt, gLe, gGt, gGe, gIx, gLen, gIntC, gTupC, gLstC, gRepr, gSl, gII, need_some, atI_0, atI_1, atI_2, atI_3, ixN_30, ixN_31, ixN_32, List.getElem?_cons_zero, List.getElem?_cons_succ, List.getElem?_nil, List.set_cons_zero, List.set_cons_succ, List.length_cons, List.length_nil, Option.join_some, Option.join_none, List.replicate_succ, List.replicate_zero, List.cons_append, List.nil_append, Option.map_some, Nat.zero_add, Nat.reduceAdd, Nat.reduceSub, Bool.not_true, Bool.not_false, if_true, if_false, Bool.false_eq_true, true_and, and_true, decide_true, decide_false, Nat.reduceLeDiff, Nat.reduceEqDiff, reduceIte, reduceCtorEq, Bool.or_false, Bool.or_true, Bool.and_true, Bool.and_false, Bool.true_and, Bool.false_and, Bool.true_or, Bool.false_or, List.map_cons, List.map_nil, List.nodup_cons, List.nodup_nil, List.mem_cons, List.not_mem_nil, not_false_eq_true, or_false, false_or]
    refine ⟨⟨by omega, by omega⟩, ?_⟩
    refine ring_out L S A od wy hL hL2 hS (by omega) hA b hb _ a' c' [] _ _ _ _ (rng_in (Nat.le_refl _)) (by omega) (by rw [rngD_length]; omega) (by rw [rngD_length]; simp; omega) (fun e he => by simp at he) fun a' c' rows' x7 x8 x9 k1 k2 k3 k4 => ?_
    rw [rngD_length] at k2 k3
    simp only [dSeq, dIfS, dTst, dOp2, dVarO, dRes, dK, dOf, dVar, dFz, dAsg, gNm, dRet, dRetN, dExp, dCB, dOCons, dONil, dVCons, dVNil, dLst, dTup, dMove, dNext, dNot, dAnd, dOr, dIf, dAndV, dOrV, dNotV, dIsi, dNeg, dSl, dNoP, dPrt, dApp, dPop, dSetIx, dChain, dPar, dPar3, gTp, gCons', gNil', dCall, dFor, dSq, dRng1, dRng2, dEnm, dZip, dLc, dAll, dYes, dVK, dVKs, dNever, dNevE, dBreak, dCont, con, sl, frzS, isB, tuO, daO, sqO, lsO, lenO, ngO, consO, argO, varsO, wrB, untag, owL, tyS, tyD, isT, entryE, tagA, finE, backA, wipeE, backE, keepS, seqD, gAdd, gSub, gI, gMul, gMod, gIc, gDiv, gPow, gEq, isNone, gIs, gLt, gLe, gGt, gGe, gIx, gLen, gIntC, gTupC, gLstC, gRepr, gSl, gII, need_some, atI_0, atI_1, atI_2, atI_3, ixN_30, ixN_31, ixN_32, List.getElem?_cons_zero, List.getElem?_cons_succ, List.getElem?_nil, List.set_cons_zero, List.set_cons_succ, List.length_cons, List.length_nil, Option.join_some, Option.join_none, List.replicate_succ, List.replicate_zero, List.cons_append, List.nil_append, Option.map_some, Nat.zero_add, Nat.reduceAdd, Nat.reduceSub, Bool.not_true, Bool.not_false, if_true, if_false, Bool.false_eq_true, true_and, and_true, decide_true, decide_false, Nat.reduceLeDiff, Nat.reduceEqDiff, reduceIte, reduceCtorEq, Bool.or_false, Bool.or_true, Bool.and_true, Bool.and_false, Bool.true_and, Bool.false_and, Bool.true_or, Bool.false_or, List.map_cons, List.map_nil, List.nodup_cons, List.nodup_nil, List.mem_cons, List.not_mem_nil, not_false_eq_true, or_false, false_or]
    exact h _ _ _ (by omega) (by omega) (by simpa using k3) k4
  simp only [dSeq, dIfS, dTst, dOp2, dVarO, dRes, dK, dOf, dVar, dFz, dAsg, gNm, dRet, dRetN, dExp, dCB, dOCons, dONil, dVCons, dVNil, dLst, dTup, dMove, dNext, dNot, dAnd, dOr, dIf, dAndV, dOrV, dNotV, dIsi, dNeg, dSl, dNoP, dPrt, dApp, dPop, dSetIx, dChain, dPar, dPar3, gTp, gCons', gNil', dCall, dFor, dSq, dRng1, dRng2, dEnm, dZip, dLc, dAll, dYes, dVK, dVKs, dNever, dNevE, dBreak, dCont, con, sl, frzS, isB, tuO, daO, sqO, lsO, lenO, ngO, consO, argO, varsO, wrB, untag, owL, tyS, tyD, isT, entryE, tagA, finE, backA, wipeE, backE, keepS, seqD, gAdd, gSub, gI, gMul, gMod, gIc, gDiv, gPow, gEq, isNone, gIs, gLt, gLe, gGt, gGe, gIx, gLen, gIntC, gTupC, gLstC, gRepr, gSl, gII, need_some, atI_0, atI_1, atI_2, atI_3, ixN_30, ixN_31, ixN_32, List.getElem?_cons_zero, List.getElem?_cons_succ, List.getElem?_nil, List.set_cons_zero, List.set_cons_succ, List.length_cons, List.length_nil, Option.join_some, Option.join_none, List.replicate_succ, List.replicate_zero, List.cons_append, List.nil_append, Option.map_some, Nat.zero_add, Nat.reduceAdd, Nat.reduceSub, Bool.not_true, Bool.not_false, if_true, if_false, Bool.false_eq_true, true_and, and_true, decide_true, decide_false, Nat.reduceLeDiff, Nat.reduceEqDiff, reduceIte, reduceCtorEq, Bool.or_false, Bool.or_true, Bool.and_true, Bool.and_false, Bool.true_and, Bool.false_and, Bool.true_or, Bool.false_or, List.map_cons, List.map_nil, List.nodup_cons, List.nodup_nil, List.mem_cons, List.not_mem_nil, not_false_eq_true, or_false, false_or]
  refine sp_roll _ _ _ _ _ _ hb hc (by omega) hS (by omega) fun od a1 c1 g0 g1 g2 g3 => ?_
  simp only [dSeq, dIfS, dTst, dOp2, dVarO, dRes, dK, dOf, dVar, dFz, dAsg, gNm, dRet, dRetN, dExp, dCB, dOCons, dONil, dVCons, dVNil, dLst, dTup, dMove, dNext, dNot, dAnd, dOr, dIf, dAndV, dOrV, dNotV, dIsi, dNeg, dSl, dNoP, dPrt, dApp, dPop, dSetIx, dChain, dPar, dPar3, gTp, gCons', gNil', dCall, dFor, dSq, dRng1, dRng2, dEnm, dZip, dLc, dAll, dYes, dVK, dVKs, dNever, dNevE, dBreak, dCont, con, sl, frzS, isB, tuO, daO, sqO, lsO, lenO, ngO, consO, argO, varsO, wrB, untag, owL, tyS, tyD, isT, entryE, tagA, finE, backA, wipeE, backE, keepS, seqD, gAdd, gSub, gI, gMul, gMod, gIc, gDiv, gPow, gEq, isNone, gIs, gLt, gLe, gGt, gGe, gIx, gLen, gIntC, gTupC, gLstC, gRepr, gSl, gII, need_some, atI_0, atI_1, atI_2, atI_3, ixN_30, ixN_31, ixN_32, List.getElem?_cons_zero, List.getElem?_cons_succ, List.getElem?_nil, List.set_cons_zero, List.set_cons_succ, List.length_cons, List.length_nil, Option.join_some, Option.join_none, List.replicate_succ, List.replicate_zero, List.cons_append, List.nil_append, Option.map_some, Nat.zero_add, Nat.reduceAdd, Nat.reduceSub, Bool.not_true, Bool.not_false, if_true, if_false, Bool.false_eq_true, true_and, and_true, decide_true, decide_false, Nat.reduceLeDiff, Nat.reduceEqDiff, reduceIte, reduceCtorEq, Bool.or_false, Bool.or_true, Bool.and_true, Bool.and_false, Bool.true_and, Bool.false_and, Bool.true_or, Bool.false_or, List.map_cons, List.map_nil, List.nodup_cons, List.nodup_nil, List.mem_cons, List.not_mem_nil, not_false_eq_true, or_false, false_or]
  refine sp_roll _ _ _ _ _ _ hb (by omega) (by omega) (by omega) (by omega) fun wy a2 c2 k0 k1 k2 k3 => ?_
  simp only [dSeq, dIfS, dTst, dOp2, dVarO, dRes, dK, dOf, dVar, dFz, dAsg, gNm, dRet, dRetN, dExp, dCB, dOCons, dONil, dVCons, dVNil, dLst, dTup, dMove, dNext, dNot, dAnd, dOr, dIf, dAndV, dOrV, dNotV, dIsi, dNeg, dSl, dNoP, dPrt, dApp, dPop, dSetIx, dChain, dPar, dPar3, gTp, gCons', gNil', dCall, dFor, dSq, dRng1, dRng2, dEnm, dZip, dLc, dAll, dYes, dVK, dVKs, dNever, dNevE, dBreak, dCont, con, sl, frzS, isB, tuO, daO, sqO, lsO, lenO, ngO, consO, argO, varsO, wrB, untag, owL, tyS, tyD, isT, entryE, tagA, finE, backA, wipeE, backE, keepS, seqD, gAdd, gSub, gI, gMul, gMod, gIc, gDiv, gPow, gEq, isNone, gIs, gLt, gLe, gGt, gGe, gIx, gLen, gIntC, gTupC, gLstC, gRepr, gSl, gII, need_some, atI_0, atI_1, atI_2, atI_3, ixN_30, ixN_31, ixN_32, List.getElem?_cons_zero, List.getElem?_cons_succ, List.getElem?_nil, List.set_cons_zero, List.set_cons_succ, List.length_cons, List.length_nil, Option.join_some, Option.join_none, List.replicate_succ, List.replicate_zero, List.cons_append, List.nil_append, Option.map_some, Nat.zero_add, Nat.reduceAdd, Nat.reduceSub, Bool.not_true, Bool.not_false, if_true, if_false, Bool.false_eq_true, true_and, and_true, decide_true, decide_false, Nat.reduceLeDiff, Nat.reduceEqDiff, reduceIte, reduceCtorEq, Bool.or_false, Bool.or_true, Bool.and_true, Bool.and_false, Bool.true_and, Bool.false_and, Bool.true_or, Bool.false_or, List.map_cons, List.map_nil, List.nodup_cons, List.nodup_nil, List.mem_cons, List.not_mem_nil, not_false_eq_true, or_false, false_or]
  exact ⟨Nat.zero_le _, rest _ _ _ _ (by omega) (by omega)⟩
/-! a machine blown up -/
theorem blown_some (after many : Int) (S : Int) (hm : 0 < many) (x0 x1 x2 x4 x5 x6 x8 x9 : Option Slot) : ∀ (ds : List D) (x10 : Option Slot) (Q : List D → En → Prop), (∀ d ∈ ds, ∃ i, d = PyData.int i ∧ 0 ≤ i ∧ i < S) →
    (∀ ys x10', ys.length ≤ ds.length → (∀ y ∈ ys, ∃ i, y = PyData.int i ∧ 0 ≤ i ∧ i < S) → ((∃ i, PyData.int i ∈ ds ∧ i % many = after) → 0 < ys.length) → Q ys [x0, x1, x2, some (.val (.int many)), x4, x5, x6, some (.val (.int after)), x8, x9, x10']) →
    dLcL (gNm 10) w__law_blown_rows_t1 (dVar 10) [10] ds [x0, x1, x2, some (.val (.int many)), x4, x5, x6, some (.val (.int after)), x8, x9, x10] Q := by
  intro ds
  induction ds with
  | nil =>
    intro x10 Q hd h
    simp only [dLcL]
    exact h [] _ (Nat.le_refl _) (fun y hy => by simp at hy) fun ⟨i, hi, _⟩ => by simp at hi
  | cons d ds ih =>
    intro x10 Q hd h
    obtain ⟨i, rfl, i0, i1⟩ := hd d (by simp)
    have hd' : ∀ d ∈ ds, ∃ i, d = PyData.int i ∧ 0 ≤ i ∧ i < S := fun e he => hd e (by simp [he])
    simp only [dLcL]
    unfold w__law_blown_rows_t1
    simp only [dSeq, dIfS, dTst, dOp2, dVarO, dRes, dK, dOf, dVar, dFz, dAsg, gNm, dRet, dRetN, dExp, dCB, dOCons, dONil, dVCons, dVNil, dLst, dTup, dMove, dNext, dNot, dAnd, dOr, dIf, dAndV, dOrV, dNotV, dIsi, dNeg, dSl, dNoP, dPrt, dApp, dPop, dSetIx, dChain, dPar, dPar3, gTp, gCons', gNil', dCall, dFor, dSq, dRng1, dRng2, dEnm, dZip, dLc, dAll, dYes, dVK, dVKs, dNever, dNevE, dBreak, dCont, con, sl, frzS, isB, tuO, daO, sqO, lsO, lenO, ngO, consO, argO, varsO, wrB, untag, owL, tyS, tyD, isT, entryE, tagA, finE, backA, wipeE, backE, keepS, seqD, gAdd, gSub, gI, gMul, gMod, gIc, gDiv, gPow, gEq, isNone, gIs, gLt, gLe, gGt, gGe, gIx, gLen, gIntC, gTupC, gLstC, gRepr, gSl, gII, need_some, atI_0, atI_1, atI_2, atI_3, ixN_30, ixN_31, ixN_32, List.getElem?_cons_zero, List.getElem?_cons_succ, List.getElem?_nil, List.set_cons_zero, List.set_cons_succ, List.length_cons, List.length_nil, Option.join_some, Option.join_none, List.replicate_succ, List.replicate_zero, List.cons_append, List.nil_append, Option.map_some, Nat.zero_add, Nat.reduceAdd, Nat.reduceSub, Bool.not_true, Bool.not_false, if_true, if_false, Bool.false_eq_true, true_and, and_true, decide_true, decide_false, Nat.reduceLeDiff, Nat.reduceEqDiff, reduceIte, reduceCtorEq, Bool.or_false, Bool.or_true, Bool.and_true, Bool.and_false, Bool.true_and, Bool.false_and, Bool.true_or, Bool.false_or, List.map_cons, List.map_nil, List.nodup_cons, List.nodup_nil, List.mem_cons, List.not_mem_nil, not_false_eq_true, or_false, false_or]
    refine ⟨hm, eqOk_int, br (fun e => ?_) fun e => ?_⟩
    · have := ih (some (.val (.int i))) (fun ys e => Q (.int i :: ys) e) hd' fun ys x10' k1 k2 k3 => h _ _ (by simp; omega) (fun y hy => by
        rcases List.mem_cons.mp hy with rfl | hy
        · exact ⟨_, rfl, i0, i1⟩
        · exact k2 y hy) fun _ => by simp
      unfold w__law_blown_rows_t1 at this
      exact this
    · have := ih (some (.val (.int i))) Q hd' fun ys x10' k1 k2 k3 => h _ _ (by simp; omega) k2 fun ⟨j, hj, ej⟩ => by
        rcases List.mem_cons.mp hj with hj | hj
        · cases hj
          rw [eqv_int, ej] at e
          simp at e
        · exact k3 ⟨j, hj, ej⟩
      unfold w__law_blown_rows_t1 at this
      exact this
end DV

set_option Elab.async false
set_option linter.all false
set_option maxRecDepth 100000
set_option maxHeartbeats 4000000
namespace DV
open PySem PySem.Spec PyProof.Rows L2
theorem blown_in (many S A : Int) (hm : 0 < many) (hmS : many ≤ S) (hS2 : S ≤ 12) (x1 x4 x5 : Option Slot) (b : Int) (hb : b.natAbs < 2 ^ 128) : ∀ (ds : List D) (a c : Int) (row : List D) (x7 x8 x9 x10 : Option Slot) (D : DEnds), (∀ d ∈ ds, EntD many A d) → 0 ≤ c → c + ds.length < 2 ^ 40 → row.length + ds.length < 1000 →
    (∀ e ∈ row, EntD S A e) → (∀ a' c' row' x7' x8' x9' x10', c ≤ c' → c' ≤ c + ds.length → row'.length = row.length + ds.length → (∀ e ∈ row', EntD S A e) →
      D.nx [uE a' b c', x1, some (.val (.int S)), some (.val (.int many)), x4, x5, some (.own none (.lst row')), x7', x8', x9', x10']) →
    dForL (gTp 2 (gCons' (gNm 7) (gCons' (gNm 8) gNil'))) w__law_blown_rows_b1 ds [uE a b c, x1, some (.val (.int S)), some (.val (.int many)), x4, x5, some (.own none (.lst row)), x7, x8, x9, x10] D := by
  intro ds
  induction ds with
  | nil =>
    intro a c row x7 x8 x9 x10 D hd h0 h1 h2 h3 h
    simp only [dForL]
    exact h _ _ _ _ _ _ _ (by omega) (by simp) (by simp) h3
  | cons d ds ih =>
    intro a c row x7 x8 x9 x10 D hd h0 h1 h2 h3 h
    simp only [List.length_cons] at h1 h2 h
    obtain ⟨s, t, rfl, s0, s1, t0, t1⟩ := hd d (by simp)
    simp only [dForL]
    have next : ∀ a' c' e x7 x8 x9 x10, c ≤ c' → c' ≤ c + 1 → EntD S A e → dForL (gTp 2 (gCons' (gNm 7) (gCons' (gNm 8) gNil'))) w__law_blown_rows_b1 ds [uE a' b c', x1, some (.val (.int S)), some (.val (.int many)), x4, x5, some (.own none (.lst (row ++ [e]))), x7, x8, x9, x10] D := fun a' c' e x7 x8 x9 x10 q1 q2 q3 =>
      ih _ _ _ _ _ _ _ _ (fun e he => hd e (by simp [he])) (by omega) (by omega) (by simp; omega) (mem_snoc h3 q3) fun a4 c4 row' y7 y8 y9 y10 g1 g2 g3 g4 => h _ _ _ _ _ _ _ (by omega) (by omega) (by rw [g3]; simp; omega) g4
    unfold w__law_blown_rows_b1 at next ⊢
    simp only [dSeq, dIfS, dTst, dOp2, dVarO, dRes, dK, dOf, dVar, dFz, dAsg, gNm, dRet, dRetN, dExp, dCB, dOCons, dONil, dVCons, dVNil, dLst, dTup, dMove, dNext, dNot, dAnd, dOr, dIf, dAndV, dOrV, dNotV, dIsi, dNeg, dSl, dNoP, dPrt, dApp, dPop, dSetIx, dChain, dPar, dPar3, gTp, gCons', gNil', dCall, dFor, dSq, dRng1, dRng2, dEnm, dZip, dLc, dAll, dYes, dVK, dVKs, dNever, dNevE, dBreak, dCont, con, sl, frzS, isB, tuO, daO, sqO, lsO, lenO, ngO, consO, argO, varsO, wrB, untag, owL, tyS, tyD, isT, entryE, tagA, finE, backA, wipeE, backE, keepS, seqD, gAdd, gSub, gI, gMul, gMod, gIc, gDiv, gPow, gEq, isNone, gIs, gLt, gLe, gGt, gGe, gIx, gLen, gIntC, gTupC, gLstC, gRepr, gSl, gII, need_some, atI_0, atI_1, atI_2, atI_3, ixN_30, ixN_31, ixN_32, List.getElem?_cons_zero, List.getElem?_cons_succ, List.getElem?_nil, List.set_cons_zero, List.set_cons_succ, List.length_cons, List.length_nil, Option.join_some, Option.join_none, List.replicate_succ, List.replicate_zero, List.cons_append, List.nil_append, Option.map_some, Nat.zero_add, Nat.reduceAdd, Nat.reduceSub, Bool.not_true, Bool.not_false, if_true, if_false, Bool.false_eq_true, true_and, and_true, decide_true, decide_false, Nat.reduceLeDiff, Nat.reduceEqDiff, reduceIte, reduceCtorEq, Bool.or_false, Bool.or_true, Bool.and_true, Bool.and_false, Bool.true_and, Bool.false_and, Bool.true_or, Bool.false_or, List.map_cons, List.map_nil, List.nodup_cons, List.nodup_nil, List.mem_cons, List.not_mem_nil, not_false_eq_true, or_false, false_or]
    refine ⟨⟨by omega, by omega⟩, by rw [rngD_length]; exact Nat.le_of_lt (szlt (by omega)), ?_⟩
    refine blown_some s many S hm _ _ _ _ _ _ _ _ _ _ _ (rng_in (Nat.le_refl _)) fun ys x10' k1 k2 k3 => ?_
    rw [rngD_length] at k1
    have hne : 0 < ys.length := k3 ⟨s, List.mem_map.mpr ⟨s.toNat, List.mem_range.mpr (by omega), by simp; omega⟩, Int.emod_eq_of_lt s0 s1⟩
    simp only [dSeq, dIfS, dTst, dOp2, dVarO, dRes, dK, dOf, dVar, dFz, dAsg, gNm, dRet, dRetN, dExp, dCB, dOCons, dONil, dVCons, dVNil, dLst, dTup, dMove, dNext, dNot, dAnd, dOr, dIf, dAndV, dOrV, dNotV, dIsi, dNeg, dSl, dNoP, dPrt, dApp, dPop, dSetIx, dChain, dPar, dPar3, gTp, gCons', gNil', dCall, dFor, dSq, dRng1, dRng2, dEnm, dZip, dLc, dAll, dYes, dVK, dVKs, dNever, dNevE, dBreak, dCont, con, sl, frzS, isB, tuO, daO, sqO, lsO, lenO, ngO, consO, argO, varsO, wrB, untag, owL, tyS, tyD, isT, entryE, tagA, finE, backA, wipeE, backE, keepS, seqD, gAdd, gSub, gI, gMul, gMod, gIc, gDiv, gPow, gEq, isNone, gIs, gLt, gLe, gGt, gGe, gIx, gLen, gIntC, gTupC, gLstC, gRepr, gSl, gII, need_some, atI_0, atI_1, atI_2, atI_3, ixN_30, ixN_31, ixN_32, List.getElem?_cons_zero, List.getElem?_cons_succ, List.getElem?_nil, List.set_cons_zero, List.set_cons_succ, List.length_cons, List.length_nil, Option.join_some, Option.join_none, List.replicate_succ, List.replicate_zero, List.cons_append, List.nil_append, Option.map_some, Nat.zero_add, Nat.reduceAdd, Nat.reduceSub, Bool.not_true, Bool.not_false, if_true, if_false, Bool.false_eq_true, true_and, and_true, decide_true, decide_false, Nat.reduceLeDiff, Nat.reduceEqDiff, reduceIte, reduceCtorEq, Bool.or_false, Bool.or_true, Bool.and_true, Bool.and_false, Bool.true_and, Bool.false_and, Bool.true_or, Bool.false_or, List.map_cons, List.map_nil, List.nodup_cons, List.nodup_nil, List.mem_cons, List.not_mem_nil, not_false_eq_true, or_false, false_or]
    refine sp_one _ _ _ _ _ _ hb h0 (by omega) hne (by omega) fun d a2 c2 hdy g2 g3 => ?_
    obtain ⟨i, rfl, i0, i1⟩ := k2 d hdy
    simp only [dSeq, dIfS, dTst, dOp2, dVarO, dRes, dK, dOf, dVar, dFz, dAsg, gNm, dRet, dRetN, dExp, dCB, dOCons, dONil, dVCons, dVNil, dLst, dTup, dMove, dNext, dNot, dAnd, dOr, dIf, dAndV, dOrV, dNotV, dIsi, dNeg, dSl, dNoP, dPrt, dApp, dPop, dSetIx, dChain, dPar, dPar3, gTp, gCons', gNil', dCall, dFor, dSq, dRng1, dRng2, dEnm, dZip, dLc, dAll, dYes, dVK, dVKs, dNever, dNevE, dBreak, dCont, con, sl, frzS, isB, tuO, daO, sqO, lsO, lenO, ngO, consO, argO, varsO, wrB, untag, owL, tyS, tyD, isT, entryE, tagA, finE, backA, wipeE, backE, keepS, seqD, gAdd, gSub, gI, gMul, gMod, gIc, gDiv, gPow, gEq, isNone, gIs, gLt, gLe, gGt, gGe, gIx, gLen, gIntC, gTupC, gLstC, gRepr, gSl, gII, need_some, atI_0, atI_1, atI_2, atI_3, ixN_30, ixN_31, ixN_32, List.getElem?_cons_zero, List.getElem?_cons_succ, List.getElem?_nil, List.set_cons_zero, List.set_cons_succ, List.length_cons, List.length_nil, Option.join_some, Option.join_none, List.replicate_succ, List.replicate_zero, List.cons_append, List.nil_append, Option.map_some, Nat.zero_add, Nat.reduceAdd, Nat.reduceSub, Bool.not_true, Bool.not_false, if_true, if_false, Bool.false_eq_true, true_and, and_true, decide_true, decide_false, Nat.reduceLeDiff, Nat.reduceEqDiff, reduceIte, reduceCtorEq, Bool.or_false, Bool.or_true, Bool.and_true, Bool.and_false, Bool.true_and, Bool.false_and, Bool.true_or, Bool.false_or, List.map_cons, List.map_nil, List.nodup_cons, List.nodup_nil, List.mem_cons, List.not_mem_nil, not_false_eq_true, or_false, false_or]
    exact ⟨sz2, szlt (by omega), next a2 c2 _ (some (.val (.int s))) (some (.val (.int t))) _ _ g2 g3 ⟨_, _, rfl, i0, i1, t0, t1⟩⟩
end DV

set_option Elab.async false
set_option linter.all false
set_option maxRecDepth 100000
set_option maxHeartbeats 4000000
namespace DV
open PySem PySem.Spec PyProof.Rows L2
theorem blown_out (L : Nat) (many S A : Int) (hL : L ≤ 3) (hm : 0 < many) (hmS : many ≤ S) (hS2 : S ≤ 12) (b : Int) (hb : b.natAbs < 2 ^ 128) (few : List D) (hf : few.length = many.toNat) (hfr : ∀ r ∈ few, RowD L many A r) : ∀ (ds : List D) (a c : Int) (rows : List D) (x5 x6 x7 x8 x9 x10 : Option Slot) (D : DEnds), (∀ d ∈ ds, ∃ i, d = PyData.int i) → 0 ≤ c → c + 3 * ds.length < 2 ^ 40 → rows.length + ds.length < 1000 →
    (∀ r ∈ rows, RowD L S A r) → (∀ a' c' rows' x5' x6' x7' x8' x9' x10', c ≤ c' → c' ≤ c + 3 * ds.length → rows'.length = rows.length + ds.length → (∀ r ∈ rows', RowD L S A r) →
      D.nx [uE a' b c', some (.own (some 1) (.lst few)), some (.val (.int S)), some (.val (.int many)), some (.own none (.lst rows')), x5', x6', x7', x8', x9', x10']) →
    dForL (gNm 5) w__law_blown_rows_b2 ds [uE a b c, some (.own (some 1) (.lst few)), some (.val (.int S)), some (.val (.int many)), some (.own none (.lst rows)), x5, x6, x7, x8, x9, x10] D := by
  intro ds
  induction ds with
  | nil =>
    intro a c rows x5 x6 x7 x8 x9 x10 D hd h0 h1 h2 h3 h
    simp only [dForL]
    exact h _ _ _ _ _ _ _ _ _ (by omega) (by simp) (by simp) h3
  | cons d ds ih =>
    intro a c rows x5 x6 x7 x8 x9 x10 D hd h0 h1 h2 h3 h
    simp only [List.length_cons] at h1 h2 h
    obtain ⟨st, rfl⟩ := hd d (by simp)
    simp only [dForL]
    have next : ∀ a' c' r x5 x6 x7 x8 x9 x10, c ≤ c' → c' ≤ c + 3 → RowD L S A r → dForL (gNm 5) w__law_blown_rows_b2 ds [uE a' b c', some (.own (some 1) (.lst few)), some (.val (.int S)), some (.val (.int many)), some (.own none (.lst (rows ++ [r]))), x5, x6, x7, x8, x9, x10] D := fun a' c' e x5 x6 x7 x8 x9 x10 q1 q2 q3 =>
      ih _ _ _ _ _ _ _ _ _ _ (fun e he => hd e (by simp [he])) (by omega) (by omega) (by simp; omega) (mem_snoc h3 q3) fun a4 c4 row' y5 y6 y7 y8 y9 y10 g1 g2 g3 g4 => h _ _ _ _ _ _ _ _ _ (by omega) (by omega) (by rw [g3]; simp; omega) g4
    unfold w__law_blown_rows_b2 at next ⊢
    obtain ⟨r, hr, er⟩ := atI_mem (xs := few) (r := st % many) (mod_lt hm).1 (by have := (mod_lt (a := st) hm).2; omega)
    obtain ⟨es, rfl, hl, he⟩ := hfr r hr
    simp only [dSeq, dIfS, dTst, dOp2, dVarO, dRes, dK, dOf, dVar, dFz, dAsg, gNm, dRet, dRetN, dExp, dCB, dOCons, dONil, dVCons, dVNil, dLst, dTup, dMove, dNext, dNot, dAnd, dOr, dIf, dAndV, dOrV, dNotV, dIsi, dNeg, dSl, dNoP, dPrt, dApp, dPop, dSetIx, dChain, dPar, dPar3, gTp, gCons', gNil', dCall, dFor, dSq, dRng1, dRng2, dEnm, dZip, dLc, dAll, dYes, dVK, dVKs, dNever, dNevE, dBreak, dCont, con, sl, frzS, isB, tuO, daO, sqO, lsO, lenO, ngO, consO, argO, varsO, wrB, untag, owL, tyS, tyD, isT, entryE, tagA, finE, backA, wipeE, backE, keepS, seqD, gAdd, gSub, gI, gMul, gMod, gIc, gDiv, gPow, gEq, isNone, gIs, gLt, gLe, gGt, gGe, gIx, gLen, gIntC, gTupC, gLstC, gRepr, gSl, gII, need_some, atI_0, atI_1, atI_2, atI_3, ixN_30, ixN_31, ixN_32, List.getElem?_cons_zero, List.getElem?_cons_succ, List.getElem?_nil, List.set_cons_zero, List.set_cons_succ, List.length_cons, List.length_nil, Option.join_some, Option.join_none, List.replicate_succ, List.replicate_zero, List.cons_append, List.nil_append, Option.map_some, Nat.zero_add, Nat.reduceAdd, Nat.reduceSub, Bool.not_true, Bool.not_false, if_true, if_false, Bool.false_eq_true, true_and, and_true, decide_true, decide_false, Nat.reduceLeDiff, Nat.reduceEqDiff, reduceIte, reduceCtorEq, Bool.or_false, Bool.or_true, Bool.and_true, Bool.and_false, Bool.true_and, Bool.false_and, Bool.true_or, Bool.false_or, List.map_cons, List.map_nil, List.nodup_cons, List.nodup_nil, List.mem_cons, List.not_mem_nil, not_false_eq_true, or_false, false_or, er]
    refine ⟨Nat.zero_le _, hm, ?_⟩
    refine blown_in many S A hm hmS hS2 _ _ _ b hb es a c [] _ _ _ _ _ he h0 (by omega) (by simp; omega) (fun e he => by simp at he) fun a' c' row' x7' x8' x9' x10' k1 k2 k3 k4 => ?_
    simp only [dSeq, dIfS, dTst, dOp2, dVarO, dRes, dK, dOf, dVar, dFz, dAsg, gNm, dRet, dRetN, dExp, dCB, dOCons, dONil, dVCons, dVNil, dLst, dTup, dMove, dNext, dNot, dAnd, dOr, dIf, dAndV, dOrV, dNotV, dIsi, dNeg, dSl, dNoP, dPrt, dApp, dPop, dSetIx, dChain, dPar, dPar3, gTp, gCons', gNil', dCall, dFor, dSq, dRng1, dRng2, dEnm, dZip, dLc, dAll, dYes, dVK, dVKs, dNever, dNevE, dBreak, dCont, con, sl, frzS, isB, tuO, daO, sqO, lsO, lenO, ngO, consO, argO, varsO, wrB, untag, owL, tyS, tyD, isT, entryE, tagA, finE, backA, wipeE, backE, keepS, seqD, gAdd, gSub, gI, gMul, gMod, gIc, gDiv, gPow, gEq, isNone, gIs, gLt, gLe, gGt, gGe, gIx, gLen, gIntC, gTupC, gLstC, gRepr, gSl, gII, need_some, atI_0, atI_1, atI_2, atI_3, ixN_30, ixN_31, ixN_32, List.getElem?_cons_zero, List.getElem?_cons_succ, List.getElem?_nil, List.set_cons_zero, List.set_cons_succ, List.length_cons, List.length_nil, Option.join_some, Option.join_none, List.replicate_succ, List.replicate_zero, List.cons_append, List.nil_append, Option.map_some, Nat.zero_add, Nat.reduceAdd, Nat.reduceSub, Bool.not_true, Bool.not_false, if_true, if_false, Bool.false_eq_true, true_and, and_true, decide_true, decide_false, Nat.reduceLeDiff, Nat.reduceEqDiff, reduceIte, reduceCtorEq, Bool.or_false, Bool.or_true, Bool.and_true, Bool.and_false, Bool.true_and, Bool.false_and, Bool.true_or, Bool.false_or, List.map_cons, List.map_nil, List.nodup_cons, List.nodup_nil, List.mem_cons, List.not_mem_nil, not_false_eq_true, or_false, false_or]
    refine ⟨szlt (by omega), next _ _ _ _ _ _ _ _ _ k1 (by omega) ⟨_, rfl, by simpa [hl] using k3, k4⟩⟩
end DV

set_option Elab.async false
set_option linter.all false
set_option maxRecDepth 100000
set_option maxHeartbeats 4000000
namespace DV
open PySem PySem.Spec PyProof.Rows L2
theorem sp_blown (a b c A S : Int) (L : Nat) (few : List D) (Q : Slot → List Slot → Prop) (X : Value → Prop) (hb : b.natAbs < 2 ^ 128) (hc : 0 ≤ c) (hc2 : c < 2 ^ 39) (hL : L ≤ 3) (hS2 : S ≤ 12) (h0 : 0 < few.length) (h1 : (few.length : Int) ≤ S) (hfr : ∀ r ∈ few, RowD L few.length A r)
    (h : ∀ a' c' rows, c ≤ c' → c' ≤ c + 36 → rows.length = S.toNat → (∀ r ∈ rows, RowD L S A r) → Q (.own none (.lst rows)) [uS a' b c', .own none (.lst few), .val (.int S)]) :
    fs__law_blown_rows [uS a b c, .own none (.lst few), .val (.int S)] Q X := by
  refine ⟨rfl, ?_⟩
  unfold w__law_blown_rows
  simp only [dSeq, dIfS, dTst, dOp2, dVarO, dRes, dK, dOf, dVar, dFz, dAsg, gNm, dRet, dRetN, dExp, dCB, dOCons, dONil, dVCons, dVNil, dLst, dTup, dMove, dNext, dNot, dAnd, dOr, dIf, dAndV, dOrV, dNotV, dIsi, dNeg, dSl, dNoP, dPrt, dApp, dPop, dSetIx, dChain, dPar, dPar3, gTp, gCons', gNil', dCall, dFor, dSq, dRng1, dRng2, dEnm, dZip, dLc, dAll, dYes, dVK, dVKs, dNever, dNevE, dBreak, dCont, con, sl, frzS, isB, tuO, daO, sqO, lsO, lenO, ngO, consO, argO, varsO, wrB, untag, owL, tyS, tyD, isT, entryE, tagA, finE, backA, wipeE, backE, keepS, seqD, gAdd, gSub, gI, gMul, gMod, gIc, gDiv, gPow, gEq, isNone, gIs, gLt, gLe, gGt, gGe, gIx, gLen, gIntC, gTupC, gLstC, gRepr, gSl, gII, need_some, atI_0, atI_1, atI_2, atI_3, ixN_30, ixN_31, ixN_32, List.getElem?_cons_zero, List.getElem?_cons_succ, List.getElem?_nil, List.set_cons_zero, List.set_cons_succ, List.length_cons, List.length_nil, Option.join_some, Option.join_none, List.replicate_succ, List.replicate_zero, List.cons_append, List.nil_append, Option.map_some, Nat.zero_add, Nat.reduceAdd, Nat.reduceSub, Bool.not_true, Bool.not_false, if_true, if_false, Bool.false_eq_true, true_and, and_true, decide_true, decide_false, Nat.reduceLeDiff, Nat.reduceEqDiff, reduceIte, reduceCtorEq, Bool.or_false, Bool.or_true, Bool.and_true, Bool.and_false, Bool.true_and, Bool.false_and, Bool.true_or, Bool.false_or, List.map_cons, List.map_nil, List.nodup_cons, List.nodup_nil, List.mem_cons, List.not_mem_nil, not_false_eq_true, or_false, false_or]
  refine ⟨Nat.zero_le _, ⟨by omega, by omega⟩, ?_⟩
  refine blown_out L few.length S A hL (by omega) h1 hS2 b hb few (by simp) hfr _ a c [] _ _ _ _ _ _ _ rng_ints hc (by rw [rngD_length]; omega) (by rw [rngD_length]; simp; omega) (fun e he => by simp at he) fun a' c' rows' x5 x6 x7 x8 x9 x10 k1 k2 k3 k4 => ?_
  rw [rngD_length] at k2 k3
  simp only [dSeq, dIfS, dTst, dOp2, dVarO, dRes, dK, dOf, dVar, dFz, dAsg, gNm, dRet, dRetN, dExp, dCB, dOCons, dONil, dVCons, dVNil, dLst, dTup, dMove, dNext, dNot, dAnd, dOr, dIf, dAndV, dOrV, dNotV, dIsi, dNeg, dSl, dNoP, dPrt, dApp, dPop, dSetIx, dChain, dPar, dPar3, gTp, gCons', gNil', dCall, dFor, dSq, dRng1, dRng2, dEnm, dZip, dLc, dAll, dYes, dVK, dVKs, dNever, dNevE, dBreak, dCont, con, sl, frzS, isB, tuO, daO, sqO, lsO, lenO, ngO, consO, argO, varsO, wrB, untag, owL, tyS, tyD, isT, entryE, tagA, finE, backA, wipeE, backE, keepS, seqD, gAdd, gSub, gI, gMul, gMod, gIc, gDiv, gPow, gEq, isNone, gIs, gLt, gLe, gGt, gGe, gIx, gLen, gIntC, gTupC, gLstC, gRepr, gSl, gII, need_some, atI_0, atI_1, atI_2, atI_3, ixN_30, ixN_31, ixN_32, List.getElem?_cons_zero, List.getElem?_cons_succ, List.getElem?_nil, List.set_cons_zero, List.set_cons_succ, List.length_cons, List.length_nil, Option.join_some, Option.join_none, List.replicate_succ, List.replicate_zero, List.cons_append, List.nil_append, Option.map_some, Nat.zero_add, Nat.reduceAdd, Nat.reduceSub, Bool.not_true, Bool.not_false, if_true, if_false, Bool.false_eq_true, true_and, and_true, decide_true, decide_false, Nat.reduceLeDiff, Nat.reduceEqDiff, reduceIte, reduceCtorEq, Bool.or_false, Bool.or_true, Bool.and_true, Bool.and_false, Bool.true_and, Bool.false_and, Bool.true_or, Bool.false_or, List.map_cons, List.map_nil, List.nodup_cons, List.nodup_nil, List.mem_cons, List.not_mem_nil, not_false_eq_true, or_false, false_or]
  exact h _ _ _ k1 (by omega) (by simpa using k3) k4
end DV

set_option Elab.async false
set_option linter.all false
set_option maxRecDepth 100000
set_option maxHeartbeats 4000000
namespace DV
open PySem PySem.Spec PyProof.Rows L2
theorem ifI {w : DT} {a b : DS} {env : En} {D : DEnds} (h : ∀ (P R : En → Prop), (∀ e, a e D → P e) → (∀ e, b e D → R e) → w env fun c e => if c = true then P e else R e) : dIfS w a b env D := h _ _ (fun _ q => q) fun _ q => q
theorem ocI {w : DO} {ws : DOs} {env : En} {Q : List Opd → En → Prop} (h : ∀ K : Opd → En → Prop, (∀ o e, (ws e fun os e2 => Q (o :: os) e2) → K o e) → w env K) : dOCons w ws env Q := h _ fun _ _ q => q
theorem asgI {w : DE} {g : DG} {env : En} {D : DEnds} (h : w env fun r e => g r e D.nx) : dAsg w g env D := h
theorem retI {w : DE} {env : En} {D : DEnds} (h : w env fun r e => D.rt r e) : dRet w env D := h
theorem callI {fs : FS} {ws : DOs} {env : En} {Q : Slot → En → Prop} (h : ∀ K : List Opd → En → Prop, (∀ os e, (need (argO e os) fun args => (varsO e os).Nodup ∧ fs args (fun r args' => need (wrB e os args') fun e' => Q r e') fun _ => False) → K os e) → ws env K) : dCall fs ws env Q := h _ fun _ _ q => q
theorem sp_rows (a b c L A S : Int) (Q : Slot → List Slot → Prop) (X : Value → Prop) (hb : b.natAbs < 2 ^ 128) (hc : 0 ≤ c) (hc2 : c < 2 ^ 38) (hL : 1 ≤ L) (hL2 : L ≤ 3) (hS : 0 < S) (hS2 : S ≤ 12) (hA : 2 ≤ A) (hA2 : A ≤ 9)
    (h : ∀ a' c' rows, c ≤ c' → c' ≤ c + 300 → rows.length = S.toNat → (∀ r ∈ rows, RowD L.toNat S A r) → Q (.own none (.lst rows)) [uS a' b c', .val (.int L), .val (.int A), .val (.int S)]) :
    fs__law_rows [uS a b c, .val (.int L), .val (.int A), .val (.int S)] Q X := by
  refine ⟨rfl, ?_⟩
  unfold w__law_rows
  refine seqI fun U hU => ?_
  simp only [dSeq, dIfS, dTst, dOp2, dVarO, dRes, dK, dOf, dVar, dFz, dAsg, gNm, dRet, dRetN, dExp, dCB, dOCons, dONil, dVCons, dVNil, dLst, dTup, dMove, dNext, dNot, dAnd, dOr, dIf, dAndV, dOrV, dNotV, dIsi, dNeg, dSl, dNoP, dPrt, dApp, dPop, dSetIx, dChain, dPar, dPar3, gTp, gCons', gNil', dCall, dFor, dSq, dRng1, dRng2, dEnm, dZip, dLc, dAll, dYes, dVK, dVKs, dNever, dNevE, dBreak, dCont, con, sl, frzS, isB, tuO, daO, sqO, lsO, lenO, ngO, consO, argO, varsO, wrB, untag, owL, tyS, tyD, isT, entryE, tagA, finE, backA, wipeE, backE, keepS, seqD, gAdd, gSub, gI, gMul, gMod, gIc, gDiv, gPow, gEq, isNone, gIs, gLt, gLe, gGt, gGe, gIx, gLen, gIntC, gTupC, gLstC, gRepr, gSl, gII, need_some, atI_0, atI_1, atI_2, atI_3, ixN_30, ixN_31, ixN_32, List.getElem?_cons_zero, List.getElem?_cons_succ, List.getElem?_nil, List.set_cons_zero, List.set_cons_succ, List.length_cons, List.length_nil, Option.join_some, Option.join_none, List.replicate_succ, List.replicate_zero, List.cons_append, List.nil_append, Option.map_some, Nat.zero_add, Nat.reduceAdd, Nat.reduceSub, Bool.not_true, Bool.not_false, if_true, if_false, Bool.false_eq_true, true_and, and_true, decide_true, decide_false, Nat.reduceLeDiff, Nat.reduceEqDiff, reduceIte, reduceCtorEq, Bool.or_false, Bool.or_true, Bool.and_true, Bool.and_false, Bool.true_and, Bool.false_and, Bool.true_or, Bool.false_or, List.map_cons, List.map_nil, List.nodup_cons, List.nodup_nil, List.mem_cons, List.not_mem_nil, not_false_eq_true, or_false, false_or]
  refine sp_roll _ _ _ _ _ _ hb hc (by omega) (by omega) (by omega) fun wy a1 c1 g0 g1 g2 g3 => ?_
  simp only [dSeq, dIfS, dTst, dOp2, dVarO, dRes, dK, dOf, dVar, dFz, dAsg, gNm, dRet, dRetN, dExp, dCB, dOCons, dONil, dVCons, dVNil, dLst, dTup, dMove, dNext, dNot, dAnd, dOr, dIf, dAndV, dOrV, dNotV, dIsi, dNeg, dSl, dNoP, dPrt, dApp, dPop, dSetIx, dChain, dPar, dPar3, gTp, gCons', gNil', dCall, dFor, dSq, dRng1, dRng2, dEnm, dZip, dLc, dAll, dYes, dVK, dVKs, dNever, dNevE, dBreak, dCont, con, sl, frzS, isB, tuO, daO, sqO, lsO, lenO, ngO, consO, argO, varsO, wrB, untag, owL, tyS, tyD, isT, entryE, tagA, finE, backA, wipeE, backE, keepS, seqD, gAdd, gSub, gI, gMul, gMod, gIc, gDiv, gPow, gEq, isNone, gIs, gLt, gLe, gGt, gGe, gIx, gLen, gIntC, gTupC, gLstC, gRepr, gSl, gII, need_some, atI_0, atI_1, atI_2, atI_3, ixN_30, ixN_31, ixN_32, List.getElem?_cons_zero, List.getElem?_cons_succ, List.getElem?_nil, List.set_cons_zero, List.set_cons_succ, List.length_cons, List.length_nil, Option.join_some, Option.join_none, List.replicate_succ, List.replicate_zero, List.cons_append, List.nil_append, Option.map_some, Nat.zero_add, Nat.reduceAdd, Nat.reduceSub, Bool.not_true, Bool.not_false, if_true, if_false, Bool.false_eq_true, true_and, and_true, decide_true, decide_false, Nat.reduceLeDiff, Nat.reduceEqDiff, reduceIte, reduceCtorEq, Bool.or_false, Bool.or_true, Bool.and_true, Bool.and_false, Bool.true_and, Bool.false_and, Bool.true_or, Bool.false_or, List.map_cons, List.map_nil, List.nodup_cons, List.nodup_nil, List.mem_cons, List.not_mem_nil, not_false_eq_true, or_false, false_or]
  refine hU _ ?_
  refine seqI fun V hV => ?_
  simp only [dSeq, dIfS, dTst, dOp2, dVarO, dRes, dK, dOf, dVar, dFz, dAsg, gNm, dRet, dRetN, dExp, dCB, dOCons, dONil, dVCons, dVNil, dLst, dTup, dMove, dNext, dNot, dAnd, dOr, dIf, dAndV, dOrV, dNotV, dIsi, dNeg, dSl, dNoP, dPrt, dApp, dPop, dSetIx, dChain, dPar, dPar3, gTp, gCons', gNil', dCall, dFor, dSq, dRng1, dRng2, dEnm, dZip, dLc, dAll, dYes, dVK, dVKs, dNever, dNevE, dBreak, dCont, con, sl, frzS, isB, tuO, daO, sqO, lsO, lenO, ngO, consO, argO, varsO, wrB, untag, owL, tyS, tyD, isT, entryE, tagA, finE, backA, wipeE, backE, keepS, seqD, gAdd, gSub, gI, gMul, gMod, gIc, gDiv, gPow, gEq, isNone, gIs, gLt, gLe, gGt, gGe, gIx, gLen, gIntC, gTupC, gLstC, gRepr, gSl, gII, need_some, atI_0, atI_1, atI_2, atI_3, ixN_30, ixN_31, ixN_32, List.getElem?_cons_zero, List.getElem?_cons_succ, List.getElem?_nil, List.set_cons_zero, List.set_cons_succ, List.length_cons, List.length_nil, Option.join_some, Option.join_none, List.replicate_succ, List.replicate_zero, List.cons_append, List.nil_append, Option.map_some, Nat.zero_add, Nat.reduceAdd, Nat.reduceSub, Bool.not_true, Bool.not_false, if_true, if_false, Bool.false_eq_true, true_and, and_true, decide_true, decide_false, Nat.reduceLeDiff, Nat.reduceEqDiff, reduceIte, reduceCtorEq, Bool.or_false, Bool.or_true, Bool.and_true, Bool.and_false, Bool.true_and, Bool.false_and, Bool.true_or, Bool.false_or, List.map_cons, List.map_nil, List.nodup_cons, List.nodup_nil, List.mem_cons, List.not_mem_nil, not_false_eq_true, or_false, false_or]
  refine ⟨eqOk_int, br (fun _ => ?_) fun _ => ?_⟩
  · refine sp_ring _ _ _ _ _ _ _ _ hb (by omega) (by omega) hL hL2 hS hS2 hA fun a2 c2 rows k0 k1 k2 k3 => ?_
    simp only [dSeq, dIfS, dTst, dOp2, dVarO, dRes, dK, dOf, dVar, dFz, dAsg, gNm, dRet, dRetN, dExp, dCB, dOCons, dONil, dVCons, dVNil, dLst, dTup, dMove, dNext, dNot, dAnd, dOr, dIf, dAndV, dOrV, dNotV, dIsi, dNeg, dSl, dNoP, dPrt, dApp, dPop, dSetIx, dChain, dPar, dPar3, gTp, gCons', gNil', dCall, dFor, dSq, dRng1, dRng2, dEnm, dZip, dLc, dAll, dYes, dVK, dVKs, dNever, dNevE, dBreak, dCont, con, sl, frzS, isB, tuO, daO, sqO, lsO, lenO, ngO, consO, argO, varsO, wrB, untag, owL, tyS, tyD, isT, entryE, tagA, finE, backA, wipeE, backE, keepS, seqD, gAdd, gSub, gI, gMul, gMod, gIc, gDiv, gPow, gEq, isNone, gIs, gLt, gLe, gGt, gGe, gIx, gLen, gIntC, gTupC, gLstC, gRepr, gSl, gII, need_some, atI_0, atI_1, atI_2, atI_3, ixN_30, ixN_31, ixN_32, List.getElem?_cons_zero, List.getElem?_cons_succ, List.getElem?_nil, List.set_cons_zero, List.set_cons_succ, List.length_cons, List.length_nil, Option.join_some, Option.join_none, List.replicate_succ, List.replicate_zero, List.cons_append, List.nil_append, Option.map_some, Nat.zero_add, Nat.reduceAdd, Nat.reduceSub, Bool.not_true, Bool.not_false, if_true, if_false, Bool.false_eq_true, true_and, and_true, decide_true, decide_false, Nat.reduceLeDiff, Nat.reduceEqDiff, reduceIte, reduceCtorEq, Bool.or_false, Bool.or_true, Bool.and_true, Bool.and_false, Bool.true_and, Bool.false_and, Bool.true_or, Bool.false_or, List.map_cons, List.map_nil, List.nodup_cons, List.nodup_nil, List.mem_cons, List.not_mem_nil, not_false_eq_true, or_false, false_or]
    exact h _ _ _ (by omega) (by omega) k2 k3
  · refine hV _ ?_
    refine seqI fun W hW => ?_
    have tail : W [uE a1 b c1, some (.val (.int L)), some (.val (.int A)), some (.val (.int S)), some (.val (.int wy)), none] := by
      refine hW _ ?_
      simp only [dSeq, dIfS, dTst, dOp2, dVarO, dRes, dK, dOf, dVar, dFz, dAsg, gNm, dRet, dRetN, dExp, dCB, dOCons, dONil, dVCons, dVNil, dLst, dTup, dMove, dNext, dNot, dAnd, dOr, dIf, dAndV, dOrV, dNotV, dIsi, dNeg, dSl, dNoP, dPrt, dApp, dPop, dSetIx, dChain, dPar, dPar3, gTp, gCons', gNil', dCall, dFor, dSq, dRng1, dRng2, dEnm, dZip, dLc, dAll, dYes, dVK, dVKs, dNever, dNevE, dBreak, dCont, con, sl, frzS, isB, tuO, daO, sqO, lsO, lenO, ngO, consO, argO, varsO, wrB, untag, owL, tyS, tyD, isT, entryE, tagA, finE, backA, wipeE, backE, keepS, seqD, gAdd, gSub, gI, gMul, gMod, gIc, gDiv, gPow, gEq, isNone, gIs, gLt, gLe, gGt, gGe, gIx, gLen, gIntC, gTupC, gLstC, gRepr, gSl, gII, need_some, atI_0, atI_1, atI_2, atI_3, ixN_30, ixN_31, ixN_32, List.getElem?_cons_zero, List.getElem?_cons_succ, List.getElem?_nil, List.set_cons_zero, List.set_cons_succ, List.length_cons, List.length_nil, Option.join_some, Option.join_none, List.replicate_succ, List.replicate_zero, List.cons_append, List.nil_append, Option.map_some, Nat.zero_add, Nat.reduceAdd, Nat.reduceSub, Bool.not_true, Bool.not_false, if_true, if_false, Bool.false_eq_true, true_and, and_true, decide_true, decide_false, Nat.reduceLeDiff, Nat.reduceEqDiff, reduceIte, reduceCtorEq, Bool.or_false, Bool.or_true, Bool.and_true, Bool.and_false, Bool.true_and, Bool.false_and, Bool.true_or, Bool.false_or, List.map_cons, List.map_nil, List.nodup_cons, List.nodup_nil, List.mem_cons, List.not_mem_nil, not_false_eq_true, or_false, false_or]
      refine ⟨eqOk_int, ?_⟩
      refine sp_any _ _ _ _ _ _ _ _ _ hb (by omega) (by omega) hL hL2 hS hS2 (by omega) (by omega) fun a2 c2 rows k0 k1 k2 k3 => ?_
      simp only [dSeq, dIfS, dTst, dOp2, dVarO, dRes, dK, dOf, dVar, dFz, dAsg, gNm, dRet, dRetN, dExp, dCB, dOCons, dONil, dVCons, dVNil, dLst, dTup, dMove, dNext, dNot, dAnd, dOr, dIf, dAndV, dOrV, dNotV, dIsi, dNeg, dSl, dNoP, dPrt, dApp, dPop, dSetIx, dChain, dPar, dPar3, gTp, gCons', gNil', dCall, dFor, dSq, dRng1, dRng2, dEnm, dZip, dLc, dAll, dYes, dVK, dVKs, dNever, dNevE, dBreak, dCont, con, sl, frzS, isB, tuO, daO, sqO, lsO, lenO, ngO, consO, argO, varsO, wrB, untag, owL, tyS, tyD, isT, entryE, tagA, finE, backA, wipeE, backE, keepS, seqD, gAdd, gSub, gI, gMul, gMod, gIc, gDiv, gPow, gEq, isNone, gIs, gLt, gLe, gGt, gGe, gIx, gLen, gIntC, gTupC, gLstC, gRepr, gSl, gII, need_some, atI_0, atI_1, atI_2, atI_3, ixN_30, ixN_31, ixN_32, List.getElem?_cons_zero, List.getElem?_cons_succ, List.getElem?_nil, List.set_cons_zero, List.set_cons_succ, List.length_cons, List.length_nil, Option.join_some, Option.join_none, List.replicate_succ, List.replicate_zero, List.cons_append, List.nil_append, Option.map_some, Nat.zero_add, Nat.reduceAdd, Nat.reduceSub, Bool.not_true, Bool.not_false, if_true, if_false, Bool.false_eq_true, true_and, and_true, decide_true, decide_false, Nat.reduceLeDiff, Nat.reduceEqDiff, reduceIte, reduceCtorEq, Bool.or_false, Bool.or_true, Bool.and_true, Bool.and_false, Bool.true_and, Bool.false_and, Bool.true_or, Bool.false_or, List.map_cons, List.map_nil, List.nodup_cons, List.nodup_nil, List.mem_cons, List.not_mem_nil, not_false_eq_true, or_false, false_or]
      exact h _ _ _ (by omega) (by omega) k2 k3
    refine ifI fun P R hP hR => ?_
    have tl : R [uE a1 b c1, some (.val (.int L)), some (.val (.int A)), some (.val (.int S)), some (.val (.int wy)), none] := hR _ tail
    simp only [dSeq, dIfS, dTst, dOp2, dVarO, dRes, dK, dOf, dVar, dFz, dAsg, gNm, dRet, dRetN, dExp, dCB, dOCons, dONil, dVCons, dVNil, dLst, dTup, dMove, dNext, dNot, dAnd, dOr, dIf, dAndV, dOrV, dNotV, dIsi, dNeg, dSl, dNoP, dPrt, dApp, dPop, dSetIx, dChain, dPar, dPar3, gTp, gCons', gNil', dCall, dFor, dSq, dRng1, dRng2, dEnm, dZip, dLc, dAll, dYes, dVK, dVKs, dNever, dNevE, dBreak, dCont, con, sl, frzS, isB, tuO, daO, sqO, lsO, lenO, ngO, consO, argO, varsO, wrB, untag, owL, tyS, tyD, isT, entryE, tagA, finE, backA, wipeE, backE, keepS, seqD, gAdd, gSub, gI, gMul, gMod, gIc, gDiv, gPow, gEq, isNone, gIs, gLt, gLe, gGt, gGe, gIx, gLen, gIntC, gTupC, gLstC, gRepr, gSl, gII, need_some, atI_0, atI_1, atI_2, atI_3, ixN_30, ixN_31, ixN_32, List.getElem?_cons_zero, List.getElem?_cons_succ, List.getElem?_nil, List.set_cons_zero, List.set_cons_succ, List.length_cons, List.length_nil, Option.join_some, Option.join_none, List.replicate_succ, List.replicate_zero, List.cons_append, List.nil_append, Option.map_some, Nat.zero_add, Nat.reduceAdd, Nat.reduceSub, Bool.not_true, Bool.not_false, if_true, if_false, Bool.false_eq_true, true_and, and_true, decide_true, decide_false, Nat.reduceLeDiff, Nat.reduceEqDiff, reduceIte, reduceCtorEq, Bool.or_false, Bool.or_true, Bool.and_true, Bool.and_false, Bool.true_and, Bool.false_and, Bool.true_or, Bool.false_or, List.map_cons, List.map_nil, List.nodup_cons, List.nodup_nil, List.mem_cons, List.not_mem_nil, not_false_eq_true, or_false, false_or]
    refine br (fun _ => br (fun h1 => ?_) fun _ => tl) fun _ => tl
    have h1 : 1 < S := by simpa using h1
    refine hP _ ?_
    refine seqI fun V2 hV2 => ?_
    refine asgI ?_
    refine callI fun K hK => ?_
    refine ocI fun K1 hK1 => need_in rfl (hK1 _ _ ?_)
    refine ocI fun K2 hK2 => need_in rfl (hK2 _ _ ?_)
    refine ocI fun K3 hK3 => need_in rfl (hK3 _ _ ?_)
    refine ocI fun K4 hK4 => ?_
    simp only [dSeq, dIfS, dTst, dOp2, dVarO, dRes, dK, dOf, dVar, dFz, dAsg, gNm, dRet, dRetN, dExp, dCB, dOCons, dONil, dVCons, dVNil, dLst, dTup, dMove, dNext, dNot, dAnd, dOr, dIf, dAndV, dOrV, dNotV, dIsi, dNeg, dSl, dNoP, dPrt, dApp, dPop, dSetIx, dChain, dPar, dPar3, gTp, gCons', gNil', dCall, dFor, dSq, dRng1, dRng2, dEnm, dZip, dLc, dAll, dYes, dVK, dVKs, dNever, dNevE, dBreak, dCont, con, sl, frzS, isB, tuO, daO, sqO, lsO, lenO, ngO, consO, argO, varsO, wrB, untag, owL, tyS, tyD, isT, entryE, tagA, finE, backA, wipeE, backE, keepS, seqD, gAdd, gSub, gI, gMul, gMod, gIc, gDiv, gPow, gEq, isNone, gIs, gLt, gLe, gGt, gGe, gIx, gLen, gIntC, gTupC, gLstC, gRepr, gSl, gII, need_some, atI_0, atI_1, atI_2, atI_3, ixN_30, ixN_31, ixN_32, List.getElem?_cons_zero, List.getElem?_cons_succ, List.getElem?_nil, List.set_cons_zero, List.set_cons_succ, List.length_cons, List.length_nil, Option.join_some, Option.join_none, List.replicate_succ, List.replicate_zero, List.cons_append, List.nil_append, Option.map_some, Nat.zero_add, Nat.reduceAdd, Nat.reduceSub, Bool.not_true, Bool.not_false, if_true, if_false, Bool.false_eq_true, true_and, and_true, decide_true, decide_false, Nat.reduceLeDiff, Nat.reduceEqDiff, reduceIte, reduceCtorEq, Bool.or_false, Bool.or_true, Bool.and_true, Bool.and_false, Bool.true_and, Bool.false_and, Bool.true_or, Bool.false_or, List.map_cons, List.map_nil, List.nodup_cons, List.nodup_nil, List.mem_cons, List.not_mem_nil, not_false_eq_true, or_false, false_or]
    refine sp_roll _ _ _ _ _ _ hb (by omega) (by omega) (by omega) (by omega) fun fw a2 c2 k0 k1 k2 k3 => ?_
    simp only [dSeq, dIfS, dTst, dOp2, dVarO, dRes, dK, dOf, dVar, dFz, dAsg, gNm, dRet, dRetN, dExp, dCB, dOCons, dONil, dVCons, dVNil, dLst, dTup, dMove, dNext, dNot, dAnd, dOr, dIf, dAndV, dOrV, dNotV, dIsi, dNeg, dSl, dNoP, dPrt, dApp, dPop, dSetIx, dChain, dPar, dPar3, gTp, gCons', gNil', dCall, dFor, dSq, dRng1, dRng2, dEnm, dZip, dLc, dAll, dYes, dVK, dVKs, dNever, dNevE, dBreak, dCont, con, sl, frzS, isB, tuO, daO, sqO, lsO, lenO, ngO, consO, argO, varsO, wrB, untag, owL, tyS, tyD, isT, entryE, tagA, finE, backA, wipeE, backE, keepS, seqD, gAdd, gSub, gI, gMul, gMod, gIc, gDiv, gPow, gEq, isNone, gIs, gLt, gLe, gGt, gGe, gIx, gLen, gIntC, gTupC, gLstC, gRepr, gSl, gII, need_some, atI_0, atI_1, atI_2, atI_3, ixN_30, ixN_31, ixN_32, List.getElem?_cons_zero, List.getElem?_cons_succ, List.getElem?_nil, List.set_cons_zero, List.set_cons_succ, List.length_cons, List.length_nil, Option.join_some, Option.join_none, List.replicate_succ, List.replicate_zero, List.cons_append, List.nil_append, Option.map_some, Nat.zero_add, Nat.reduceAdd, Nat.reduceSub, Bool.not_true, Bool.not_false, if_true, if_false, Bool.false_eq_true, true_and, and_true, decide_true, decide_false, Nat.reduceLeDiff, Nat.reduceEqDiff, reduceIte, reduceCtorEq, Bool.or_false, Bool.or_true, Bool.and_true, Bool.and_false, Bool.true_and, Bool.false_and, Bool.true_or, Bool.false_or, List.map_cons, List.map_nil, List.nodup_cons, List.nodup_nil, List.mem_cons, List.not_mem_nil, not_false_eq_true, or_false, false_or]
    refine hK4 _ _ ?_
    refine ocI fun K5 hK5 => ?_
    simp only [dSeq, dIfS, dTst, dOp2, dVarO, dRes, dK, dOf, dVar, dFz, dAsg, gNm, dRet, dRetN, dExp, dCB, dOCons, dONil, dVCons, dVNil, dLst, dTup, dMove, dNext, dNot, dAnd, dOr, dIf, dAndV, dOrV, dNotV, dIsi, dNeg, dSl, dNoP, dPrt, dApp, dPop, dSetIx, dChain, dPar, dPar3, gTp, gCons', gNil', dCall, dFor, dSq, dRng1, dRng2, dEnm, dZip, dLc, dAll, dYes, dVK, dVKs, dNever, dNevE, dBreak, dCont, con, sl, frzS, isB, tuO, daO, sqO, lsO, lenO, ngO, consO, argO, varsO, wrB, untag, owL, tyS, tyD, isT, entryE, tagA, finE, backA, wipeE, backE, keepS, seqD, gAdd, gSub, gI, gMul, gMod, gIc, gDiv, gPow, gEq, isNone, gIs, gLt, gLe, gGt, gGe, gIx, gLen, gIntC, gTupC, gLstC, gRepr, gSl, gII, need_some, atI_0, atI_1, atI_2, atI_3, ixN_30, ixN_31, ixN_32, List.getElem?_cons_zero, List.getElem?_cons_succ, List.getElem?_nil, List.set_cons_zero, List.set_cons_succ, List.length_cons, List.length_nil, Option.join_some, Option.join_none, List.replicate_succ, List.replicate_zero, List.cons_append, List.nil_append, Option.map_some, Nat.zero_add, Nat.reduceAdd, Nat.reduceSub, Bool.not_true, Bool.not_false, if_true, if_false, Bool.false_eq_true, true_and, and_true, decide_true, decide_false, Nat.reduceLeDiff, Nat.reduceEqDiff, reduceIte, reduceCtorEq, Bool.or_false, Bool.or_true, Bool.and_true, Bool.and_false, Bool.true_and, Bool.false_and, Bool.true_or, Bool.false_or, List.map_cons, List.map_nil, List.nodup_cons, List.nodup_nil, List.mem_cons, List.not_mem_nil, not_false_eq_true, or_false, false_or]
    refine sp_roll _ _ _ _ _ _ hb (by omega) (by omega) (by omega) (by omega) fun du a3 c3 k4 k5 k6 k7 => ?_
    simp only [dSeq, dIfS, dTst, dOp2, dVarO, dRes, dK, dOf, dVar, dFz, dAsg, gNm, dRet, dRetN, dExp, dCB, dOCons, dONil, dVCons, dVNil, dLst, dTup, dMove, dNext, dNot, dAnd, dOr, dIf, dAndV, dOrV, dNotV, dIsi, dNeg, dSl, dNoP, dPrt, dApp, dPop, dSetIx, dChain, dPar, dPar3, gTp, gCons', gNil', dCall, dFor, dSq, dRng1, dRng2, dEnm, dZip, dLc, dAll, dYes, dVK, dVKs, dNever, dNevE, dBreak, dCont, con, sl, frzS, isB, tuO, daO, sqO, lsO, lenO, ngO, consO, argO, varsO, wrB, untag, owL, tyS, tyD, isT, entryE, tagA, finE, backA, wipeE, backE, keepS, seqD, gAdd, gSub, gI, gMul, gMod, gIc, gDiv, gPow, gEq, isNone, gIs, gLt, gLe, gGt, gGe, gIx, gLen, gIntC, gTupC, gLstC, gRepr, gSl, gII, need_some, atI_0, atI_1, atI_2, atI_3, ixN_30, ixN_31, ixN_32, List.getElem?_cons_zero, List.getElem?_cons_succ, List.getElem?_nil, List.set_cons_zero, List.set_cons_succ, List.length_cons, List.length_nil, Option.join_some, Option.join_none, List.replicate_succ, List.replicate_zero, List.cons_append, List.nil_append, Option.map_some, Nat.zero_add, Nat.reduceAdd, Nat.reduceSub, Bool.not_true, Bool.not_false, if_true, if_false, Bool.false_eq_true, true_and, and_true, decide_true, decide_false, Nat.reduceLeDiff, Nat.reduceEqDiff, reduceIte, reduceCtorEq, Bool.or_false, Bool.or_true, Bool.and_true, Bool.and_false, Bool.true_and, Bool.false_and, Bool.true_or, Bool.false_or, List.map_cons, List.map_nil, List.nodup_cons, List.nodup_nil, List.mem_cons, List.not_mem_nil, not_false_eq_true, or_false, false_or]
    refine ⟨eqOk_int, hK5 _ _ ?_⟩
    refine hK _ _ ?_
    simp only [dSeq, dIfS, dTst, dOp2, dVarO, dRes, dK, dOf, dVar, dFz, dAsg, gNm, dRet, dRetN, dExp, dCB, dOCons, dONil, dVCons, dVNil, dLst, dTup, dMove, dNext, dNot, dAnd, dOr, dIf, dAndV, dOrV, dNotV, dIsi, dNeg, dSl, dNoP, dPrt, dApp, dPop, dSetIx, dChain, dPar, dPar3, gTp, gCons', gNil', dCall, dFor, dSq, dRng1, dRng2, dEnm, dZip, dLc, dAll, dYes, dVK, dVKs, dNever, dNevE, dBreak, dCont, con, sl, frzS, isB, tuO, daO, sqO, lsO, lenO, ngO, consO, argO, varsO, wrB, untag, owL, tyS, tyD, isT, entryE, tagA, finE, backA, wipeE, backE, keepS, seqD, gAdd, gSub, gI, gMul, gMod, gIc, gDiv, gPow, gEq, isNone, gIs, gLt, gLe, gGt, gGe, gIx, gLen, gIntC, gTupC, gLstC, gRepr, gSl, gII, need_some, atI_0, atI_1, atI_2, atI_3, ixN_30, ixN_31, ixN_32, List.getElem?_cons_zero, List.getElem?_cons_succ, List.getElem?_nil, List.set_cons_zero, List.set_cons_succ, List.length_cons, List.length_nil, Option.join_some, Option.join_none, List.replicate_succ, List.replicate_zero, List.cons_append, List.nil_append, Option.map_some, Nat.zero_add, Nat.reduceAdd, Nat.reduceSub, Bool.not_true, Bool.not_false, if_true, if_false, Bool.false_eq_true, true_and, and_true, decide_true, decide_false, Nat.reduceLeDiff, Nat.reduceEqDiff, reduceIte, reduceCtorEq, Bool.or_false, Bool.or_true, Bool.and_true, Bool.and_false, Bool.true_and, Bool.false_and, Bool.true_or, Bool.false_or, List.map_cons, List.map_nil, List.nodup_cons, List.nodup_nil, List.mem_cons, List.not_mem_nil, not_false_eq_true, or_false, false_or]
    refine sp_any _ _ _ _ _ _ _ _ _ hb (by omega) (by omega) hL hL2 (by omega) (by omega) (by omega) (by omega) fun a4 c4 few j0 j1 j2 j3 => ?_
    simp only [dSeq, dIfS, dTst, dOp2, dVarO, dRes, dK, dOf, dVar, dFz, dAsg, gNm, dRet, dRetN, dExp, dCB, dOCons, dONil, dVCons, dVNil, dLst, dTup, dMove, dNext, dNot, dAnd, dOr, dIf, dAndV, dOrV, dNotV, dIsi, dNeg, dSl, dNoP, dPrt, dApp, dPop, dSetIx, dChain, dPar, dPar3, gTp, gCons', gNil', dCall, dFor, dSq, dRng1, dRng2, dEnm, dZip, dLc, dAll, dYes, dVK, dVKs, dNever, dNevE, dBreak, dCont, con, sl, frzS, isB, tuO, daO, sqO, lsO, lenO, ngO, consO, argO, varsO, wrB, untag, owL, tyS, tyD, isT, entryE, tagA, finE, backA, wipeE, backE, keepS, seqD, gAdd, gSub, gI, gMul, gMod, gIc, gDiv, gPow, gEq, isNone, gIs, gLt, gLe, gGt, gGe, gIx, gLen, gIntC, gTupC, gLstC, gRepr, gSl, gII, need_some, atI_0, atI_1, atI_2, atI_3, ixN_30, ixN_31, ixN_32, List.getElem?_cons_zero, List.getElem?_cons_succ, List.getElem?_nil, List.set_cons_zero, List.set_cons_succ, List.length_cons, List.length_nil, Option.join_some, Option.join_none, List.replicate_succ, List.replicate_zero, List.cons_append, List.nil_append, Option.map_some, Nat.zero_add, Nat.reduceAdd, Nat.reduceSub, Bool.not_true, Bool.not_false, if_true, if_false, Bool.false_eq_true, true_and, and_true, decide_true, decide_false, Nat.reduceLeDiff, Nat.reduceEqDiff, reduceIte, reduceCtorEq, Bool.or_false, Bool.or_true, Bool.and_true, Bool.and_false, Bool.true_and, Bool.false_and, Bool.true_or, Bool.false_or, List.map_cons, List.map_nil, List.nodup_cons, List.nodup_nil, List.mem_cons, List.not_mem_nil, not_false_eq_true, or_false, false_or]
    refine hV2 _ ?_
    simp only [dSeq, dIfS, dTst, dOp2, dVarO, dRes, dK, dOf, dVar, dFz, dAsg, gNm, dRet, dRetN, dExp, dCB, dOCons, dONil, dVCons, dVNil, dLst, dTup, dMove, dNext, dNot, dAnd, dOr, dIf, dAndV, dOrV, dNotV, dIsi, dNeg, dSl, dNoP, dPrt, dApp, dPop, dSetIx, dChain, dPar, dPar3, gTp, gCons', gNil', dCall, dFor, dSq, dRng1, dRng2, dEnm, dZip, dLc, dAll, dYes, dVK, dVKs, dNever, dNevE, dBreak, dCont, con, sl, frzS, isB, tuO, daO, sqO, lsO, lenO, ngO, consO, argO, varsO, wrB, untag, owL, tyS, tyD, isT, entryE, tagA, finE, backA, wipeE, backE, keepS, seqD, gAdd, gSub, gI, gMul, gMod, gIc, gDiv, gPow, gEq, isNone, gIs, gLt, gLe, gGt, gGe, gIx, gLen, gIntC, gTupC, gLstC, gRepr, gSl, gII, need_some, atI_0, atI_1, atI_2, atI_3, ixN_30, ixN_31, ixN_32, List.getElem?_cons_zero, List.getElem?_cons_succ, List.getElem?_nil, List.set_cons_zero, List.set_cons_succ, List.length_cons, List.length_nil, Option.join_some, Option.join_none, List.replicate_succ, List.replicate_zero, List.cons_append, List.nil_append, Option.map_some, Nat.zero_add, Nat.reduceAdd, Nat.reduceSub, Bool.not_true, Bool.not_false, if_true, if_false, Bool.false_eq_true, true_and, and_true, decide_true, decide_false, Nat.reduceLeDiff, Nat.reduceEqDiff, reduceIte, reduceCtorEq, Bool.or_false, Bool.or_true, Bool.and_true, Bool.and_false, Bool.true_and, Bool.false_and, Bool.true_or, Bool.false_or, List.map_cons, List.map_nil, List.nodup_cons, List.nodup_nil, List.mem_cons, List.not_mem_nil, not_false_eq_true, or_false, false_or]
    have e1 : (few.length : Int) = 1 + fw := by omega
    refine sp_blown _ _ _ A _ L.toNat _ _ _ hb (by omega) (by omega) (by omega) hS2 (by omega) (by omega) (fun r hr => by rw [e1]; exact j3 r hr) fun a5 c5 rows i0 i1 i2 i3 => ?_
    simp only [dSeq, dIfS, dTst, dOp2, dVarO, dRes, dK, dOf, dVar, dFz, dAsg, gNm, dRet, dRetN, dExp, dCB, dOCons, dONil, dVCons, dVNil, dLst, dTup, dMove, dNext, dNot, dAnd, dOr, dIf, dAndV, dOrV, dNotV, dIsi, dNeg, dSl, dNoP, dPrt, dApp, dPop, dSetIx, dChain, dPar, dPar3, gTp, gCons', gNil', dCall, dFor, dSq, dRng1, dRng2, dEnm, dZip, dLc, dAll, dYes, dVK, dVKs, dNever, dNevE, dBreak, dCont, con, sl, frzS, isB, tuO, daO, sqO, lsO, lenO, ngO, consO, argO, varsO, wrB, untag, owL, tyS, tyD, isT, entryE, tagA, finE, backA, wipeE, backE, keepS, seqD, gAdd, gSub, gI, gMul, gMod, gIc, gDiv, gPow, gEq, isNone, gIs, gLt, gLe, gGt, gGe, gIx, gLen, gIntC, gTupC, gLstC, gRepr, gSl, gII, need_some, atI_0, atI_1, atI_2, atI_3, ixN_30, ixN_31, ixN_32, List.getElem?_cons_zero, List.getElem?_cons_succ, List.getElem?_nil, List.set_cons_zero, List.set_cons_succ, List.length_cons, List.length_nil, Option.join_some, Option.join_none, List.replicate_succ, List.replicate_zero, List.cons_append, List.nil_append, Option.map_some, Nat.zero_add, Nat.reduceAdd, Nat.reduceSub, Bool.not_true, Bool.not_false, if_true, if_false, Bool.false_eq_true, true_and, and_true, decide_true, decide_false, Nat.reduceLeDiff, Nat.reduceEqDiff, reduceIte, reduceCtorEq, Bool.or_false, Bool.or_true, Bool.and_true, Bool.and_false, Bool.true_and, Bool.false_and, Bool.true_or, Bool.false_or, List.map_cons, List.map_nil, List.nodup_cons, List.nodup_nil, List.mem_cons, List.not_mem_nil, not_false_eq_true, or_false, false_or]
    exact h _ _ _ (by omega) (by omega) i2 i3
end DV

set_option Elab.async false
set_option linter.all false
set_option maxRecDepth 100000
set_option maxHeartbeats 4000000
namespace DV
open PySem PySem.Spec PyProof.Rows L2
theorem sp_machine_of (a b c L A S : Int) (Q : Slot → List Slot → Prop) (X : Value → Prop) (hb : b.natAbs < 2 ^ 128) (hc : 0 ≤ c) (hc2 : c < 2 ^ 38) (hL : 1 ≤ L) (hL2 : L ≤ 3) (hS : 0 < S) (hS2 : S ≤ 12) (hA : 2 ≤ A) (hA2 : A ≤ 9)
    (h : ∀ a' c' rows, c ≤ c' → c' ≤ c + 300 → rows.length = S.toNat → (∀ r ∈ rows, RowD L.toNat S A r) → Q (.val (.tuple [.int L, .int A, .tuple rows])) [uS a' b c', .val (.tuple [.int L, .int A]), .val (.int S)]) :
    fs__law_machine_of [uS a b c, .val (.tuple [.int L, .int A]), .val (.int S)] Q X := by
  refine ⟨rfl, ?_⟩
  unfold w__law_machine_of
  simp only [dSeq, dIfS, dTst, dOp2, dVarO, dRes, dK, dOf, dVar, dFz, dAsg, gNm, dRet, dRetN, dExp, dCB, dOCons, dONil, dVCons, dVNil, dLst, dTup, dMove, dNext, dNot, dAnd, dOr, dIf, dAndV, dOrV, dNotV, dIsi, dNeg, dSl, dNoP, dPrt, dApp, dPop, dSetIx, dChain, dPar, dPar3, gTp, gCons', gNil', dCall, dFor, dSq, dRng1, dRng2, dEnm, dZip, dLc, dAll, dYes, dVK, dVKs, dNever, dNevE, dBreak, dCont, con, sl, frzS, isB, tuO, daO, sqO, lsO, lenO, ngO, consO, argO, varsO, wrB, untag, owL, tyS, tyD, isT, entryE, tagA, finE, backA, wipeE, backE, keepS, seqD, gAdd, gSub, gI, gMul, gMod, gIc, gDiv, gPow, gEq, isNone, gIs, gLt, gLe, gGt, gGe, gIx, gLen, gIntC, gTupC, gLstC, gRepr, gSl, gII, need_some, atI_0, atI_1, atI_2, atI_3, ixN_30, ixN_31, ixN_32, List.getElem?_cons_zero, List.getElem?_cons_succ, List.getElem?_nil, List.set_cons_zero, List.set_cons_succ, List.length_cons, List.length_nil, Option.join_some, Option.join_none, List.replicate_succ, List.replicate_zero, List.cons_append, List.nil_append, Option.map_some, Nat.zero_add, Nat.reduceAdd, Nat.reduceSub, Bool.not_true, Bool.not_false, if_true, if_false, Bool.false_eq_true, true_and, and_true, decide_true, decide_false, Nat.reduceLeDiff, Nat.reduceEqDiff, reduceIte, reduceCtorEq, Bool.or_false, Bool.or_true, Bool.and_true, Bool.and_false, Bool.true_and, Bool.false_and, Bool.true_or, Bool.false_or, List.map_cons, List.map_nil, List.nodup_cons, List.nodup_nil, List.mem_cons, List.not_mem_nil, not_false_eq_true, or_false, false_or]
  refine sp_rows _ _ _ _ _ _ _ _ hb hc (by omega) hL hL2 hS hS2 hA hA2 fun a' c' rows k1 k2 k3 k4 => ?_
  simp only [dSeq, dIfS, dTst, dOp2, dVarO, dRes, dK, dOf, dVar, dFz, dAsg, gNm, dRet, dRetN, dExp, dCB, dOCons, dONil, dVCons, dVNil, dLst, dTup, dMove, dNext, dNot, dAnd, dOr, dIf, dAndV, dOrV, dNotV, dIsi, dNeg, dSl, dNoP, dPrt, dApp, dPop, dSetIx, dChain, dPar, dPar3, gTp, gCons', gNil', dCall, dFor, dSq, dRng1, dRng2, dEnm, dZip, dLc, dAll, dYes, dVK, dVKs, dNever, dNevE, dBreak, dCont, con, sl, frzS, isB, tuO, daO, sqO, lsO, lenO, ngO, consO, argO, varsO, wrB, untag, owL, tyS, tyD, isT, entryE, tagA, finE, backA, wipeE, backE, keepS, seqD, gAdd, gSub, gI, gMul, gMod, gIc, gDiv, gPow, gEq, isNone, gIs, gLt, gLe, gGt, gGe, gIx, gLen, gIntC, gTupC, gLstC, gRepr, gSl, gII, need_some, atI_0, atI_1, atI_2, atI_3, ixN_30, ixN_31, ixN_32, List.getElem?_cons_zero, List.getElem?_cons_succ, List.getElem?_nil, List.set_cons_zero, List.set_cons_succ, List.length_cons, List.length_nil, Option.join_some, Option.join_none, List.replicate_succ, List.replicate_zero, List.cons_append, List.nil_append, Option.map_some, Nat.zero_add, Nat.reduceAdd, Nat.reduceSub, Bool.not_true, Bool.not_false, if_true, if_false, Bool.false_eq_true, true_and, and_true, decide_true, decide_false, Nat.reduceLeDiff, Nat.reduceEqDiff, reduceIte, reduceCtorEq, Bool.or_false, Bool.or_true, Bool.and_true, Bool.and_false, Bool.true_and, Bool.false_and, Bool.true_or, Bool.false_or, List.map_cons, List.map_nil, List.nodup_cons, List.nodup_nil, List.mem_cons, List.not_mem_nil, not_false_eq_true, or_false, false_or]
  exact ⟨sz3, h _ _ _ k1 k2 k3 k4⟩
/-- a machine: letters, answers, rows -/
def MachD (L A : Int) (rows : List D) : Prop := 1 ≤ L ∧ L ≤ 3 ∧ 2 ≤ A ∧ A ≤ 9 ∧ 1 ≤ rows.length ∧ rows.length ≤ 12 ∧ ∀ r ∈ rows, RowD L.toNat rows.length A r
theorem sp_machine (a b c : Int) (Q : Slot → List Slot → Prop) (X : Value → Prop) (hb : b.natAbs < 2 ^ 128) (hc : 0 ≤ c) (hc2 : c < 2 ^ 37)
    (h : ∀ a' c' L A rows, c ≤ c' → c' ≤ c + 310 → MachD L A rows → Q (.val (.tuple [.int L, .int A, .tuple rows])) [uS a' b c', .val (.int 12)]) :
    fs__law_machine [uS a b c, .val (.int 12)] Q X := by
  refine ⟨rfl, ?_⟩
  unfold w__law_machine
  refine retI ?_
  refine callI fun K hK => ?_
  refine ocI fun K1 hK1 => need_in rfl (hK1 _ _ ?_)
  refine ocI fun K2 hK2 => ?_
  simp only [dSeq, dIfS, dTst, dOp2, dVarO, dRes, dK, dOf, dVar, dFz, dAsg, gNm, dRet, dRetN, dExp, dCB, dOCons, dONil, dVCons, dVNil, dLst, dTup, dMove, dNext, dNot, dAnd, dOr, dIf, dAndV, dOrV, dNotV, dIsi, dNeg, dSl, dNoP, dPrt, dApp, dPop, dSetIx, dChain, dPar, dPar3, gTp, gCons', gNil', dCall, dFor, dSq, dRng1, dRng2, dEnm, dZip, dLc, dAll, dYes, dVK, dVKs, dNever, dNevE, dBreak, dCont, con, sl, frzS, isB, tuO, daO, sqO, lsO, lenO, ngO, consO, argO, varsO, wrB, untag, owL, tyS, tyD, isT, entryE, tagA, finE, backA, wipeE, backE, keepS, seqD, gAdd, gSub, gI, gMul, gMod, gIc, gDiv, gPow, gEq, isNone, gIs, gLt, gLe, gGt, gGe, gIx, gLen, gIntC, gTupC, gLstC, gRepr, gSl, gII, need_some, atI_0, atI_1, atI_2, atI_3, ixN_30, ixN_31, ixN_32, List.getElem?_cons_zero, List.getElem?_cons_succ, List.getElem?_nil, List.set_cons_zero, List.set_cons_succ, List.length_cons, List.length_nil, Option.join_some, Option.join_none, List.replicate_succ, List.replicate_zero, List.cons_append, List.nil_append, Option.map_some, Nat.zero_add, Nat.reduceAdd, Nat.reduceSub, Bool.not_true, Bool.not_false, if_true, if_false, Bool.false_eq_true, true_and, and_true, decide_true, decide_false, Nat.reduceLeDiff, Nat.reduceEqDiff, reduceIte, reduceCtorEq, Bool.or_false, Bool.or_true, Bool.and_true, Bool.and_false, Bool.true_and, Bool.false_and, Bool.true_or, Bool.false_or, List.map_cons, List.map_nil, List.nodup_cons, List.nodup_nil, List.mem_cons, List.not_mem_nil, not_false_eq_true, or_false, false_or]
  refine sp_small _ _ _ _ _ hb hc (by omega) fun L A a1 c1 l1 l2 l3 l4 k1 k2 => ?_
  simp only [dSeq, dIfS, dTst, dOp2, dVarO, dRes, dK, dOf, dVar, dFz, dAsg, gNm, dRet, dRetN, dExp, dCB, dOCons, dONil, dVCons, dVNil, dLst, dTup, dMove, dNext, dNot, dAnd, dOr, dIf, dAndV, dOrV, dNotV, dIsi, dNeg, dSl, dNoP, dPrt, dApp, dPop, dSetIx, dChain, dPar, dPar3, gTp, gCons', gNil', dCall, dFor, dSq, dRng1, dRng2, dEnm, dZip, dLc, dAll, dYes, dVK, dVKs, dNever, dNevE, dBreak, dCont, con, sl, frzS, isB, tuO, daO, sqO, lsO, lenO, ngO, consO, argO, varsO, wrB, untag, owL, tyS, tyD, isT, entryE, tagA, finE, backA, wipeE, backE, keepS, seqD, gAdd, gSub, gI, gMul, gMod, gIc, gDiv, gPow, gEq, isNone, gIs, gLt, gLe, gGt, gGe, gIx, gLen, gIntC, gTupC, gLstC, gRepr, gSl, gII, need_some, atI_0, atI_1, atI_2, atI_3, ixN_30, ixN_31, ixN_32, List.getElem?_cons_zero, List.getElem?_cons_succ, List.getElem?_nil, List.set_cons_zero, List.set_cons_succ, List.length_cons, List.length_nil, Option.join_some, Option.join_none, List.replicate_succ, List.replicate_zero, List.cons_append, List.nil_append, Option.map_some, Nat.zero_add, Nat.reduceAdd, Nat.reduceSub, Bool.not_true, Bool.not_false, if_true, if_false, Bool.false_eq_true, true_and, and_true, decide_true, decide_false, Nat.reduceLeDiff, Nat.reduceEqDiff, reduceIte, reduceCtorEq, Bool.or_false, Bool.or_true, Bool.and_true, Bool.and_false, Bool.true_and, Bool.false_and, Bool.true_or, Bool.false_or, List.map_cons, List.map_nil, List.nodup_cons, List.nodup_nil, List.mem_cons, List.not_mem_nil, not_false_eq_true, or_false, false_or]
  refine hK2 _ _ ?_
  refine ocI fun K3 hK3 => ?_
  simp only [dSeq, dIfS, dTst, dOp2, dVarO, dRes, dK, dOf, dVar, dFz, dAsg, gNm, dRet, dRetN, dExp, dCB, dOCons, dONil, dVCons, dVNil, dLst, dTup, dMove, dNext, dNot, dAnd, dOr, dIf, dAndV, dOrV, dNotV, dIsi, dNeg, dSl, dNoP, dPrt, dApp, dPop, dSetIx, dChain, dPar, dPar3, gTp, gCons', gNil', dCall, dFor, dSq, dRng1, dRng2, dEnm, dZip, dLc, dAll, dYes, dVK, dVKs, dNever, dNevE, dBreak, dCont, con, sl, frzS, isB, tuO, daO, sqO, lsO, lenO, ngO, consO, argO, varsO, wrB, untag, owL, tyS, tyD, isT, entryE, tagA, finE, backA, wipeE, backE, keepS, seqD, gAdd, gSub, gI, gMul, gMod, gIc, gDiv, gPow, gEq, isNone, gIs, gLt, gLe, gGt, gGe, gIx, gLen, gIntC, gTupC, gLstC, gRepr, gSl, gII, need_some, atI_0, atI_1, atI_2, atI_3, ixN_30, ixN_31, ixN_32, List.getElem?_cons_zero, List.getElem?_cons_succ, List.getElem?_nil, List.set_cons_zero, List.set_cons_succ, List.length_cons, List.length_nil, Option.join_some, Option.join_none, List.replicate_succ, List.replicate_zero, List.cons_append, List.nil_append, Option.map_some, Nat.zero_add, Nat.reduceAdd, Nat.reduceSub, Bool.not_true, Bool.not_false, if_true, if_false, Bool.false_eq_true, true_and, and_true, decide_true, decide_false, Nat.reduceLeDiff, Nat.reduceEqDiff, reduceIte, reduceCtorEq, Bool.or_false, Bool.or_true, Bool.and_true, Bool.and_false, Bool.true_and, Bool.false_and, Bool.true_or, Bool.false_or, List.map_cons, List.map_nil, List.nodup_cons, List.nodup_nil, List.mem_cons, List.not_mem_nil, not_false_eq_true, or_false, false_or]
  refine sp_roll _ _ _ _ _ _ hb (by omega) (by omega) (by omega) (by omega) fun r a2 c2 g0 g1 g2 g3 => ?_
  simp only [dSeq, dIfS, dTst, dOp2, dVarO, dRes, dK, dOf, dVar, dFz, dAsg, gNm, dRet, dRetN, dExp, dCB, dOCons, dONil, dVCons, dVNil, dLst, dTup, dMove, dNext, dNot, dAnd, dOr, dIf, dAndV, dOrV, dNotV, dIsi, dNeg, dSl, dNoP, dPrt, dApp, dPop, dSetIx, dChain, dPar, dPar3, gTp, gCons', gNil', dCall, dFor, dSq, dRng1, dRng2, dEnm, dZip, dLc, dAll, dYes, dVK, dVKs, dNever, dNevE, dBreak, dCont, con, sl, frzS, isB, tuO, daO, sqO, lsO, lenO, ngO, consO, argO, varsO, wrB, untag, owL, tyS, tyD, isT, entryE, tagA, finE, backA, wipeE, backE, keepS, seqD, gAdd, gSub, gI, gMul, gMod, gIc, gDiv, gPow, gEq, isNone, gIs, gLt, gLe, gGt, gGe, gIx, gLen, gIntC, gTupC, gLstC, gRepr, gSl, gII, need_some, atI_0, atI_1, atI_2, atI_3, ixN_30, ixN_31, ixN_32, List.getElem?_cons_zero, List.getElem?_cons_succ, List.getElem?_nil, List.set_cons_zero, List.set_cons_succ, List.length_cons, List.length_nil, Option.join_some, Option.join_none, List.replicate_succ, List.replicate_zero, List.cons_append, List.nil_append, Option.map_some, Nat.zero_add, Nat.reduceAdd, Nat.reduceSub, Bool.not_true, Bool.not_false, if_true, if_false, Bool.false_eq_true, true_and, and_true, decide_true, decide_false, Nat.reduceLeDiff, Nat.reduceEqDiff, reduceIte, reduceCtorEq, Bool.or_false, Bool.or_true, Bool.and_true, Bool.and_false, Bool.true_and, Bool.false_and, Bool.true_or, Bool.false_or, List.map_cons, List.map_nil, List.nodup_cons, List.nodup_nil, List.mem_cons, List.not_mem_nil, not_false_eq_true, or_false, false_or]
  refine hK3 _ _ (hK _ _ ?_)
  simp only [dSeq, dIfS, dTst, dOp2, dVarO, dRes, dK, dOf, dVar, dFz, dAsg, gNm, dRet, dRetN, dExp, dCB, dOCons, dONil, dVCons, dVNil, dLst, dTup, dMove, dNext, dNot, dAnd, dOr, dIf, dAndV, dOrV, dNotV, dIsi, dNeg, dSl, dNoP, dPrt, dApp, dPop, dSetIx, dChain, dPar, dPar3, gTp, gCons', gNil', dCall, dFor, dSq, dRng1, dRng2, dEnm, dZip, dLc, dAll, dYes, dVK, dVKs, dNever, dNevE, dBreak, dCont, con, sl, frzS, isB, tuO, daO, sqO, lsO, lenO, ngO, consO, argO, varsO, wrB, untag, owL, tyS, tyD, isT, entryE, tagA, finE, backA, wipeE, backE, keepS, seqD, gAdd, gSub, gI, gMul, gMod, gIc, gDiv, gPow, gEq, isNone, gIs, gLt, gLe, gGt, gGe, gIx, gLen, gIntC, gTupC, gLstC, gRepr, gSl, gII, need_some, atI_0, atI_1, atI_2, atI_3, ixN_30, ixN_31, ixN_32, List.getElem?_cons_zero, List.getElem?_cons_succ, List.getElem?_nil, List.set_cons_zero, List.set_cons_succ, List.length_cons, List.length_nil, Option.join_some, Option.join_none, List.replicate_succ, List.replicate_zero, List.cons_append, List.nil_append, Option.map_some, Nat.zero_add, Nat.reduceAdd, Nat.reduceSub, Bool.not_true, Bool.not_false, if_true, if_false, Bool.false_eq_true, true_and, and_true, decide_true, decide_false, Nat.reduceLeDiff, Nat.reduceEqDiff, reduceIte, reduceCtorEq, Bool.or_false, Bool.or_true, Bool.and_true, Bool.and_false, Bool.true_and, Bool.false_and, Bool.true_or, Bool.false_or, List.map_cons, List.map_nil, List.nodup_cons, List.nodup_nil, List.mem_cons, List.not_mem_nil, not_false_eq_true, or_false, false_or]
  refine sp_machine_of _ _ _ _ _ _ _ _ hb (by omega) (by omega) l1 l2 (by omega) (by omega) l3 l4 fun a3 c3 rows j1 j2 j3 j4 => ?_
  simp only [dSeq, dIfS, dTst, dOp2, dVarO, dRes, dK, dOf, dVar, dFz, dAsg, gNm, dRet, dRetN, dExp, dCB, dOCons, dONil, dVCons, dVNil, dLst, dTup, dMove, dNext, dNot, dAnd, dOr, dIf, dAndV, dOrV, dNotV, dIsi, dNeg, dSl, dNoP, dPrt, dApp, dPop, dSetIx, dChain, dPar, dPar3, gTp, gCons', gNil', dCall, dFor, dSq, dRng1, dRng2, dEnm, dZip, dLc, dAll, dYes, dVK, dVKs, dNever, dNevE, dBreak, dCont, con, sl, frzS, isB, tuO, daO, sqO, lsO, lenO, ngO, consO, argO, varsO, wrB, untag, owL, tyS, tyD, isT, entryE, tagA, finE, backA, wipeE, backE, keepS, seqD, gAdd, gSub, gI, gMul, gMod, gIc, gDiv, gPow, gEq, isNone, gIs, gLt, gLe, gGt, gGe, gIx, gLen, gIntC, gTupC, gLstC, gRepr, gSl, gII, need_some, atI_0, atI_1, atI_2, atI_3, ixN_30, ixN_31, ixN_32, List.getElem?_cons_zero, List.getElem?_cons_succ, List.getElem?_nil, List.set_cons_zero, List.set_cons_succ, List.length_cons, List.length_nil, Option.join_some, Option.join_none, List.replicate_succ, List.replicate_zero, List.cons_append, List.nil_append, Option.map_some, Nat.zero_add, Nat.reduceAdd, Nat.reduceSub, Bool.not_true, Bool.not_false, if_true, if_false, Bool.false_eq_true, true_and, and_true, decide_true, decide_false, Nat.reduceLeDiff, Nat.reduceEqDiff, reduceIte, reduceCtorEq, Bool.or_false, Bool.or_true, Bool.and_true, Bool.and_false, Bool.true_and, Bool.false_and, Bool.true_or, Bool.false_or, List.map_cons, List.map_nil, List.nodup_cons, List.nodup_nil, List.mem_cons, List.not_mem_nil, not_false_eq_true, or_false, false_or]
  have e : (1 + r : Int) = rows.length := by omega
  rw [e] at j4
  exact h _ _ _ _ _ (by omega) (by omega) ⟨l1, l2, l3, l4, by omega, by omega, j4⟩
/-! holes -/
def EntN (S A : Int) (e : D) : Prop := e = .none ∨ EntD S A e
def RowN (n : Nat) (S A : Int) (r : D) : Prop := ∃ es, r = .tuple es ∧ es.length = n ∧ ∀ e ∈ es, EntN S A e
def SkD (L A : Int) (rows : List D) : Prop := 1 ≤ L ∧ L ≤ 3 ∧ 2 ≤ A ∧ A ≤ 9 ∧ 1 ≤ rows.length ∧ rows.length ≤ 12 ∧ ∀ r ∈ rows, RowN L.toNat rows.length A r
theorem MachD.sk {L A : Int} {rows : List D} (h : MachD L A rows) : SkD L A rows := ⟨h.1, h.2.1, h.2.2.1, h.2.2.2.1, h.2.2.2.2.1, h.2.2.2.2.2.1, fun r hr => by
  obtain ⟨es, e, l, k⟩ := h.2.2.2.2.2.2 r hr
  exact ⟨es, e, l, fun x hx => .inr (k x hx)⟩⟩
theorem gaps_in (S A of : Int) (ho : 0 < of) (ho2 : of < 1000) (x1 x3 x4 : Option Slot) (b : Int) (hb : b.natAbs < 2 ^ 128) : ∀ (ds : List D) (a c : Int) (x5 : Option Slot) (Q : List D → En → Prop), (∀ d ∈ ds, EntD S A d) → 0 ≤ c → c + ds.length < 2 ^ 40 →
    (∀ ys a' c' x5', ys.length = ds.length → (∀ y ∈ ys, EntN S A y) → c ≤ c' → c' ≤ c + ds.length → Q ys [uE a' b c', x1, some (.val (.int of)), x3, x4, x5']) →
    dLcL (gNm 5) dYes w__law_gaps_e1 [5] ds [uE a b c, x1, some (.val (.int of)), x3, x4, x5] Q := by
  intro ds
  induction ds with
  | nil =>
    intro a c x5 Q hd h0 h1 h
    simp only [dLcL]
    exact h [] _ _ _ rfl (fun y hy => by simp at hy) (by omega) (by simp)
  | cons d ds ih =>
    intro a c x5 Q hd h0 h1 h
    simp only [List.length_cons] at h1 h
    simp only [dLcL]
    have next : ∀ a' c' y, c ≤ c' → c' ≤ c + 1 → EntN S A y → dLcL (gNm 5) dYes w__law_gaps_e1 [5] ds [uE a' b c', x1, some (.val (.int of)), x3, x4, some (.val d)] fun ys e => Q (y :: ys) e := fun a' c' y q1 q2 q3 =>
      ih _ _ _ _ (fun e he => hd e (by simp [he])) (by omega) (by omega) fun ys a2 c2 x5' k1 k2 k3 k4 => h _ _ _ _ (by simp [k1]) (fun z hz => by
        rcases List.mem_cons.mp hz with rfl | hz
        · exact q3
        · exact k2 z hz) (by omega) (by omega)
    unfold w__law_gaps_e1 at next ⊢
    simp only [dSeq, dIfS, dTst, dOp2, dVarO, dRes, dK, dOf, dVar, dFz, dAsg, gNm, dRet, dRetN, dExp, dCB, dOCons, dONil, dVCons, dVNil, dLst, dTup, dMove, dNext, dNot, dAnd, dOr, dIf, dAndV, dOrV, dNotV, dIsi, dNeg, dSl, dNoP, dPrt, dApp, dPop, dSetIx, dChain, dPar, dPar3, gTp, gCons', gNil', dCall, dFor, dSq, dRng1, dRng2, dEnm, dZip, dLc, dAll, dYes, dVK, dVKs, dNever, dNevE, dBreak, dCont, con, sl, frzS, isB, tuO, daO, sqO, lsO, lenO, ngO, consO, argO, varsO, wrB, untag, owL, tyS, tyD, isT, entryE, tagA, finE, backA, wipeE, backE, keepS, seqD, gAdd, gSub, gI, gMul, gMod, gIc, gDiv, gPow, gEq, isNone, gIs, gLt, gLe, gGt, gGe, gIx, gLen, gIntC, gTupC, gLstC, gRepr, gSl, gII, need_some, atI_0, atI_1, atI_2, atI_3, ixN_30, ixN_31, ixN_32, List.getElem?_cons_zero, List.getElem?_cons_succ, List.getElem?_nil, List.set_cons_zero, List.set_cons_succ, List.length_cons, List.length_nil, Option.join_some, Option.join_none, List.replicate_succ, List.replicate_zero, List.cons_append, List.nil_append, Option.map_some, Nat.zero_add, Nat.reduceAdd, Nat.reduceSub, Bool.not_true, Bool.not_false, if_true, if_false, Bool.false_eq_true, true_and, and_true, decide_true, decide_false, Nat.reduceLeDiff, Nat.reduceEqDiff, reduceIte, reduceCtorEq, Bool.or_false, Bool.or_true, Bool.and_true, Bool.and_false, Bool.true_and, Bool.false_and, Bool.true_or, Bool.false_or, List.map_cons, List.map_nil, List.nodup_cons, List.nodup_nil, List.mem_cons, List.not_mem_nil, not_false_eq_true, or_false, false_or]
    refine sp_roll _ _ _ _ _ _ hb h0 (by omega) ho (by omega) fun r a2 c2 g0 g1 g2 g3 => ?_
    simp only [dSeq, dIfS, dTst, dOp2, dVarO, dRes, dK, dOf, dVar, dFz, dAsg, gNm, dRet, dRetN, dExp, dCB, dOCons, dONil, dVCons, dVNil, dLst, dTup, dMove, dNext, dNot, dAnd, dOr, dIf, dAndV, dOrV, dNotV, dIsi, dNeg, dSl, dNoP, dPrt, dApp, dPop, dSetIx, dChain, dPar, dPar3, gTp, gCons', gNil', dCall, dFor, dSq, dRng1, dRng2, dEnm, dZip, dLc, dAll, dYes, dVK, dVKs, dNever, dNevE, dBreak, dCont, con, sl, frzS, isB, tuO, daO, sqO, lsO, lenO, ngO, consO, argO, varsO, wrB, untag, owL, tyS, tyD, isT, entryE, tagA, finE, backA, wipeE, backE, keepS, seqD, gAdd, gSub, gI, gMul, gMod, gIc, gDiv, gPow, gEq, isNone, gIs, gLt, gLe, gGt, gGe, gIx, gLen, gIntC, gTupC, gLstC, gRepr, gSl, gII, need_some, atI_0, atI_1, atI_2, atI_3, ixN_30, ixN_31, ixN_32, List.getElem?_cons_zero, List.getElem?_cons_succ, List.getElem?_nil, List.set_cons_zero, List.set_cons_succ, List.length_cons, List.length_nil, Option.join_some, Option.join_none, List.replicate_succ, List.replicate_zero, List.cons_append, List.nil_append, Option.map_some, Nat.zero_add, Nat.reduceAdd, Nat.reduceSub, Bool.not_true, Bool.not_false, if_true, if_false, Bool.false_eq_true, true_and, and_true, decide_true, decide_false, Nat.reduceLeDiff, Nat.reduceEqDiff, reduceIte, reduceCtorEq, Bool.or_false, Bool.or_true, Bool.and_true, Bool.and_false, Bool.true_and, Bool.false_and, Bool.true_or, Bool.false_or, List.map_cons, List.map_nil, List.nodup_cons, List.nodup_nil, List.mem_cons, List.not_mem_nil, not_false_eq_true, or_false, false_or]
    exact ⟨eqOk_int, br (fun _ => next _ _ _ g2 g3 (.inl rfl)) fun _ => next _ _ _ g2 g3 (.inr (hd d (by simp)))⟩
end DV

set_option Elab.async false
set_option linter.all false
set_option maxRecDepth 100000
set_option maxHeartbeats 4000000
namespace DV
open PySem PySem.Spec PyProof.Rows L2
theorem gaps_out (L A of : Int) (n : Nat) (rows0 : List D) (hL : 1 ≤ L) (hL2 : L ≤ 3) (hA : 2 ≤ A) (ho : 0 < of) (ho2 : of < 1000) (b : Int) (hb : b.natAbs < 2 ^ 128) : ∀ (ds : List D) (a c : Int) (rows : List D) (x4 x5 : Option Slot) (D : DEnds), (∀ r ∈ ds, RowD L.toNat n A r) → 0 ≤ c → c + 3 * ds.length < 2 ^ 40 → rows.length + ds.length < 1000 →
    (∀ r ∈ rows, RowN L.toNat n A r) → (∀ a' c' rows' x4' x5', c ≤ c' → c' ≤ c + 3 * ds.length → rows'.length = rows.length + ds.length → (∀ r ∈ rows', RowN L.toNat n A r) →
      D.nx [uE a' b c', some (.val (.tuple [.int L, .int A, .tuple rows0])), some (.val (.int of)), some (.own none (.lst rows')), x4', x5']) →
    dForL (gNm 4) w__law_gaps_b1 ds [uE a b c, some (.val (.tuple [.int L, .int A, .tuple rows0])), some (.val (.int of)), some (.own none (.lst rows)), x4, x5] D := by
  intro ds
  induction ds with
  | nil =>
    intro a c rows x4 x5 D hd h0 h1 h2 h3 h
    simp only [dForL]
    exact h _ _ _ _ _ (by omega) (by simp) (by simp) h3
  | cons d ds ih =>
    intro a c rows x4 x5 D hd h0 h1 h2 h3 h
    simp only [List.length_cons] at h1 h2 h
    obtain ⟨es, rfl, hl, he⟩ := hd d (by simp)
    simp only [dForL]
    have next : ∀ a' c' r x4 x5, c ≤ c' → c' ≤ c + 3 → RowN L.toNat n A r → dForL (gNm 4) w__law_gaps_b1 ds [uE a' b c', some (.val (.tuple [.int L, .int A, .tuple rows0])), some (.val (.int of)), some (.own none (.lst (rows ++ [r]))), x4, x5] D := fun a' c' r x4 x5 q1 q2 q3 =>
      ih _ _ _ _ _ _ (fun e he => hd e (by simp [he])) (by omega) (by omega) (by simp; omega) (mem_snoc h3 q3) fun a4 c4 row' y4 y5 g1 g2 g3 g4 => h _ _ _ _ _ (by omega) (by omega) (by rw [g3]; simp; omega) g4
    unfold w__law_gaps_b1 at next ⊢
    simp only [dSeq, dIfS, dTst, dOp2, dVarO, dRes, dK, dOf, dVar, dFz, dAsg, gNm, dRet, dRetN, dExp, dCB, dOCons, dONil, dVCons, dVNil, dLst, dTup, dMove, dNext, dNot, dAnd, dOr, dIf, dAndV, dOrV, dNotV, dIsi, dNeg, dSl, dNoP, dPrt, dApp, dPop, dSetIx, dChain, dPar, dPar3, gTp, gCons', gNil', dCall, dFor, dSq, dRng1, dRng2, dEnm, dZip, dLc, dAll, dYes, dVK, dVKs, dNever, dNevE, dBreak, dCont, con, sl, frzS, isB, tuO, daO, sqO, lsO, lenO, ngO, consO, argO, varsO, wrB, untag, owL, tyS, tyD, isT, entryE, tagA, finE, backA, wipeE, backE, keepS, seqD, gAdd, gSub, gI, gMul, gMod, gIc, gDiv, gPow, gEq, isNone, gIs, gLt, gLe, gGt, gGe, gIx, gLen, gIntC, gTupC, gLstC, gRepr, gSl, gII, need_some, atI_0, atI_1, atI_2, atI_3, ixN_30, ixN_31, ixN_32, List.getElem?_cons_zero, List.getElem?_cons_succ, List.getElem?_nil, List.set_cons_zero, List.set_cons_succ, List.length_cons, List.length_nil, Option.join_some, Option.join_none, List.replicate_succ, List.replicate_zero, List.cons_append, List.nil_append, Option.map_some, Nat.zero_add, Nat.reduceAdd, Nat.reduceSub, Bool.not_true, Bool.not_false, if_true, if_false, Bool.false_eq_true, true_and, and_true, decide_true, decide_false, Nat.reduceLeDiff, Nat.reduceEqDiff, reduceIte, reduceCtorEq, Bool.or_false, Bool.or_true, Bool.and_true, Bool.and_false, Bool.true_and, Bool.false_and, Bool.true_or, Bool.false_or, List.map_cons, List.map_nil, List.nodup_cons, List.nodup_nil, List.mem_cons, List.not_mem_nil, not_false_eq_true, or_false, false_or]
    refine ⟨Nat.le_of_lt (szlt (by omega)), ?_⟩
    refine gaps_in n A of ho ho2 _ _ _ b hb es a c _ _ he h0 (by omega) fun ys a2 c2 x5' k1 k2 k3 k4 => ?_
    simp only [dSeq, dIfS, dTst, dOp2, dVarO, dRes, dK, dOf, dVar, dFz, dAsg, gNm, dRet, dRetN, dExp, dCB, dOCons, dONil, dVCons, dVNil, dLst, dTup, dMove, dNext, dNot, dAnd, dOr, dIf, dAndV, dOrV, dNotV, dIsi, dNeg, dSl, dNoP, dPrt, dApp, dPop, dSetIx, dChain, dPar, dPar3, gTp, gCons', gNil', dCall, dFor, dSq, dRng1, dRng2, dEnm, dZip, dLc, dAll, dYes, dVK, dVKs, dNever, dNevE, dBreak, dCont, con, sl, frzS, isB, tuO, daO, sqO, lsO, lenO, ngO, consO, argO, varsO, wrB, untag, owL, tyS, tyD, isT, entryE, tagA, finE, backA, wipeE, backE, keepS, seqD, gAdd, gSub, gI, gMul, gMod, gIc, gDiv, gPow, gEq, isNone, gIs, gLt, gLe, gGt, gGe, gIx, gLen, gIntC, gTupC, gLstC, gRepr, gSl, gII, need_some, atI_0, atI_1, atI_2, atI_3, ixN_30, ixN_31, ixN_32, List.getElem?_cons_zero, List.getElem?_cons_succ, List.getElem?_nil, List.set_cons_zero, List.set_cons_succ, List.length_cons, List.length_nil, Option.join_some, Option.join_none, List.replicate_succ, List.replicate_zero, List.cons_append, List.nil_append, Option.map_some, Nat.zero_add, Nat.reduceAdd, Nat.reduceSub, Bool.not_true, Bool.not_false, if_true, if_false, Bool.false_eq_true, true_and, and_true, decide_true, decide_false, Nat.reduceLeDiff, Nat.reduceEqDiff, reduceIte, reduceCtorEq, Bool.or_false, Bool.or_true, Bool.and_true, Bool.and_false, Bool.true_and, Bool.false_and, Bool.true_or, Bool.false_or, List.map_cons, List.map_nil, List.nodup_cons, List.nodup_nil, List.mem_cons, List.not_mem_nil, not_false_eq_true, or_false, false_or]
    exact ⟨szlt (by omega), next _ _ _ _ _ k3 (by omega) ⟨_, rfl, by omega, k2⟩⟩
theorem sp_gaps (a b c L A of : Int) (rows0 : List D) (Q : Slot → List Slot → Prop) (X : Value → Prop) (hb : b.natAbs < 2 ^ 128) (hc : 0 ≤ c) (hc2 : c < 2 ^ 37) (hM : MachD L A rows0) (ho : 0 < of) (ho2 : of < 1000)
    (h : ∀ a' c' rows, c ≤ c' → c' ≤ c + 36 → SkD L A rows → Q (.val (.tuple [.int L, .int A, .tuple rows])) [uS a' b c', .val (.tuple [.int L, .int A, .tuple rows0]), .val (.int of)]) :
    fs__law_gaps [uS a b c, .val (.tuple [.int L, .int A, .tuple rows0]), .val (.int of)] Q X := by
  obtain ⟨l1, l2, l3, l4, l5, l6, l7⟩ := hM
  refine ⟨rfl, ?_⟩
  unfold w__law_gaps
  simp only [dSeq, dIfS, dTst, dOp2, dVarO, dRes, dK, dOf, dVar, dFz, dAsg, gNm, dRet, dRetN, dExp, dCB, dOCons, dONil, dVCons, dVNil, dLst, dTup, dMove, dNext, dNot, dAnd, dOr, dIf, dAndV, dOrV, dNotV, dIsi, dNeg, dSl, dNoP, dPrt, dApp, dPop, dSetIx, dChain, dPar, dPar3, gTp, gCons', gNil', dCall, dFor, dSq, dRng1, dRng2, dEnm, dZip, dLc, dAll, dYes, dVK, dVKs, dNever, dNevE, dBreak, dCont, con, sl, frzS, isB, tuO, daO, sqO, lsO, lenO, ngO, consO, argO, varsO, wrB, untag, owL, tyS, tyD, isT, entryE, tagA, finE, backA, wipeE, backE, keepS, seqD, gAdd, gSub, gI, gMul, gMod, gIc, gDiv, gPow, gEq, isNone, gIs, gLt, gLe, gGt, gGe, gIx, gLen, gIntC, gTupC, gLstC, gRepr, gSl, gII, need_some, atI_0, atI_1, atI_2, atI_3, ixN_30, ixN_31, ixN_32, List.getElem?_cons_zero, List.getElem?_cons_succ, List.getElem?_nil, List.set_cons_zero, List.set_cons_succ, List.length_cons, List.length_nil, Option.join_some, Option.join_none, List.replicate_succ, List.replicate_zero, List.cons_append, List.nil_append, Option.map_some, Nat.zero_add, Nat.reduceAdd, Nat.reduceSub, Bool.not_true, Bool.not_false, if_true, if_false, Bool.false_eq_true, true_and, and_true, decide_true, decide_false, Nat.reduceLeDiff, Nat.reduceEqDiff, reduceIte, reduceCtorEq, Bool.or_false, Bool.or_true, Bool.and_true, Bool.and_false, Bool.true_and, Bool.false_and, Bool.true_or, Bool.false_or, List.map_cons, List.map_nil, List.nodup_cons, List.nodup_nil, List.mem_cons, List.not_mem_nil, not_false_eq_true, or_false, false_or]
  refine ⟨Nat.zero_le _, ?_⟩
  refine gaps_out L A of rows0.length rows0 l1 l2 l3 ho ho2 b hb rows0 a c [] _ _ _ l7 hc (by omega) (by simp; omega) (fun e he => by simp at he) fun a' c' rows' x4 x5 k1 k2 k3 k4 => ?_
  simp only [dSeq, dIfS, dTst, dOp2, dVarO, dRes, dK, dOf, dVar, dFz, dAsg, gNm, dRet, dRetN, dExp, dCB, dOCons, dONil, dVCons, dVNil, dLst, dTup, dMove, dNext, dNot, dAnd, dOr, dIf, dAndV, dOrV, dNotV, dIsi, dNeg, dSl, dNoP, dPrt, dApp, dPop, dSetIx, dChain, dPar, dPar3, gTp, gCons', gNil', dCall, dFor, dSq, dRng1, dRng2, dEnm, dZip, dLc, dAll, dYes, dVK, dVKs, dNever, dNevE, dBreak, dCont, con, sl, frzS, isB, tuO, daO, sqO, lsO, lenO, ngO, consO, argO, varsO, wrB, untag, owL, tyS, tyD, isT, entryE, tagA, finE, backA, wipeE, backE, keepS, seqD, gAdd, gSub, gI, gMul, gMod, gIc, gDiv, gPow, gEq, isNone, gIs, gLt, gLe, gGt, gGe, gIx, gLen, gIntC, gTupC, gLstC, gRepr, gSl, gII, need_some, atI_0, atI_1, atI_2, atI_3, ixN_30, ixN_31, ixN_32, List.getElem?_cons_zero, List.getElem?_cons_succ, List.getElem?_nil, List.set_cons_zero, List.set_cons_succ, List.length_cons, List.length_nil, Option.join_some, Option.join_none, List.replicate_succ, List.replicate_zero, List.cons_append, List.nil_append, Option.map_some, Nat.zero_add, Nat.reduceAdd, Nat.reduceSub, Bool.not_true, Bool.not_false, if_true, if_false, Bool.false_eq_true, true_and, and_true, decide_true, decide_false, Nat.reduceLeDiff, Nat.reduceEqDiff, reduceIte, reduceCtorEq, Bool.or_false, Bool.or_true, Bool.and_true, Bool.and_false, Bool.true_and, Bool.false_and, Bool.true_or, Bool.false_or, List.map_cons, List.map_nil, List.nodup_cons, List.nodup_nil, List.mem_cons, List.not_mem_nil, not_false_eq_true, or_false, false_or]
  have e : rows'.length = rows0.length := by simpa using k3
  rw [← e] at k4
  exact ⟨sz3, h _ _ _ k1 (by omega) ⟨l1, l2, l3, l4, by omega, by omega, k4⟩⟩
/-! words -/
def WordD (L : Int) (n : Nat) (d : D) : Prop := ∃ ws : List Int, d = .tuple (ws.map .int) ∧ ws.length ≤ n ∧ ∀ w ∈ ws, 0 ≤ w ∧ w < L
theorem word_in (L : Int) (hL : 0 < L) (hL2 : L < 1000) (x2 : Option Slot) (b : Int) (hb : b.natAbs < 2 ^ 128) : ∀ (ds : List D) (a c : Int) (x3 : Option Slot) (Q : List D → En → Prop), 0 ≤ c → c + ds.length < 2 ^ 40 →
    (∀ (ws : List Int) a' c' x3', ws.length = ds.length → (∀ w ∈ ws, 0 ≤ w ∧ w < L) → c ≤ c' → c' ≤ c + ds.length → Q (ws.map .int) [uE a' b c', some (.val (.int L)), x2, x3']) →
    dLcL (gNm 3) dYes w__law_word_e1 [3] ds [uE a b c, some (.val (.int L)), x2, x3] Q := by
  intro ds
  induction ds with
  | nil =>
    intro a c x3 Q h0 h1 h
    simp only [dLcL]
    exact h [] _ _ _ rfl (fun y hy => by simp at hy) (by omega) (by simp)
  | cons d ds ih =>
    intro a c x3 Q h0 h1 h
    simp only [List.length_cons] at h1 h
    simp only [dLcL]
    have next : ∀ a' c' w, c ≤ c' → c' ≤ c + 1 → 0 ≤ w → w < L → dLcL (gNm 3) dYes w__law_word_e1 [3] ds [uE a' b c', some (.val (.int L)), x2, some (.val d)] fun ys e => Q (.int w :: ys) e := fun a' c' w q1 q2 q3 q4 =>
      ih _ _ _ _ (by omega) (by omega) fun ws a2 c2 x5' k1 k2 k3 k4 => h (w :: ws) _ _ _ (by simp [k1]) (fun z hz => by
        rcases List.mem_cons.mp hz with rfl | hz
        · exact ⟨q3, q4⟩
        · exact k2 z hz) (by omega) (by omega)
    unfold w__law_word_e1 at next ⊢
    simp only [dSeq, dIfS, dTst, dOp2, dVarO, dRes, dK, dOf, dVar, dFz, dAsg, gNm, dRet, dRetN, dExp, dCB, dOCons, dONil, dVCons, dVNil, dLst, dTup, dMove, dNext, dNot, dAnd, dOr, dIf, dAndV, dOrV, dNotV, dIsi, dNeg, dSl, dNoP, dPrt, dApp, dPop, dSetIx, dChain, dPar, dPar3, gTp, gCons', gNil', dCall, dFor, dSq, dRng1, dRng2, dEnm, dZip, dLc, dAll, dYes, dVK, dVKs, dNever, dNevE, dBreak, dCont, con, sl, frzS, isB, tuO, daO, sqO, lsO, lenO, ngO, consO, argO, varsO, wrB, untag, owL, tyS, tyD, isT, entryE, tagA, finE, backA, wipeE, backE, keepS, seqD, gAdd, gSub, gI, gMul, gMod, gIc, gDiv, gPow, gEq, isNone, gIs, gLt, gLe, gGt, gGe, gIx, gLen, gIntC, gTupC, gLstC, gRepr, gSl, gII, need_some, atI_0, atI_1, atI_2, atI_3, ixN_30, ixN_31, ixN_32, List.getElem?_cons_zero, List.getElem?_cons_succ, List.getElem?_nil, List.set_cons_zero, List.set_cons_succ, List.length_cons, List.length_nil, Option.join_some, Option.join_none, List.replicate_succ, List.replicate_zero, List.cons_append, List.nil_append, Option.map_some, Nat.zero_add, Nat.reduceAdd, Nat.reduceSub, Bool.not_true, Bool.not_false, if_true, if_false, Bool.false_eq_true, true_and, and_true, decide_true, decide_false, Nat.reduceLeDiff, Nat.reduceEqDiff, reduceIte, reduceCtorEq, Bool.or_false, Bool.or_true, Bool.and_true, Bool.and_false, Bool.true_and, Bool.false_and, Bool.true_or, Bool.false_or, List.map_cons, List.map_nil, List.nodup_cons, List.nodup_nil, List.mem_cons, List.not_mem_nil, not_false_eq_true, or_false, false_or]
    refine sp_roll _ _ _ _ _ _ hb h0 (by omega) hL (by omega) fun r a2 c2 g0 g1 g2 g3 => ?_
    simp only [dSeq, dIfS, dTst, dOp2, dVarO, dRes, dK, dOf, dVar, dFz, dAsg, gNm, dRet, dRetN, dExp, dCB, dOCons, dONil, dVCons, dVNil, dLst, dTup, dMove, dNext, dNot, dAnd, dOr, dIf, dAndV, dOrV, dNotV, dIsi, dNeg, dSl, dNoP, dPrt, dApp, dPop, dSetIx, dChain, dPar, dPar3, gTp, gCons', gNil', dCall, dFor, dSq, dRng1, dRng2, dEnm, dZip, dLc, dAll, dYes, dVK, dVKs, dNever, dNevE, dBreak, dCont, con, sl, frzS, isB, tuO, daO, sqO, lsO, lenO, ngO, consO, argO, varsO, wrB, untag, owL, tyS, tyD, isT, entryE, tagA, finE, backA, wipeE, backE, keepS, seqD, gAdd, gSub, gI, gMul, gMod, gIc, gDiv, gPow, gEq, isNone, gIs, gLt, gLe, gGt, gGe, gIx, gLen, gIntC, gTupC, gLstC, gRepr, gSl, gII, need_some, atI_0, atI_1, atI_2, atI_3, ixN_30, ixN_31, ixN_32, List.getElem?_cons_zero, List.getElem?_cons_succ, List.getElem?_nil, List.set_cons_zero, List.set_cons_succ, List.length_cons, List.length_nil, Option.join_some, Option.join_none, List.replicate_succ, List.replicate_zero, List.cons_append, List.nil_append, Option.map_some, Nat.zero_add, Nat.reduceAdd, Nat.reduceSub, Bool.not_true, Bool.not_false, if_true, if_false, Bool.false_eq_true, true_and, and_true, decide_true, decide_false, Nat.reduceLeDiff, Nat.reduceEqDiff, reduceIte, reduceCtorEq, Bool.or_false, Bool.or_true, Bool.and_true, Bool.and_false, Bool.true_and, Bool.false_and, Bool.true_or, Bool.false_or, List.map_cons, List.map_nil, List.nodup_cons, List.nodup_nil, List.mem_cons, List.not_mem_nil, not_false_eq_true, or_false, false_or]
    exact next _ _ _ g2 g3 g0 g1
theorem sp_word (a b c L : Int) (m : Nat) (Q : Slot → List Slot → Prop) (X : Value → Prop) (hb : b.natAbs < 2 ^ 128) (hc : 0 ≤ c) (hc2 : c < 2 ^ 37) (hL : 0 < L) (hL2 : L < 1000) (hm : m < 1000)
    (h : ∀ a' c' d, c ≤ c' → c' ≤ c + 1001 → WordD L m d → Q (.val d) [uS a' b c', .val (.int L), .val (.int m)]) :
    fs__law_word [uS a b c, .val (.int L), .val (.int m)] Q X := by
  refine ⟨rfl, ?_⟩
  unfold w__law_word
  refine retI ?_
  simp only [dSeq, dIfS, dTst, dOp2, dVarO, dRes, dK, dOf, dVar, dFz, dAsg, gNm, dRet, dRetN, dExp, dCB, dOCons, dONil, dVCons, dVNil, dLst, dTup, dMove, dNext, dNot, dAnd, dOr, dIf, dAndV, dOrV, dNotV, dIsi, dNeg, dSl, dNoP, dPrt, dApp, dPop, dSetIx, dChain, dPar, dPar3, gTp, gCons', gNil', dCall, dFor, dSq, dRng1, dRng2, dEnm, dZip, dLc, dAll, dYes, dVK, dVKs, dNever, dNevE, dBreak, dCont, con, sl, frzS, isB, tuO, daO, sqO, lsO, lenO, ngO, consO, argO, varsO, wrB, untag, owL, tyS, tyD, isT, entryE, tagA, finE, backA, wipeE, backE, keepS, seqD, gAdd, gSub, gI, gMul, gMod, gIc, gDiv, gPow, gEq, isNone, gIs, gLt, gLe, gGt, gGe, gIx, gLen, gIntC, gTupC, gLstC, gRepr, gSl, gII, need_some, atI_0, atI_1, atI_2, atI_3, ixN_30, ixN_31, ixN_32, List.getElem?_cons_zero, List.getElem?_cons_succ, List.getElem?_nil, List.set_cons_zero, List.set_cons_succ, List.length_cons, List.length_nil, Option.join_some, Option.join_none, List.replicate_succ, List.replicate_zero, List.cons_append, List.nil_append, Option.map_some, Nat.zero_add, Nat.reduceAdd, Nat.reduceSub, Bool.not_true, Bool.not_false, if_true, if_false, Bool.false_eq_true, true_and, and_true, decide_true, decide_false, Nat.reduceLeDiff, Nat.reduceEqDiff, reduceIte, reduceCtorEq, Bool.or_false, Bool.or_true, Bool.and_true, Bool.and_false, Bool.true_and, Bool.false_and, Bool.true_or, Bool.false_or, List.map_cons, List.map_nil, List.nodup_cons, List.nodup_nil, List.mem_cons, List.not_mem_nil, not_false_eq_true, or_false, false_or]
  refine sp_roll _ _ _ _ _ _ hb hc (by omega) (by omega) (by omega) fun r a1 c1 g0 g1 g2 g3 => ?_
  simp only [dSeq, dIfS, dTst, dOp2, dVarO, dRes, dK, dOf, dVar, dFz, dAsg, gNm, dRet, dRetN, dExp, dCB, dOCons, dONil, dVCons, dVNil, dLst, dTup, dMove, dNext, dNot, dAnd, dOr, dIf, dAndV, dOrV, dNotV, dIsi, dNeg, dSl, dNoP, dPrt, dApp, dPop, dSetIx, dChain, dPar, dPar3, gTp, gCons', gNil', dCall, dFor, dSq, dRng1, dRng2, dEnm, dZip, dLc, dAll, dYes, dVK, dVKs, dNever, dNevE, dBreak, dCont, con, sl, frzS, isB, tuO, daO, sqO, lsO, lenO, ngO, consO, argO, varsO, wrB, untag, owL, tyS, tyD, isT, entryE, tagA, finE, backA, wipeE, backE, keepS, seqD, gAdd, gSub, gI, gMul, gMod, gIc, gDiv, gPow, gEq, isNone, gIs, gLt, gLe, gGt, gGe, gIx, gLen, gIntC, gTupC, gLstC, gRepr, gSl, gII, need_some, atI_0, atI_1, atI_2, atI_3, ixN_30, ixN_31, ixN_32, List.getElem?_cons_zero, List.getElem?_cons_succ, List.getElem?_nil, List.set_cons_zero, List.set_cons_succ, List.length_cons, List.length_nil, Option.join_some, Option.join_none, List.replicate_succ, List.replicate_zero, List.cons_append, List.nil_append, Option.map_some, Nat.zero_add, Nat.reduceAdd, Nat.reduceSub, Bool.not_true, Bool.not_false, if_true, if_false, Bool.false_eq_true, true_and, and_true, decide_true, decide_false, Nat.reduceLeDiff, Nat.reduceEqDiff, reduceIte, reduceCtorEq, Bool.or_false, Bool.or_true, Bool.and_true, Bool.and_false, Bool.true_and, Bool.false_and, Bool.true_or, Bool.false_or, List.map_cons, List.map_nil, List.nodup_cons, List.nodup_nil, List.mem_cons, List.not_mem_nil, not_false_eq_true, or_false, false_or]
  refine ⟨⟨by omega, by omega⟩, by rw [rngD_length]; exact Nat.le_of_lt (szlt (by omega)), ?_⟩
  refine word_in L hL hL2 _ b hb _ a1 c1 _ _ (by omega) (by rw [rngD_length]; omega) fun ws a2 c2 x3 k1 k2 k3 k4 => ?_
  rw [rngD_length] at k1 k4
  simp only [dSeq, dIfS, dTst, dOp2, dVarO, dRes, dK, dOf, dVar, dFz, dAsg, gNm, dRet, dRetN, dExp, dCB, dOCons, dONil, dVCons, dVNil, dLst, dTup, dMove, dNext, dNot, dAnd, dOr, dIf, dAndV, dOrV, dNotV, dIsi, dNeg, dSl, dNoP, dPrt, dApp, dPop, dSetIx, dChain, dPar, dPar3, gTp, gCons', gNil', dCall, dFor, dSq, dRng1, dRng2, dEnm, dZip, dLc, dAll, dYes, dVK, dVKs, dNever, dNevE, dBreak, dCont, con, sl, frzS, isB, tuO, daO, sqO, lsO, lenO, ngO, consO, argO, varsO, wrB, untag, owL, tyS, tyD, isT, entryE, tagA, finE, backA, wipeE, backE, keepS, seqD, gAdd, gSub, gI, gMul, gMod, gIc, gDiv, gPow, gEq, isNone, gIs, gLt, gLe, gGt, gGe, gIx, gLen, gIntC, gTupC, gLstC, gRepr, gSl, gII, need_some, atI_0, atI_1, atI_2, atI_3, ixN_30, ixN_31, ixN_32, List.getElem?_cons_zero, List.getElem?_cons_succ, List.getElem?_nil, List.set_cons_zero, List.set_cons_succ, List.length_cons, List.length_nil, Option.join_some, Option.join_none, List.replicate_succ, List.replicate_zero, List.cons_append, List.nil_append, Option.map_some, Nat.zero_add, Nat.reduceAdd, Nat.reduceSub, Bool.not_true, Bool.not_false, if_true, if_false, Bool.false_eq_true, true_and, and_true, decide_true, decide_false, Nat.reduceLeDiff, Nat.reduceEqDiff, reduceIte, reduceCtorEq, Bool.or_false, Bool.or_true, Bool.and_true, Bool.and_false, Bool.true_and, Bool.false_and, Bool.true_or, Bool.false_or, List.map_cons, List.map_nil, List.nodup_cons, List.nodup_nil, List.mem_cons, List.not_mem_nil, not_false_eq_true, or_false, false_or]
  exact h _ _ _ (by omega) (by omega) ⟨ws, rfl, by omega, k2⟩
end DV

set_option Elab.async false
set_option linter.all false
set_option maxRecDepth 100000
set_option maxHeartbeats 4000000
namespace DV
open PySem PySem.Spec PyProof.Rows L2
theorem isT_tt : isT .tuple .tuple = true := rfl
theorem isT_ii : isT .int .int = true := rfl
theorem isT_ib : isT .int .bool = false := rfl
theorem sp_tuple_of (xs : List D) (lo hi : Int) (Q : Slot → List Slot → Prop) (X : Value → Prop) (h1 : lo ≤ xs.length) (h2 : (xs.length : Int) ≤ hi) (h : Q (.val (.bool true)) [.val (.tuple xs), .val (.int lo), .val (.int hi)]) :
    fs_is_tuple_of [.val (.tuple xs), .val (.int lo), .val (.int hi)] Q X := by
  refine ⟨rfl, ?_⟩
  unfold w_is_tuple_of
  simp only [dSeq, dIfS, dTst, dOp2, dVarO, dRes, dK, dOf, dVar, dFz, dAsg, gNm, dRet, dRetN, dExp, dCB, dOCons, dONil, dVCons, dVNil, dLst, dTup, dMove, dNext, dNot, dAnd, dOr, dIf, dAndV, dOrV, dNotV, dIsi, dNeg, dSl, dNoP, dPrt, dApp, dPop, dSetIx, dChain, dPar, dPar3, gTp, gCons', gNil', dCall, dFor, dSq, dRng1, dRng2, dEnm, dZip, dLc, dAll, dYes, dVK, dVKs, dNever, dNevE, dBreak, dCont, con, sl, frzS, isB, tuO, daO, sqO, lsO, lenO, ngO, consO, argO, varsO, wrB, untag, owL, tyS, tyD, entryE, tagA, finE, backA, wipeE, backE, keepS, seqD, gAdd, gSub, gI, gMul, gMod, gIc, gDiv, gPow, gEq, isNone, gIs, gLt, gLe, gGt, gGe, gIx, gLen, gIntC, gTupC, gLstC, gRepr, gSl, gII, need_some, atI_0, atI_1, atI_2, atI_3, ixN_30, ixN_31, ixN_32, List.getElem?_cons_zero, List.getElem?_cons_succ, List.getElem?_nil, List.set_cons_zero, List.set_cons_succ, List.length_cons, List.length_nil, Option.join_some, Option.join_none, List.replicate_succ, List.replicate_zero, List.cons_append, List.nil_append, Option.map_some, Nat.zero_add, Nat.reduceAdd, Nat.reduceSub, Bool.not_true, Bool.not_false, if_true, if_false, Bool.false_eq_true, true_and, and_true, decide_true, decide_false, Nat.reduceLeDiff, Nat.reduceEqDiff, reduceIte, reduceCtorEq, Bool.or_false, Bool.or_true, Bool.and_true, Bool.and_false, Bool.true_and, Bool.false_and, Bool.true_or, Bool.false_or, List.map_cons, List.map_nil, List.nodup_cons, List.nodup_nil, List.mem_cons, List.not_mem_nil, not_false_eq_true, or_false, false_or, isT_tt]
  simp only [h1, h2, decide_true, if_true]
  exact h
theorem sp_integer (i : Int) (Q : Slot → List Slot → Prop) (X : Value → Prop) (h : Q (.val (.bool true)) [.val (.int i)]) : fs_is_integer [.val (.int i)] Q X := by
  refine ⟨rfl, ?_⟩
  unfold w_is_integer
  simp only [dSeq, dIfS, dTst, dOp2, dVarO, dRes, dK, dOf, dVar, dFz, dAsg, gNm, dRet, dRetN, dExp, dCB, dOCons, dONil, dVCons, dVNil, dLst, dTup, dMove, dNext, dNot, dAnd, dOr, dIf, dAndV, dOrV, dNotV, dIsi, dNeg, dSl, dNoP, dPrt, dApp, dPop, dSetIx, dChain, dPar, dPar3, gTp, gCons', gNil', dCall, dFor, dSq, dRng1, dRng2, dEnm, dZip, dLc, dAll, dYes, dVK, dVKs, dNever, dNevE, dBreak, dCont, con, sl, frzS, isB, tuO, daO, sqO, lsO, lenO, ngO, consO, argO, varsO, wrB, untag, owL, tyS, tyD, entryE, tagA, finE, backA, wipeE, backE, keepS, seqD, gAdd, gSub, gI, gMul, gMod, gIc, gDiv, gPow, gEq, isNone, gIs, gLt, gLe, gGt, gGe, gIx, gLen, gIntC, gTupC, gLstC, gRepr, gSl, gII, need_some, atI_0, atI_1, atI_2, atI_3, ixN_30, ixN_31, ixN_32, List.getElem?_cons_zero, List.getElem?_cons_succ, List.getElem?_nil, List.set_cons_zero, List.set_cons_succ, List.length_cons, List.length_nil, Option.join_some, Option.join_none, List.replicate_succ, List.replicate_zero, List.cons_append, List.nil_append, Option.map_some, Nat.zero_add, Nat.reduceAdd, Nat.reduceSub, Bool.not_true, Bool.not_false, if_true, if_false, Bool.false_eq_true, true_and, and_true, decide_true, decide_false, Nat.reduceLeDiff, Nat.reduceEqDiff, reduceIte, reduceCtorEq, Bool.or_false, Bool.or_true, Bool.and_true, Bool.and_false, Bool.true_and, Bool.false_and, Bool.true_or, Bool.false_or, List.map_cons, List.map_nil, List.nodup_cons, List.nodup_nil, List.mem_cons, List.not_mem_nil, not_false_eq_true, or_false, false_or, isT_ii, isT_ib]
  exact h
theorem sp_within (i lo hi : Int) (Q : Slot → List Slot → Prop) (X : Value → Prop) (h1 : lo ≤ i) (h2 : i ≤ hi) (h : Q (.val (.bool true)) [.val (.int i), .val (.int lo), .val (.int hi)]) :
    fs_is_within [.val (.int i), .val (.int lo), .val (.int hi)] Q X := by
  refine ⟨rfl, ?_⟩
  unfold w_is_within
  simp only [dSeq, dIfS, dTst, dOp2, dVarO, dRes, dK, dOf, dVar, dFz, dAsg, gNm, dRet, dRetN, dExp, dCB, dOCons, dONil, dVCons, dVNil, dLst, dTup, dMove, dNext, dNot, dAnd, dOr, dIf, dAndV, dOrV, dNotV, dIsi, dNeg, dSl, dNoP, dPrt, dApp, dPop, dSetIx, dChain, dPar, dPar3, gTp, gCons', gNil', dCall, dFor, dSq, dRng1, dRng2, dEnm, dZip, dLc, dAll, dYes, dVK, dVKs, dNever, dNevE, dBreak, dCont, con, sl, frzS, isB, tuO, daO, sqO, lsO, lenO, ngO, consO, argO, varsO, wrB, untag, owL, tyS, tyD, entryE, tagA, finE, backA, wipeE, backE, keepS, seqD, gAdd, gSub, gI, gMul, gMod, gIc, gDiv, gPow, gEq, isNone, gIs, gLt, gLe, gGt, gGe, gIx, gLen, gIntC, gTupC, gLstC, gRepr, gSl, gII, need_some, atI_0, atI_1, atI_2, atI_3, ixN_30, ixN_31, ixN_32, List.getElem?_cons_zero, List.getElem?_cons_succ, List.getElem?_nil, List.set_cons_zero, List.set_cons_succ, List.length_cons, List.length_nil, Option.join_some, Option.join_none, List.replicate_succ, List.replicate_zero, List.cons_append, List.nil_append, Option.map_some, Nat.zero_add, Nat.reduceAdd, Nat.reduceSub, Bool.not_true, Bool.not_false, if_true, if_false, Bool.false_eq_true, true_and, and_true, decide_true, decide_false, Nat.reduceLeDiff, Nat.reduceEqDiff, reduceIte, reduceCtorEq, Bool.or_false, Bool.or_true, Bool.and_true, Bool.and_false, Bool.true_and, Bool.false_and, Bool.true_or, Bool.false_or, List.map_cons, List.map_nil, List.nodup_cons, List.nodup_nil, List.mem_cons, List.not_mem_nil, not_false_eq_true, or_false, false_or]
  refine sp_integer _ _ _ ?_
  simp only [dSeq, dIfS, dTst, dOp2, dVarO, dRes, dK, dOf, dVar, dFz, dAsg, gNm, dRet, dRetN, dExp, dCB, dOCons, dONil, dVCons, dVNil, dLst, dTup, dMove, dNext, dNot, dAnd, dOr, dIf, dAndV, dOrV, dNotV, dIsi, dNeg, dSl, dNoP, dPrt, dApp, dPop, dSetIx, dChain, dPar, dPar3, gTp, gCons', gNil', dCall, dFor, dSq, dRng1, dRng2, dEnm, dZip, dLc, dAll, dYes, dVK, dVKs, dNever, dNevE, dBreak, dCont, con, sl, frzS, isB, tuO, daO, sqO, lsO, lenO, ngO, consO, argO, varsO, wrB, untag, owL, tyS, tyD, entryE, tagA, finE, backA, wipeE, backE, keepS, seqD, gAdd, gSub, gI, gMul, gMod, gIc, gDiv, gPow, gEq, isNone, gIs, gLt, gLe, gGt, gGe, gIx, gLen, gIntC, gTupC, gLstC, gRepr, gSl, gII, need_some, atI_0, atI_1, atI_2, atI_3, ixN_30, ixN_31, ixN_32, List.getElem?_cons_zero, List.getElem?_cons_succ, List.getElem?_nil, List.set_cons_zero, List.set_cons_succ, List.length_cons, List.length_nil, Option.join_some, Option.join_none, List.replicate_succ, List.replicate_zero, List.cons_append, List.nil_append, Option.map_some, Nat.zero_add, Nat.reduceAdd, Nat.reduceSub, Bool.not_true, Bool.not_false, if_true, if_false, Bool.false_eq_true, true_and, and_true, decide_true, decide_false, Nat.reduceLeDiff, Nat.reduceEqDiff, reduceIte, reduceCtorEq, Bool.or_false, Bool.or_true, Bool.and_true, Bool.and_false, Bool.true_and, Bool.false_and, Bool.true_or, Bool.false_or, List.map_cons, List.map_nil, List.nodup_cons, List.nodup_nil, List.mem_cons, List.not_mem_nil, not_false_eq_true, or_false, false_or]
  simp only [h1, h2, decide_true, if_true]
  exact h
theorem sp_entry (e : D) (A n : Int) (Q : Slot → List Slot → Prop) (X : Value → Prop) (he : EntN n A e) (h : Q (.val (.bool true)) [.val e, .val (.int A), .val (.int n)]) :
    fs_is_entry_form [.val e, .val (.int A), .val (.int n)] Q X := by
  refine ⟨rfl, ?_⟩
  unfold w_is_entry_form
  rcases he with rfl | ⟨s, t, rfl, s0, s1, t0, t1⟩
  · simp only [dSeq, dIfS, dTst, dOp2, dVarO, dRes, dK, dOf, dVar, dFz, dAsg, gNm, dRet, dRetN, dExp, dCB, dOCons, dONil, dVCons, dVNil, dLst, dTup, dMove, dNext, dNot, dAnd, dOr, dIf, dAndV, dOrV, dNotV, dIsi, dNeg, dSl, dNoP, dPrt, dApp, dPop, dSetIx, dChain, dPar, dPar3, gTp, gCons', gNil', dCall, dFor, dSq, dRng1, dRng2, dEnm, dZip, dLc, dAll, dYes, dVK, dVKs, dNever, dNevE, dBreak, dCont, con, sl, frzS, isB, tuO, daO, sqO, lsO, lenO, ngO, consO, argO, varsO, wrB, untag, owL, tyS, tyD, entryE, tagA, finE, backA, wipeE, backE, keepS, seqD, gAdd, gSub, gI, gMul, gMod, gIc, gDiv, gPow, gEq, isNone, gIs, gLt, gLe, gGt, gGe, gIx, gLen, gIntC, gTupC, gLstC, gRepr, gSl, gII, need_some, atI_0, atI_1, atI_2, atI_3, ixN_30, ixN_31, ixN_32, List.getElem?_cons_zero, List.getElem?_cons_succ, List.getElem?_nil, List.set_cons_zero, List.set_cons_succ, List.length_cons, List.length_nil, Option.join_some, Option.join_none, List.replicate_succ, List.replicate_zero, List.cons_append, List.nil_append, Option.map_some, Nat.zero_add, Nat.reduceAdd, Nat.reduceSub, Bool.not_true, Bool.not_false, if_true, if_false, Bool.false_eq_true, true_and, and_true, decide_true, decide_false, Nat.reduceLeDiff, Nat.reduceEqDiff, reduceIte, reduceCtorEq, Bool.or_false, Bool.or_true, Bool.and_true, Bool.and_false, Bool.true_and, Bool.false_and, Bool.true_or, Bool.false_or, List.map_cons, List.map_nil, List.nodup_cons, List.nodup_nil, List.mem_cons, List.not_mem_nil, not_false_eq_true, or_false, false_or]
    exact h
  · refine seqI fun U hU => ?_
    have rest : U [some (.val (.tuple [.int s, .int t])), some (.val (.int A)), some (.val (.int n))] := by
      refine hU _ ?_
      simp only [dSeq, dIfS, dTst, dOp2, dVarO, dRes, dK, dOf, dVar, dFz, dAsg, gNm, dRet, dRetN, dExp, dCB, dOCons, dONil, dVCons, dVNil, dLst, dTup, dMove, dNext, dNot, dAnd, dOr, dIf, dAndV, dOrV, dNotV, dIsi, dNeg, dSl, dNoP, dPrt, dApp, dPop, dSetIx, dChain, dPar, dPar3, gTp, gCons', gNil', dCall, dFor, dSq, dRng1, dRng2, dEnm, dZip, dLc, dAll, dYes, dVK, dVKs, dNever, dNevE, dBreak, dCont, con, sl, frzS, isB, tuO, daO, sqO, lsO, lenO, ngO, consO, argO, varsO, wrB, untag, owL, tyS, tyD, entryE, tagA, finE, backA, wipeE, backE, keepS, seqD, gAdd, gSub, gI, gMul, gMod, gIc, gDiv, gPow, gEq, isNone, gIs, gLt, gLe, gGt, gGe, gIx, gLen, gIntC, gTupC, gLstC, gRepr, gSl, gII, need_some, atI_0, atI_1, atI_2, atI_3, ixN_30, ixN_31, ixN_32, List.getElem?_cons_zero, List.getElem?_cons_succ, List.getElem?_nil, List.set_cons_zero, List.set_cons_succ, List.length_cons, List.length_nil, Option.join_some, Option.join_none, List.replicate_succ, List.replicate_zero, List.cons_append, List.nil_append, Option.map_some, Nat.zero_add, Nat.reduceAdd, Nat.reduceSub, Bool.not_true, Bool.not_false, if_true, if_false, Bool.false_eq_true, true_and, and_true, decide_true, decide_false, Nat.reduceLeDiff, Nat.reduceEqDiff, reduceIte, reduceCtorEq, Bool.or_false, Bool.or_true, Bool.and_true, Bool.and_false, Bool.true_and, Bool.false_and, Bool.true_or, Bool.false_or, List.map_cons, List.map_nil, List.nodup_cons, List.nodup_nil, List.mem_cons, List.not_mem_nil, not_false_eq_true, or_false, false_or]
      refine sp_tuple_of _ _ _ _ _ (by simp) (by simp) ?_
      simp only [dSeq, dIfS, dTst, dOp2, dVarO, dRes, dK, dOf, dVar, dFz, dAsg, gNm, dRet, dRetN, dExp, dCB, dOCons, dONil, dVCons, dVNil, dLst, dTup, dMove, dNext, dNot, dAnd, dOr, dIf, dAndV, dOrV, dNotV, dIsi, dNeg, dSl, dNoP, dPrt, dApp, dPop, dSetIx, dChain, dPar, dPar3, gTp, gCons', gNil', dCall, dFor, dSq, dRng1, dRng2, dEnm, dZip, dLc, dAll, dYes, dVK, dVKs, dNever, dNevE, dBreak, dCont, con, sl, frzS, isB, tuO, daO, sqO, lsO, lenO, ngO, consO, argO, varsO, wrB, untag, owL, tyS, tyD, entryE, tagA, finE, backA, wipeE, backE, keepS, seqD, gAdd, gSub, gI, gMul, gMod, gIc, gDiv, gPow, gEq, isNone, gIs, gLt, gLe, gGt, gGe, gIx, gLen, gIntC, gTupC, gLstC, gRepr, gSl, gII, need_some, atI_0, atI_1, atI_2, atI_3, ixN_30, ixN_31, ixN_32, List.getElem?_cons_zero, List.getElem?_cons_succ, List.getElem?_nil, List.set_cons_zero, List.set_cons_succ, List.length_cons, List.length_nil, Option.join_some, Option.join_none, List.replicate_succ, List.replicate_zero, List.cons_append, List.nil_append, Option.map_some, Nat.zero_add, Nat.reduceAdd, Nat.reduceSub, Bool.not_true, Bool.not_false, if_true, if_false, Bool.false_eq_true, true_and, and_true, decide_true, decide_false, Nat.reduceLeDiff, Nat.reduceEqDiff, reduceIte, reduceCtorEq, Bool.or_false, Bool.or_true, Bool.and_true, Bool.and_false, Bool.true_and, Bool.false_and, Bool.true_or, Bool.false_or, List.map_cons, List.map_nil, List.nodup_cons, List.nodup_nil, List.mem_cons, List.not_mem_nil, not_false_eq_true, or_false, false_or]
      refine sp_within _ _ _ _ _ s0 (by omega) ?_
      simp only [dSeq, dIfS, dTst, dOp2, dVarO, dRes, dK, dOf, dVar, dFz, dAsg, gNm, dRet, dRetN, dExp, dCB, dOCons, dONil, dVCons, dVNil, dLst, dTup, dMove, dNext, dNot, dAnd, dOr, dIf, dAndV, dOrV, dNotV, dIsi, dNeg, dSl, dNoP, dPrt, dApp, dPop, dSetIx, dChain, dPar, dPar3, gTp, gCons', gNil', dCall, dFor, dSq, dRng1, dRng2, dEnm, dZip, dLc, dAll, dYes, dVK, dVKs, dNever, dNevE, dBreak, dCont, con, sl, frzS, isB, tuO, daO, sqO, lsO, lenO, ngO, consO, argO, varsO, wrB, untag, owL, tyS, tyD, entryE, tagA, finE, backA, wipeE, backE, keepS, seqD, gAdd, gSub, gI, gMul, gMod, gIc, gDiv, gPow, gEq, isNone, gIs, gLt, gLe, gGt, gGe, gIx, gLen, gIntC, gTupC, gLstC, gRepr, gSl, gII, need_some, atI_0, atI_1, atI_2, atI_3, ixN_30, ixN_31, ixN_32, List.getElem?_cons_zero, List.getElem?_cons_succ, List.getElem?_nil, List.set_cons_zero, List.set_cons_succ, List.length_cons, List.length_nil, Option.join_some, Option.join_none, List.replicate_succ, List.replicate_zero, List.cons_append, List.nil_append, Option.map_some, Nat.zero_add, Nat.reduceAdd, Nat.reduceSub, Bool.not_true, Bool.not_false, if_true, if_false, Bool.false_eq_true, true_and, and_true, decide_true, decide_false, Nat.reduceLeDiff, Nat.reduceEqDiff, reduceIte, reduceCtorEq, Bool.or_false, Bool.or_true, Bool.and_true, Bool.and_false, Bool.true_and, Bool.false_and, Bool.true_or, Bool.false_or, List.map_cons, List.map_nil, List.nodup_cons, List.nodup_nil, List.mem_cons, List.not_mem_nil, not_false_eq_true, or_false, false_or]
      refine sp_within _ _ _ _ _ t0 (by omega) ?_
      simp only [dSeq, dIfS, dTst, dOp2, dVarO, dRes, dK, dOf, dVar, dFz, dAsg, gNm, dRet, dRetN, dExp, dCB, dOCons, dONil, dVCons, dVNil, dLst, dTup, dMove, dNext, dNot, dAnd, dOr, dIf, dAndV, dOrV, dNotV, dIsi, dNeg, dSl, dNoP, dPrt, dApp, dPop, dSetIx, dChain, dPar, dPar3, gTp, gCons', gNil', dCall, dFor, dSq, dRng1, dRng2, dEnm, dZip, dLc, dAll, dYes, dVK, dVKs, dNever, dNevE, dBreak, dCont, con, sl, frzS, isB, tuO, daO, sqO, lsO, lenO, ngO, consO, argO, varsO, wrB, untag, owL, tyS, tyD, entryE, tagA, finE, backA, wipeE, backE, keepS, seqD, gAdd, gSub, gI, gMul, gMod, gIc, gDiv, gPow, gEq, isNone, gIs, gLt, gLe, gGt, gGe, gIx, gLen, gIntC, gTupC, gLstC, gRepr, gSl, gII, need_some, atI_0, atI_1, atI_2, atI_3, ixN_30, ixN_31, ixN_32, List.getElem?_cons_zero, List.getElem?_cons_succ, List.getElem?_nil, List.set_cons_zero, List.set_cons_succ, List.length_cons, List.length_nil, Option.join_some, Option.join_none, List.replicate_succ, List.replicate_zero, List.cons_append, List.nil_append, Option.map_some, Nat.zero_add, Nat.reduceAdd, Nat.reduceSub, Bool.not_true, Bool.not_false, if_true, if_false, Bool.false_eq_true, true_and, and_true, decide_true, decide_false, Nat.reduceLeDiff, Nat.reduceEqDiff, reduceIte, reduceCtorEq, Bool.or_false, Bool.or_true, Bool.and_true, Bool.and_false, Bool.true_and, Bool.false_and, Bool.true_or, Bool.false_or, List.map_cons, List.map_nil, List.nodup_cons, List.nodup_nil, List.mem_cons, List.not_mem_nil, not_false_eq_true, or_false, false_or]
      exact h
    simp only [dSeq, dIfS, dTst, dOp2, dVarO, dRes, dK, dOf, dVar, dFz, dAsg, gNm, dRet, dRetN, dExp, dCB, dOCons, dONil, dVCons, dVNil, dLst, dTup, dMove, dNext, dNot, dAnd, dOr, dIf, dAndV, dOrV, dNotV, dIsi, dNeg, dSl, dNoP, dPrt, dApp, dPop, dSetIx, dChain, dPar, dPar3, gTp, gCons', gNil', dCall, dFor, dSq, dRng1, dRng2, dEnm, dZip, dLc, dAll, dYes, dVK, dVKs, dNever, dNevE, dBreak, dCont, con, sl, frzS, isB, tuO, daO, sqO, lsO, lenO, ngO, consO, argO, varsO, wrB, untag, owL, tyS, tyD, entryE, tagA, finE, backA, wipeE, backE, keepS, seqD, gAdd, gSub, gI, gMul, gMod, gIc, gDiv, gPow, gEq, isNone, gIs, gLt, gLe, gGt, gGe, gIx, gLen, gIntC, gTupC, gLstC, gRepr, gSl, gII, need_some, atI_0, atI_1, atI_2, atI_3, ixN_30, ixN_31, ixN_32, List.getElem?_cons_zero, List.getElem?_cons_succ, List.getElem?_nil, List.set_cons_zero, List.set_cons_succ, List.length_cons, List.length_nil, Option.join_some, Option.join_none, List.replicate_succ, List.replicate_zero, List.cons_append, List.nil_append, Option.map_some, Nat.zero_add, Nat.reduceAdd, Nat.reduceSub, Bool.not_true, Bool.not_false, if_true, if_false, Bool.false_eq_true, true_and, and_true, decide_true, decide_false, Nat.reduceLeDiff, Nat.reduceEqDiff, reduceIte, reduceCtorEq, Bool.or_false, Bool.or_true, Bool.and_true, Bool.and_false, Bool.true_and, Bool.false_and, Bool.true_or, Bool.false_or, List.map_cons, List.map_nil, List.nodup_cons, List.nodup_nil, List.mem_cons, List.not_mem_nil, not_false_eq_true, or_false, false_or]
    exact rest
theorem rows_g (A n : Int) (L : Int) (xs : List D) (hn : n = xs.length) : ∀ (ds : List D) (x3 x4 : Option Slot) (Q : Bool → En → Prop), (∀ d ∈ ds, EntN n A d) → (∀ x4', Q true [some (.val (.tuple xs)), some (.val (.int L)), some (.val (.int A)), x3, x4']) →
    dAllL (gNm 4) dYes w_are_rows_g1 [4] ds [some (.val (.tuple xs)), some (.val (.int L)), some (.val (.int A)), x3, x4] Q := by
  intro ds
  induction ds with
  | nil =>
    intro x3 x4 Q hd h
    simp only [dAllL]
    exact h _
  | cons d ds ih =>
    intro x3 x4 Q hd h
    simp only [dAllL]
    have next := ih x3 (some (.val d)) Q (fun e he => hd e (by simp [he])) h
    unfold w_are_rows_g1 at next ⊢
    simp only [dSeq, dIfS, dTst, dOp2, dVarO, dRes, dK, dOf, dVar, dFz, dAsg, gNm, dRet, dRetN, dExp, dCB, dOCons, dONil, dVCons, dVNil, dLst, dTup, dMove, dNext, dNot, dAnd, dOr, dIf, dAndV, dOrV, dNotV, dIsi, dNeg, dSl, dNoP, dPrt, dApp, dPop, dSetIx, dChain, dPar, dPar3, gTp, gCons', gNil', dCall, dFor, dSq, dRng1, dRng2, dEnm, dZip, dLc, dAll, dYes, dVK, dVKs, dNever, dNevE, dBreak, dCont, con, sl, frzS, isB, tuO, daO, sqO, lsO, lenO, ngO, consO, argO, varsO, wrB, untag, owL, tyS, tyD, entryE, tagA, finE, backA, wipeE, backE, keepS, seqD, gAdd, gSub, gI, gMul, gMod, gIc, gDiv, gPow, gEq, isNone, gIs, gLt, gLe, gGt, gGe, gIx, gLen, gIntC, gTupC, gLstC, gRepr, gSl, gII, need_some, atI_0, atI_1, atI_2, atI_3, ixN_30, ixN_31, ixN_32, List.getElem?_cons_zero, List.getElem?_cons_succ, List.getElem?_nil, List.set_cons_zero, List.set_cons_succ, List.length_cons, List.length_nil, Option.join_some, Option.join_none, List.replicate_succ, List.replicate_zero, List.cons_append, List.nil_append, Option.map_some, Nat.zero_add, Nat.reduceAdd, Nat.reduceSub, Bool.not_true, Bool.not_false, if_true, if_false, Bool.false_eq_true, true_and, and_true, decide_true, decide_false, Nat.reduceLeDiff, Nat.reduceEqDiff, reduceIte, reduceCtorEq, Bool.or_false, Bool.or_true, Bool.and_true, Bool.and_false, Bool.true_and, Bool.false_and, Bool.true_or, Bool.false_or, List.map_cons, List.map_nil, List.nodup_cons, List.nodup_nil, List.mem_cons, List.not_mem_nil, not_false_eq_true, or_false, false_or]
    rw [← hn]
    refine sp_entry _ _ _ _ _ (hd d (by simp)) ?_
    simp only [dSeq, dIfS, dTst, dOp2, dVarO, dRes, dK, dOf, dVar, dFz, dAsg, gNm, dRet, dRetN, dExp, dCB, dOCons, dONil, dVCons, dVNil, dLst, dTup, dMove, dNext, dNot, dAnd, dOr, dIf, dAndV, dOrV, dNotV, dIsi, dNeg, dSl, dNoP, dPrt, dApp, dPop, dSetIx, dChain, dPar, dPar3, gTp, gCons', gNil', dCall, dFor, dSq, dRng1, dRng2, dEnm, dZip, dLc, dAll, dYes, dVK, dVKs, dNever, dNevE, dBreak, dCont, con, sl, frzS, isB, tuO, daO, sqO, lsO, lenO, ngO, consO, argO, varsO, wrB, untag, owL, tyS, tyD, entryE, tagA, finE, backA, wipeE, backE, keepS, seqD, gAdd, gSub, gI, gMul, gMod, gIc, gDiv, gPow, gEq, isNone, gIs, gLt, gLe, gGt, gGe, gIx, gLen, gIntC, gTupC, gLstC, gRepr, gSl, gII, need_some, atI_0, atI_1, atI_2, atI_3, ixN_30, ixN_31, ixN_32, List.getElem?_cons_zero, List.getElem?_cons_succ, List.getElem?_nil, List.set_cons_zero, List.set_cons_succ, List.length_cons, List.length_nil, Option.join_some, Option.join_none, List.replicate_succ, List.replicate_zero, List.cons_append, List.nil_append, Option.map_some, Nat.zero_add, Nat.reduceAdd, Nat.reduceSub, Bool.not_true, Bool.not_false, if_true, if_false, Bool.false_eq_true, true_and, and_true, decide_true, decide_false, Nat.reduceLeDiff, Nat.reduceEqDiff, reduceIte, reduceCtorEq, Bool.or_false, Bool.or_true, Bool.and_true, Bool.and_false, Bool.true_and, Bool.false_and, Bool.true_or, Bool.false_or, List.map_cons, List.map_nil, List.nodup_cons, List.nodup_nil, List.mem_cons, List.not_mem_nil, not_false_eq_true, or_false, false_or]
    exact next
theorem rows_b (L : Int) (A : Int) (xs : List D) (hL : 0 ≤ L) : ∀ (ds : List D) (x3 x4 : Option Slot) (D : DEnds), (∀ r ∈ ds, RowN L.toNat xs.length A r) → (∀ x3' x4', D.nx [some (.val (.tuple xs)), some (.val (.int L)), some (.val (.int A)), x3', x4']) →
    dForL (gNm 3) w_are_rows_b1 ds [some (.val (.tuple xs)), some (.val (.int L)), some (.val (.int A)), x3, x4] D := by
  intro ds
  induction ds with
  | nil =>
    intro x3 x4 D hd h
    simp only [dForL]
    exact h _ _
  | cons d ds ih =>
    intro x3 x4 D hd h
    obtain ⟨es, rfl, hl, he⟩ := hd d (by simp)
    simp only [dForL]
    have next : ∀ x3 x4, dForL (gNm 3) w_are_rows_b1 ds [some (.val (.tuple xs)), some (.val (.int L)), some (.val (.int A)), x3, x4] D := fun x3 x4 => ih x3 x4 D (fun e he => hd e (by simp [he])) h
    unfold w_are_rows_b1 at next ⊢
    simp only [dSeq, dIfS, dTst, dOp2, dVarO, dRes, dK, dOf, dVar, dFz, dAsg, gNm, dRet, dRetN, dExp, dCB, dOCons, dONil, dVCons, dVNil, dLst, dTup, dMove, dNext, dNot, dAnd, dOr, dIf, dAndV, dOrV, dNotV, dIsi, dNeg, dSl, dNoP, dPrt, dApp, dPop, dSetIx, dChain, dPar, dPar3, gTp, gCons', gNil', dCall, dFor, dSq, dRng1, dRng2, dEnm, dZip, dLc, dAll, dYes, dVK, dVKs, dNever, dNevE, dBreak, dCont, con, sl, frzS, isB, tuO, daO, sqO, lsO, lenO, ngO, consO, argO, varsO, wrB, untag, owL, tyS, tyD, entryE, tagA, finE, backA, wipeE, backE, keepS, seqD, gAdd, gSub, gI, gMul, gMod, gIc, gDiv, gPow, gEq, isNone, gIs, gLt, gLe, gGt, gGe, gIx, gLen, gIntC, gTupC, gLstC, gRepr, gSl, gII, need_some, atI_0, atI_1, atI_2, atI_3, ixN_30, ixN_31, ixN_32, List.getElem?_cons_zero, List.getElem?_cons_succ, List.getElem?_nil, List.set_cons_zero, List.set_cons_succ, List.length_cons, List.length_nil, Option.join_some, Option.join_none, List.replicate_succ, List.replicate_zero, List.cons_append, List.nil_append, Option.map_some, Nat.zero_add, Nat.reduceAdd, Nat.reduceSub, Bool.not_true, Bool.not_false, if_true, if_false, Bool.false_eq_true, true_and, and_true, decide_true, decide_false, Nat.reduceLeDiff, Nat.reduceEqDiff, reduceIte, reduceCtorEq, Bool.or_false, Bool.or_true, Bool.and_true, Bool.and_false, Bool.true_and, Bool.false_and, Bool.true_or, Bool.false_or, List.map_cons, List.map_nil, List.nodup_cons, List.nodup_nil, List.mem_cons, List.not_mem_nil, not_false_eq_true, or_false, false_or]
    refine sp_tuple_of _ _ _ _ _ (by omega) (by omega) ?_
    simp only [dSeq, dIfS, dTst, dOp2, dVarO, dRes, dK, dOf, dVar, dFz, dAsg, gNm, dRet, dRetN, dExp, dCB, dOCons, dONil, dVCons, dVNil, dLst, dTup, dMove, dNext, dNot, dAnd, dOr, dIf, dAndV, dOrV, dNotV, dIsi, dNeg, dSl, dNoP, dPrt, dApp, dPop, dSetIx, dChain, dPar, dPar3, gTp, gCons', gNil', dCall, dFor, dSq, dRng1, dRng2, dEnm, dZip, dLc, dAll, dYes, dVK, dVKs, dNever, dNevE, dBreak, dCont, con, sl, frzS, isB, tuO, daO, sqO, lsO, lenO, ngO, consO, argO, varsO, wrB, untag, owL, tyS, tyD, entryE, tagA, finE, backA, wipeE, backE, keepS, seqD, gAdd, gSub, gI, gMul, gMod, gIc, gDiv, gPow, gEq, isNone, gIs, gLt, gLe, gGt, gGe, gIx, gLen, gIntC, gTupC, gLstC, gRepr, gSl, gII, need_some, atI_0, atI_1, atI_2, atI_3, ixN_30, ixN_31, ixN_32, List.getElem?_cons_zero, List.getElem?_cons_succ, List.getElem?_nil, List.set_cons_zero, List.set_cons_succ, List.length_cons, List.length_nil, Option.join_some, Option.join_none, List.replicate_succ, List.replicate_zero, List.cons_append, List.nil_append, Option.map_some, Nat.zero_add, Nat.reduceAdd, Nat.reduceSub, Bool.not_true, Bool.not_false, if_true, if_false, Bool.false_eq_true, true_and, and_true, decide_true, decide_false, Nat.reduceLeDiff, Nat.reduceEqDiff, reduceIte, reduceCtorEq, Bool.or_false, Bool.or_true, Bool.and_true, Bool.and_false, Bool.true_and, Bool.false_and, Bool.true_or, Bool.false_or, List.map_cons, List.map_nil, List.nodup_cons, List.nodup_nil, List.mem_cons, List.not_mem_nil, not_false_eq_true, or_false, false_or]
    refine rows_g A xs.length L xs rfl es _ _ _ he fun x4' => ?_
    simp only [dSeq, dIfS, dTst, dOp2, dVarO, dRes, dK, dOf, dVar, dFz, dAsg, gNm, dRet, dRetN, dExp, dCB, dOCons, dONil, dVCons, dVNil, dLst, dTup, dMove, dNext, dNot, dAnd, dOr, dIf, dAndV, dOrV, dNotV, dIsi, dNeg, dSl, dNoP, dPrt, dApp, dPop, dSetIx, dChain, dPar, dPar3, gTp, gCons', gNil', dCall, dFor, dSq, dRng1, dRng2, dEnm, dZip, dLc, dAll, dYes, dVK, dVKs, dNever, dNevE, dBreak, dCont, con, sl, frzS, isB, tuO, daO, sqO, lsO, lenO, ngO, consO, argO, varsO, wrB, untag, owL, tyS, tyD, entryE, tagA, finE, backA, wipeE, backE, keepS, seqD, gAdd, gSub, gI, gMul, gMod, gIc, gDiv, gPow, gEq, isNone, gIs, gLt, gLe, gGt, gGe, gIx, gLen, gIntC, gTupC, gLstC, gRepr, gSl, gII, need_some, atI_0, atI_1, atI_2, atI_3, ixN_30, ixN_31, ixN_32, List.getElem?_cons_zero, List.getElem?_cons_succ, List.getElem?_nil, List.set_cons_zero, List.set_cons_succ, List.length_cons, List.length_nil, Option.join_some, Option.join_none, List.replicate_succ, List.replicate_zero, List.cons_append, List.nil_append, Option.map_some, Nat.zero_add, Nat.reduceAdd, Nat.reduceSub, Bool.not_true, Bool.not_false, if_true, if_false, Bool.false_eq_true, true_and, and_true, decide_true, decide_false, Nat.reduceLeDiff, Nat.reduceEqDiff, reduceIte, reduceCtorEq, Bool.or_false, Bool.or_true, Bool.and_true, Bool.and_false, Bool.true_and, Bool.false_and, Bool.true_or, Bool.false_or, List.map_cons, List.map_nil, List.nodup_cons, List.nodup_nil, List.mem_cons, List.not_mem_nil, not_false_eq_true, or_false, false_or]
    exact next _ _
theorem sp_are_rows (L A : Int) (xs : List D) (Q : Slot → List Slot → Prop) (X : Value → Prop) (hL : 0 ≤ L) (hr : ∀ r ∈ xs, RowN L.toNat xs.length A r) (h : Q (.val (.bool true)) [.val (.tuple xs), .val (.int L), .val (.int A)]) :
    fs_are_rows [.val (.tuple xs), .val (.int L), .val (.int A)] Q X := by
  refine ⟨rfl, ?_⟩
  unfold w_are_rows
  simp only [dSeq, dIfS, dTst, dOp2, dVarO, dRes, dK, dOf, dVar, dFz, dAsg, gNm, dRet, dRetN, dExp, dCB, dOCons, dONil, dVCons, dVNil, dLst, dTup, dMove, dNext, dNot, dAnd, dOr, dIf, dAndV, dOrV, dNotV, dIsi, dNeg, dSl, dNoP, dPrt, dApp, dPop, dSetIx, dChain, dPar, dPar3, gTp, gCons', gNil', dCall, dFor, dSq, dRng1, dRng2, dEnm, dZip, dLc, dAll, dYes, dVK, dVKs, dNever, dNevE, dBreak, dCont, con, sl, frzS, isB, tuO, daO, sqO, lsO, lenO, ngO, consO, argO, varsO, wrB, untag, owL, tyS, tyD, entryE, tagA, finE, backA, wipeE, backE, keepS, seqD, gAdd, gSub, gI, gMul, gMod, gIc, gDiv, gPow, gEq, isNone, gIs, gLt, gLe, gGt, gGe, gIx, gLen, gIntC, gTupC, gLstC, gRepr, gSl, gII, need_some, atI_0, atI_1, atI_2, atI_3, ixN_30, ixN_31, ixN_32, List.getElem?_cons_zero, List.getElem?_cons_succ, List.getElem?_nil, List.set_cons_zero, List.set_cons_succ, List.length_cons, List.length_nil, Option.join_some, Option.join_none, List.replicate_succ, List.replicate_zero, List.cons_append, List.nil_append, Option.map_some, Nat.zero_add, Nat.reduceAdd, Nat.reduceSub, Bool.not_true, Bool.not_false, if_true, if_false, Bool.false_eq_true, true_and, and_true, decide_true, decide_false, Nat.reduceLeDiff, Nat.reduceEqDiff, reduceIte, reduceCtorEq, Bool.or_false, Bool.or_true, Bool.and_true, Bool.and_false, Bool.true_and, Bool.false_and, Bool.true_or, Bool.false_or, List.map_cons, List.map_nil, List.nodup_cons, List.nodup_nil, List.mem_cons, List.not_mem_nil, not_false_eq_true, or_false, false_or, isT_tt]
  refine rows_b L A xs hL xs _ _ _ hr fun x3 x4 => ?_
  simp only [dSeq, dIfS, dTst, dOp2, dVarO, dRes, dK, dOf, dVar, dFz, dAsg, gNm, dRet, dRetN, dExp, dCB, dOCons, dONil, dVCons, dVNil, dLst, dTup, dMove, dNext, dNot, dAnd, dOr, dIf, dAndV, dOrV, dNotV, dIsi, dNeg, dSl, dNoP, dPrt, dApp, dPop, dSetIx, dChain, dPar, dPar3, gTp, gCons', gNil', dCall, dFor, dSq, dRng1, dRng2, dEnm, dZip, dLc, dAll, dYes, dVK, dVKs, dNever, dNevE, dBreak, dCont, con, sl, frzS, isB, tuO, daO, sqO, lsO, lenO, ngO, consO, argO, varsO, wrB, untag, owL, tyS, tyD, entryE, tagA, finE, backA, wipeE, backE, keepS, seqD, gAdd, gSub, gI, gMul, gMod, gIc, gDiv, gPow, gEq, isNone, gIs, gLt, gLe, gGt, gGe, gIx, gLen, gIntC, gTupC, gLstC, gRepr, gSl, gII, need_some, atI_0, atI_1, atI_2, atI_3, ixN_30, ixN_31, ixN_32, List.getElem?_cons_zero, List.getElem?_cons_succ, List.getElem?_nil, List.set_cons_zero, List.set_cons_succ, List.length_cons, List.length_nil, Option.join_some, Option.join_none, List.replicate_succ, List.replicate_zero, List.cons_append, List.nil_append, Option.map_some, Nat.zero_add, Nat.reduceAdd, Nat.reduceSub, Bool.not_true, Bool.not_false, if_true, if_false, Bool.false_eq_true, true_and, and_true, decide_true, decide_false, Nat.reduceLeDiff, Nat.reduceEqDiff, reduceIte, reduceCtorEq, Bool.or_false, Bool.or_true, Bool.and_true, Bool.and_false, Bool.true_and, Bool.false_and, Bool.true_or, Bool.false_or, List.map_cons, List.map_nil, List.nodup_cons, List.nodup_nil, List.mem_cons, List.not_mem_nil, not_false_eq_true, or_false, false_or]
  exact h
end DV

set_option Elab.async false
set_option linter.all false
set_option maxRecDepth 100000
set_option maxHeartbeats 4000000
namespace DV
open PySem PySem.Spec PyProof.Rows L2
theorem sp_sketch_form (L A : Int) (rows : List D) (Q : Slot → List Slot → Prop) (X : Value → Prop) (hs : SkD L A rows) (h : Q (.val (.bool true)) [.val (.tuple [.int L, .int A, .tuple rows])]) :
    fs_is_sketch_form [.val (.tuple [.int L, .int A, .tuple rows])] Q X := by
  obtain ⟨l1, l2, l3, l4, l5, l6, l7⟩ := hs
  refine ⟨rfl, ?_⟩
  unfold w_is_sketch_form
  refine seqI fun U hU => ?_
  have rest : U [some (.val (.tuple [.int L, .int A, .tuple rows])), none, none, none] := by
    refine hU _ ?_
    refine seqI fun V hV => ?_
    have rest2 : V [some (.val (.tuple [.int L, .int A, .tuple rows])), none, none, none] := by
      refine hV _ ?_
      simp only [dSeq, dIfS, dTst, dOp2, dVarO, dRes, dK, dOf, dVar, dFz, dAsg, gNm, dRet, dRetN, dExp, dCB, dOCons, dONil, dVCons, dVNil, dLst, dTup, dMove, dNext, dNot, dAnd, dOr, dIf, dAndV, dOrV, dNotV, dIsi, dNeg, dSl, dNoP, dPrt, dApp, dPop, dSetIx, dChain, dPar, dPar3, gTp, gCons', gNil', dCall, dFor, dSq, dRng1, dRng2, dEnm, dZip, dLc, dAll, dYes, dVK, dVKs, dNever, dNevE, dBreak, dCont, con, sl, frzS, isB, tuO, daO, sqO, lsO, lenO, ngO, consO, argO, varsO, wrB, untag, owL, tyS, tyD, entryE, tagA, finE, backA, wipeE, backE, keepS, seqD, gAdd, gSub, gI, gMul, gMod, gIc, gDiv, gPow, gEq, isNone, gIs, gLt, gLe, gGt, gGe, gIx, gLen, gIntC, gTupC, gLstC, gRepr, gSl, gII, need_some, atI_0, atI_1, atI_2, atI_3, ixN_30, ixN_31, ixN_32, List.getElem?_cons_zero, List.getElem?_cons_succ, List.getElem?_nil, List.set_cons_zero, List.set_cons_succ, List.length_cons, List.length_nil, Option.join_some, Option.join_none, List.replicate_succ, List.replicate_zero, List.cons_append, List.nil_append, Option.map_some, Nat.zero_add, Nat.reduceAdd, Nat.reduceSub, Bool.not_true, Bool.not_false, if_true, if_false, Bool.false_eq_true, true_and, and_true, decide_true, decide_false, Nat.reduceLeDiff, Nat.reduceEqDiff, reduceIte, reduceCtorEq, Bool.or_false, Bool.or_true, Bool.and_true, Bool.and_false, Bool.true_and, Bool.false_and, Bool.true_or, Bool.false_or, List.map_cons, List.map_nil, List.nodup_cons, List.nodup_nil, List.mem_cons, List.not_mem_nil, not_false_eq_true, or_false, false_or]
      refine sp_are_rows _ _ _ _ _ (by omega) l7 ?_
      simp only [dSeq, dIfS, dTst, dOp2, dVarO, dRes, dK, dOf, dVar, dFz, dAsg, gNm, dRet, dRetN, dExp, dCB, dOCons, dONil, dVCons, dVNil, dLst, dTup, dMove, dNext, dNot, dAnd, dOr, dIf, dAndV, dOrV, dNotV, dIsi, dNeg, dSl, dNoP, dPrt, dApp, dPop, dSetIx, dChain, dPar, dPar3, gTp, gCons', gNil', dCall, dFor, dSq, dRng1, dRng2, dEnm, dZip, dLc, dAll, dYes, dVK, dVKs, dNever, dNevE, dBreak, dCont, con, sl, frzS, isB, tuO, daO, sqO, lsO, lenO, ngO, consO, argO, varsO, wrB, untag, owL, tyS, tyD, entryE, tagA, finE, backA, wipeE, backE, keepS, seqD, gAdd, gSub, gI, gMul, gMod, gIc, gDiv, gPow, gEq, isNone, gIs, gLt, gLe, gGt, gGe, gIx, gLen, gIntC, gTupC, gLstC, gRepr, gSl, gII, need_some, atI_0, atI_1, atI_2, atI_3, ixN_30, ixN_31, ixN_32, List.getElem?_cons_zero, List.getElem?_cons_succ, List.getElem?_nil, List.set_cons_zero, List.set_cons_succ, List.length_cons, List.length_nil, Option.join_some, Option.join_none, List.replicate_succ, List.replicate_zero, List.cons_append, List.nil_append, Option.map_some, Nat.zero_add, Nat.reduceAdd, Nat.reduceSub, Bool.not_true, Bool.not_false, if_true, if_false, Bool.false_eq_true, true_and, and_true, decide_true, decide_false, Nat.reduceLeDiff, Nat.reduceEqDiff, reduceIte, reduceCtorEq, Bool.or_false, Bool.or_true, Bool.and_true, Bool.and_false, Bool.true_and, Bool.false_and, Bool.true_or, Bool.false_or, List.map_cons, List.map_nil, List.nodup_cons, List.nodup_nil, List.mem_cons, List.not_mem_nil, not_false_eq_true, or_false, false_or]
      have e : ((rows.length : Nat) : Int) ≤ 12 := by omega
      simp only [e, decide_true, if_true]
      exact h
    simp only [dSeq, dIfS, dTst, dOp2, dVarO, dRes, dK, dOf, dVar, dFz, dAsg, gNm, dRet, dRetN, dExp, dCB, dOCons, dONil, dVCons, dVNil, dLst, dTup, dMove, dNext, dNot, dAnd, dOr, dIf, dAndV, dOrV, dNotV, dIsi, dNeg, dSl, dNoP, dPrt, dApp, dPop, dSetIx, dChain, dPar, dPar3, gTp, gCons', gNil', dCall, dFor, dSq, dRng1, dRng2, dEnm, dZip, dLc, dAll, dYes, dVK, dVKs, dNever, dNevE, dBreak, dCont, con, sl, frzS, isB, tuO, daO, sqO, lsO, lenO, ngO, consO, argO, varsO, wrB, untag, owL, tyS, tyD, entryE, tagA, finE, backA, wipeE, backE, keepS, seqD, gAdd, gSub, gI, gMul, gMod, gIc, gDiv, gPow, gEq, isNone, gIs, gLt, gLe, gGt, gGe, gIx, gLen, gIntC, gTupC, gLstC, gRepr, gSl, gII, need_some, atI_0, atI_1, atI_2, atI_3, ixN_30, ixN_31, ixN_32, List.getElem?_cons_zero, List.getElem?_cons_succ, List.getElem?_nil, List.set_cons_zero, List.set_cons_succ, List.length_cons, List.length_nil, Option.join_some, Option.join_none, List.replicate_succ, List.replicate_zero, List.cons_append, List.nil_append, Option.map_some, Nat.zero_add, Nat.reduceAdd, Nat.reduceSub, Bool.not_true, Bool.not_false, if_true, if_false, Bool.false_eq_true, true_and, and_true, decide_true, decide_false, Nat.reduceLeDiff, Nat.reduceEqDiff, reduceIte, reduceCtorEq, Bool.or_false, Bool.or_true, Bool.and_true, Bool.and_false, Bool.true_and, Bool.false_and, Bool.true_or, Bool.false_or, List.map_cons, List.map_nil, List.nodup_cons, List.nodup_nil, List.mem_cons, List.not_mem_nil, not_false_eq_true, or_false, false_or]
    refine sp_within _ _ _ _ _ l3 l4 ?_
    simp only [dSeq, dIfS, dTst, dOp2, dVarO, dRes, dK, dOf, dVar, dFz, dAsg, gNm, dRet, dRetN, dExp, dCB, dOCons, dONil, dVCons, dVNil, dLst, dTup, dMove, dNext, dNot, dAnd, dOr, dIf, dAndV, dOrV, dNotV, dIsi, dNeg, dSl, dNoP, dPrt, dApp, dPop, dSetIx, dChain, dPar, dPar3, gTp, gCons', gNil', dCall, dFor, dSq, dRng1, dRng2, dEnm, dZip, dLc, dAll, dYes, dVK, dVKs, dNever, dNevE, dBreak, dCont, con, sl, frzS, isB, tuO, daO, sqO, lsO, lenO, ngO, consO, argO, varsO, wrB, untag, owL, tyS, tyD, entryE, tagA, finE, backA, wipeE, backE, keepS, seqD, gAdd, gSub, gI, gMul, gMod, gIc, gDiv, gPow, gEq, isNone, gIs, gLt, gLe, gGt, gGe, gIx, gLen, gIntC, gTupC, gLstC, gRepr, gSl, gII, need_some, atI_0, atI_1, atI_2, atI_3, ixN_30, ixN_31, ixN_32, List.getElem?_cons_zero, List.getElem?_cons_succ, List.getElem?_nil, List.set_cons_zero, List.set_cons_succ, List.length_cons, List.length_nil, Option.join_some, Option.join_none, List.replicate_succ, List.replicate_zero, List.cons_append, List.nil_append, Option.map_some, Nat.zero_add, Nat.reduceAdd, Nat.reduceSub, Bool.not_true, Bool.not_false, if_true, if_false, Bool.false_eq_true, true_and, and_true, decide_true, decide_false, Nat.reduceLeDiff, Nat.reduceEqDiff, reduceIte, reduceCtorEq, Bool.or_false, Bool.or_true, Bool.and_true, Bool.and_false, Bool.true_and, Bool.false_and, Bool.true_or, Bool.false_or, List.map_cons, List.map_nil, List.nodup_cons, List.nodup_nil, List.mem_cons, List.not_mem_nil, not_false_eq_true, or_false, false_or]
    refine sp_tuple_of _ _ _ _ _ (by omega) (by omega) ?_
    simp only [dSeq, dIfS, dTst, dOp2, dVarO, dRes, dK, dOf, dVar, dFz, dAsg, gNm, dRet, dRetN, dExp, dCB, dOCons, dONil, dVCons, dVNil, dLst, dTup, dMove, dNext, dNot, dAnd, dOr, dIf, dAndV, dOrV, dNotV, dIsi, dNeg, dSl, dNoP, dPrt, dApp, dPop, dSetIx, dChain, dPar, dPar3, gTp, gCons', gNil', dCall, dFor, dSq, dRng1, dRng2, dEnm, dZip, dLc, dAll, dYes, dVK, dVKs, dNever, dNevE, dBreak, dCont, con, sl, frzS, isB, tuO, daO, sqO, lsO, lenO, ngO, consO, argO, varsO, wrB, untag, owL, tyS, tyD, entryE, tagA, finE, backA, wipeE, backE, keepS, seqD, gAdd, gSub, gI, gMul, gMod, gIc, gDiv, gPow, gEq, isNone, gIs, gLt, gLe, gGt, gGe, gIx, gLen, gIntC, gTupC, gLstC, gRepr, gSl, gII, need_some, atI_0, atI_1, atI_2, atI_3, ixN_30, ixN_31, ixN_32, List.getElem?_cons_zero, List.getElem?_cons_succ, List.getElem?_nil, List.set_cons_zero, List.set_cons_succ, List.length_cons, List.length_nil, Option.join_some, Option.join_none, List.replicate_succ, List.replicate_zero, List.cons_append, List.nil_append, Option.map_some, Nat.zero_add, Nat.reduceAdd, Nat.reduceSub, Bool.not_true, Bool.not_false, if_true, if_false, Bool.false_eq_true, true_and, and_true, decide_true, decide_false, Nat.reduceLeDiff, Nat.reduceEqDiff, reduceIte, reduceCtorEq, Bool.or_false, Bool.or_true, Bool.and_true, Bool.and_false, Bool.true_and, Bool.false_and, Bool.true_or, Bool.false_or, List.map_cons, List.map_nil, List.nodup_cons, List.nodup_nil, List.mem_cons, List.not_mem_nil, not_false_eq_true, or_false, false_or]
    exact rest2
  simp only [dSeq, dIfS, dTst, dOp2, dVarO, dRes, dK, dOf, dVar, dFz, dAsg, gNm, dRet, dRetN, dExp, dCB, dOCons, dONil, dVCons, dVNil, dLst, dTup, dMove, dNext, dNot, dAnd, dOr, dIf, dAndV, dOrV, dNotV, dIsi, dNeg, dSl, dNoP, dPrt, dApp, dPop, dSetIx, dChain, dPar, dPar3, gTp, gCons', gNil', dCall, dFor, dSq, dRng1, dRng2, dEnm, dZip, dLc, dAll, dYes, dVK, dVKs, dNever, dNevE, dBreak, dCont, con, sl, frzS, isB, tuO, daO, sqO, lsO, lenO, ngO, consO, argO, varsO, wrB, untag, owL, tyS, tyD, entryE, tagA, finE, backA, wipeE, backE, keepS, seqD, gAdd, gSub, gI, gMul, gMod, gIc, gDiv, gPow, gEq, isNone, gIs, gLt, gLe, gGt, gGe, gIx, gLen, gIntC, gTupC, gLstC, gRepr, gSl, gII, need_some, atI_0, atI_1, atI_2, atI_3, ixN_30, ixN_31, ixN_32, List.getElem?_cons_zero, List.getElem?_cons_succ, List.getElem?_nil, List.set_cons_zero, List.set_cons_succ, List.length_cons, List.length_nil, Option.join_some, Option.join_none, List.replicate_succ, List.replicate_zero, List.cons_append, List.nil_append, Option.map_some, Nat.zero_add, Nat.reduceAdd, Nat.reduceSub, Bool.not_true, Bool.not_false, if_true, if_false, Bool.false_eq_true, true_and, and_true, decide_true, decide_false, Nat.reduceLeDiff, Nat.reduceEqDiff, reduceIte, reduceCtorEq, Bool.or_false, Bool.or_true, Bool.and_true, Bool.and_false, Bool.true_and, Bool.false_and, Bool.true_or, Bool.false_or, List.map_cons, List.map_nil, List.nodup_cons, List.nodup_nil, List.mem_cons, List.not_mem_nil, not_false_eq_true, or_false, false_or]
  refine sp_tuple_of _ _ _ _ _ (by simp) (by simp) ?_
  simp only [dSeq, dIfS, dTst, dOp2, dVarO, dRes, dK, dOf, dVar, dFz, dAsg, gNm, dRet, dRetN, dExp, dCB, dOCons, dONil, dVCons, dVNil, dLst, dTup, dMove, dNext, dNot, dAnd, dOr, dIf, dAndV, dOrV, dNotV, dIsi, dNeg, dSl, dNoP, dPrt, dApp, dPop, dSetIx, dChain, dPar, dPar3, gTp, gCons', gNil', dCall, dFor, dSq, dRng1, dRng2, dEnm, dZip, dLc, dAll, dYes, dVK, dVKs, dNever, dNevE, dBreak, dCont, con, sl, frzS, isB, tuO, daO, sqO, lsO, lenO, ngO, consO, argO, varsO, wrB, untag, owL, tyS, tyD, entryE, tagA, finE, backA, wipeE, backE, keepS, seqD, gAdd, gSub, gI, gMul, gMod, gIc, gDiv, gPow, gEq, isNone, gIs, gLt, gLe, gGt, gGe, gIx, gLen, gIntC, gTupC, gLstC, gRepr, gSl, gII, need_some, atI_0, atI_1, atI_2, atI_3, ixN_30, ixN_31, ixN_32, List.getElem?_cons_zero, List.getElem?_cons_succ, List.getElem?_nil, List.set_cons_zero, List.set_cons_succ, List.length_cons, List.length_nil, Option.join_some, Option.join_none, List.replicate_succ, List.replicate_zero, List.cons_append, List.nil_append, Option.map_some, Nat.zero_add, Nat.reduceAdd, Nat.reduceSub, Bool.not_true, Bool.not_false, if_true, if_false, Bool.false_eq_true, true_and, and_true, decide_true, decide_false, Nat.reduceLeDiff, Nat.reduceEqDiff, reduceIte, reduceCtorEq, Bool.or_false, Bool.or_true, Bool.and_true, Bool.and_false, Bool.true_and, Bool.false_and, Bool.true_or, Bool.false_or, List.map_cons, List.map_nil, List.nodup_cons, List.nodup_nil, List.mem_cons, List.not_mem_nil, not_false_eq_true, or_false, false_or]
  refine sp_within _ _ _ _ _ l1 l2 ?_
  simp only [dSeq, dIfS, dTst, dOp2, dVarO, dRes, dK, dOf, dVar, dFz, dAsg, gNm, dRet, dRetN, dExp, dCB, dOCons, dONil, dVCons, dVNil, dLst, dTup, dMove, dNext, dNot, dAnd, dOr, dIf, dAndV, dOrV, dNotV, dIsi, dNeg, dSl, dNoP, dPrt, dApp, dPop, dSetIx, dChain, dPar, dPar3, gTp, gCons', gNil', dCall, dFor, dSq, dRng1, dRng2, dEnm, dZip, dLc, dAll, dYes, dVK, dVKs, dNever, dNevE, dBreak, dCont, con, sl, frzS, isB, tuO, daO, sqO, lsO, lenO, ngO, consO, argO, varsO, wrB, untag, owL, tyS, tyD, entryE, tagA, finE, backA, wipeE, backE, keepS, seqD, gAdd, gSub, gI, gMul, gMod, gIc, gDiv, gPow, gEq, isNone, gIs, gLt, gLe, gGt, gGe, gIx, gLen, gIntC, gTupC, gLstC, gRepr, gSl, gII, need_some, atI_0, atI_1, atI_2, atI_3, ixN_30, ixN_31, ixN_32, List.getElem?_cons_zero, List.getElem?_cons_succ, List.getElem?_nil, List.set_cons_zero, List.set_cons_succ, List.length_cons, List.length_nil, Option.join_some, Option.join_none, List.replicate_succ, List.replicate_zero, List.cons_append, List.nil_append, Option.map_some, Nat.zero_add, Nat.reduceAdd, Nat.reduceSub, Bool.not_true, Bool.not_false, if_true, if_false, Bool.false_eq_true, true_and, and_true, decide_true, decide_false, Nat.reduceLeDiff, Nat.reduceEqDiff, reduceIte, reduceCtorEq, Bool.or_false, Bool.or_true, Bool.and_true, Bool.and_false, Bool.true_and, Bool.false_and, Bool.true_or, Bool.false_or, List.map_cons, List.map_nil, List.nodup_cons, List.nodup_nil, List.mem_cons, List.not_mem_nil, not_false_eq_true, or_false, false_or]
  exact rest
theorem sp_need_sketch (L A : Int) (rows : List D) (Q : Slot → List Slot → Prop) (X : Value → Prop) (hs : SkD L A rows) (h : Q (.val .none) [.val (.tuple [.int L, .int A, .tuple rows])]) :
    fs_need_sketch [.val (.tuple [.int L, .int A, .tuple rows])] Q X := by
  refine ⟨rfl, ?_⟩
  unfold w_need_sketch
  simp only [dSeq, dIfS, dTst, dOp2, dVarO, dRes, dK, dOf, dVar, dFz, dAsg, gNm, dRet, dRetN, dExp, dCB, dOCons, dONil, dVCons, dVNil, dLst, dTup, dMove, dNext, dNot, dAnd, dOr, dIf, dAndV, dOrV, dNotV, dIsi, dNeg, dSl, dNoP, dPrt, dApp, dPop, dSetIx, dChain, dPar, dPar3, gTp, gCons', gNil', dCall, dFor, dSq, dRng1, dRng2, dEnm, dZip, dLc, dAll, dYes, dVK, dVKs, dNever, dNevE, dBreak, dCont, con, sl, frzS, isB, tuO, daO, sqO, lsO, lenO, ngO, consO, argO, varsO, wrB, untag, owL, tyS, tyD, entryE, tagA, finE, backA, wipeE, backE, keepS, seqD, gAdd, gSub, gI, gMul, gMod, gIc, gDiv, gPow, gEq, isNone, gIs, gLt, gLe, gGt, gGe, gIx, gLen, gIntC, gTupC, gLstC, gRepr, gSl, gII, need_some, atI_0, atI_1, atI_2, atI_3, ixN_30, ixN_31, ixN_32, List.getElem?_cons_zero, List.getElem?_cons_succ, List.getElem?_nil, List.set_cons_zero, List.set_cons_succ, List.length_cons, List.length_nil, Option.join_some, Option.join_none, List.replicate_succ, List.replicate_zero, List.cons_append, List.nil_append, Option.map_some, Nat.zero_add, Nat.reduceAdd, Nat.reduceSub, Bool.not_true, Bool.not_false, if_true, if_false, Bool.false_eq_true, true_and, and_true, decide_true, decide_false, Nat.reduceLeDiff, Nat.reduceEqDiff, reduceIte, reduceCtorEq, Bool.or_false, Bool.or_true, Bool.and_true, Bool.and_false, Bool.true_and, Bool.false_and, Bool.true_or, Bool.false_or, List.map_cons, List.map_nil, List.nodup_cons, List.nodup_nil, List.mem_cons, List.not_mem_nil, not_false_eq_true, or_false, false_or]
  refine sp_sketch_form _ _ _ _ _ hs ?_
  simp only [dSeq, dIfS, dTst, dOp2, dVarO, dRes, dK, dOf, dVar, dFz, dAsg, gNm, dRet, dRetN, dExp, dCB, dOCons, dONil, dVCons, dVNil, dLst, dTup, dMove, dNext, dNot, dAnd, dOr, dIf, dAndV, dOrV, dNotV, dIsi, dNeg, dSl, dNoP, dPrt, dApp, dPop, dSetIx, dChain, dPar, dPar3, gTp, gCons', gNil', dCall, dFor, dSq, dRng1, dRng2, dEnm, dZip, dLc, dAll, dYes, dVK, dVKs, dNever, dNevE, dBreak, dCont, con, sl, frzS, isB, tuO, daO, sqO, lsO, lenO, ngO, consO, argO, varsO, wrB, untag, owL, tyS, tyD, entryE, tagA, finE, backA, wipeE, backE, keepS, seqD, gAdd, gSub, gI, gMul, gMod, gIc, gDiv, gPow, gEq, isNone, gIs, gLt, gLe, gGt, gGe, gIx, gLen, gIntC, gTupC, gLstC, gRepr, gSl, gII, need_some, atI_0, atI_1, atI_2, atI_3, ixN_30, ixN_31, ixN_32, List.getElem?_cons_zero, List.getElem?_cons_succ, List.getElem?_nil, List.set_cons_zero, List.set_cons_succ, List.length_cons, List.length_nil, Option.join_some, Option.join_none, List.replicate_succ, List.replicate_zero, List.cons_append, List.nil_append, Option.map_some, Nat.zero_add, Nat.reduceAdd, Nat.reduceSub, Bool.not_true, Bool.not_false, if_true, if_false, Bool.false_eq_true, true_and, and_true, decide_true, decide_false, Nat.reduceLeDiff, Nat.reduceEqDiff, reduceIte, reduceCtorEq, Bool.or_false, Bool.or_true, Bool.and_true, Bool.and_false, Bool.true_and, Bool.false_and, Bool.true_or, Bool.false_or, List.map_cons, List.map_nil, List.nodup_cons, List.nodup_nil, List.mem_cons, List.not_mem_nil, not_false_eq_true, or_false, false_or]
  exact h
theorem word_g (L : Int) (x1 : Option Slot) : ∀ (ws : List Int) (x2 : Option Slot) (Q : Bool → En → Prop), (∀ w ∈ ws, 0 ≤ w ∧ w < L) → (∀ x2', Q true [some (.val (.int L)), x1, x2']) →
    dAllL (gNm 2) dYes w_is_word_form_g1 [2] (ws.map .int) [some (.val (.int L)), x1, x2] Q := by
  intro ws
  induction ws with
  | nil =>
    intro x2 Q hd h
    simp only [List.map_nil, dAllL]
    exact h _
  | cons w ws ih =>
    intro x2 Q hd h
    simp only [List.map_cons, dAllL]
    have next := ih (some (.val (.int w))) Q (fun e he => hd e (by simp [he])) h
    have hw := hd w (by simp)
    unfold w_is_word_form_g1 at next ⊢
    simp only [dSeq, dIfS, dTst, dOp2, dVarO, dRes, dK, dOf, dVar, dFz, dAsg, gNm, dRet, dRetN, dExp, dCB, dOCons, dONil, dVCons, dVNil, dLst, dTup, dMove, dNext, dNot, dAnd, dOr, dIf, dAndV, dOrV, dNotV, dIsi, dNeg, dSl, dNoP, dPrt, dApp, dPop, dSetIx, dChain, dPar, dPar3, gTp, gCons', gNil', dCall, dFor, dSq, dRng1, dRng2, dEnm, dZip, dLc, dAll, dYes, dVK, dVKs, dNever, dNevE, dBreak, dCont, con, sl, frzS, isB, tuO, daO, sqO, lsO, lenO, ngO, consO, argO, varsO, wrB, untag, owL, tyS, tyD, entryE, tagA, finE, backA, wipeE, backE, keepS, seqD, gAdd, gSub, gI, gMul, gMod, gIc, gDiv, gPow, gEq, isNone, gIs, gLt, gLe, gGt, gGe, gIx, gLen, gIntC, gTupC, gLstC, gRepr, gSl, gII, need_some, atI_0, atI_1, atI_2, atI_3, ixN_30, ixN_31, ixN_32, List.getElem?_cons_zero, List.getElem?_cons_succ, List.getElem?_nil, List.set_cons_zero, List.set_cons_succ, List.length_cons, List.length_nil, Option.join_some, Option.join_none, List.replicate_succ, List.replicate_zero, List.cons_append, List.nil_append, Option.map_some, Nat.zero_add, Nat.reduceAdd, Nat.reduceSub, Bool.not_true, Bool.not_false, if_true, if_false, Bool.false_eq_true, true_and, and_true, decide_true, decide_false, Nat.reduceLeDiff, Nat.reduceEqDiff, reduceIte, reduceCtorEq, Bool.or_false, Bool.or_true, Bool.and_true, Bool.and_false, Bool.true_and, Bool.false_and, Bool.true_or, Bool.false_or, List.map_cons, List.map_nil, List.nodup_cons, List.nodup_nil, List.mem_cons, List.not_mem_nil, not_false_eq_true, or_false, false_or]
    refine sp_within _ _ _ _ _ hw.1 (by omega) ?_
    simp only [dSeq, dIfS, dTst, dOp2, dVarO, dRes, dK, dOf, dVar, dFz, dAsg, gNm, dRet, dRetN, dExp, dCB, dOCons, dONil, dVCons, dVNil, dLst, dTup, dMove, dNext, dNot, dAnd, dOr, dIf, dAndV, dOrV, dNotV, dIsi, dNeg, dSl, dNoP, dPrt, dApp, dPop, dSetIx, dChain, dPar, dPar3, gTp, gCons', gNil', dCall, dFor, dSq, dRng1, dRng2, dEnm, dZip, dLc, dAll, dYes, dVK, dVKs, dNever, dNevE, dBreak, dCont, con, sl, frzS, isB, tuO, daO, sqO, lsO, lenO, ngO, consO, argO, varsO, wrB, untag, owL, tyS, tyD, entryE, tagA, finE, backA, wipeE, backE, keepS, seqD, gAdd, gSub, gI, gMul, gMod, gIc, gDiv, gPow, gEq, isNone, gIs, gLt, gLe, gGt, gGe, gIx, gLen, gIntC, gTupC, gLstC, gRepr, gSl, gII, need_some, atI_0, atI_1, atI_2, atI_3, ixN_30, ixN_31, ixN_32, List.getElem?_cons_zero, List.getElem?_cons_succ, List.getElem?_nil, List.set_cons_zero, List.set_cons_succ, List.length_cons, List.length_nil, Option.join_some, Option.join_none, List.replicate_succ, List.replicate_zero, List.cons_append, List.nil_append, Option.map_some, Nat.zero_add, Nat.reduceAdd, Nat.reduceSub, Bool.not_true, Bool.not_false, if_true, if_false, Bool.false_eq_true, true_and, and_true, decide_true, decide_false, Nat.reduceLeDiff, Nat.reduceEqDiff, reduceIte, reduceCtorEq, Bool.or_false, Bool.or_true, Bool.and_true, Bool.and_false, Bool.true_and, Bool.false_and, Bool.true_or, Bool.false_or, List.map_cons, List.map_nil, List.nodup_cons, List.nodup_nil, List.mem_cons, List.not_mem_nil, not_false_eq_true, or_false, false_or]
    exact next
theorem sp_word_form (L : Int) (ws : List Int) (Q : Slot → List Slot → Prop) (X : Value → Prop) (hl : ws.length ≤ 600) (hw : ∀ w ∈ ws, 0 ≤ w ∧ w < L) (h : Q (.val (.bool true)) [.val (.int L), .val (.tuple (ws.map .int))]) :
    fs_is_word_form [.val (.int L), .val (.tuple (ws.map .int))] Q X := by
  refine ⟨rfl, ?_⟩
  unfold w_is_word_form
  simp only [dSeq, dIfS, dTst, dOp2, dVarO, dRes, dK, dOf, dVar, dFz, dAsg, gNm, dRet, dRetN, dExp, dCB, dOCons, dONil, dVCons, dVNil, dLst, dTup, dMove, dNext, dNot, dAnd, dOr, dIf, dAndV, dOrV, dNotV, dIsi, dNeg, dSl, dNoP, dPrt, dApp, dPop, dSetIx, dChain, dPar, dPar3, gTp, gCons', gNil', dCall, dFor, dSq, dRng1, dRng2, dEnm, dZip, dLc, dAll, dYes, dVK, dVKs, dNever, dNevE, dBreak, dCont, con, sl, frzS, isB, tuO, daO, sqO, lsO, lenO, ngO, consO, argO, varsO, wrB, untag, owL, tyS, tyD, entryE, tagA, finE, backA, wipeE, backE, keepS, seqD, gAdd, gSub, gI, gMul, gMod, gIc, gDiv, gPow, gEq, isNone, gIs, gLt, gLe, gGt, gGe, gIx, gLen, gIntC, gTupC, gLstC, gRepr, gSl, gII, need_some, atI_0, atI_1, atI_2, atI_3, ixN_30, ixN_31, ixN_32, List.getElem?_cons_zero, List.getElem?_cons_succ, List.getElem?_nil, List.set_cons_zero, List.set_cons_succ, List.length_cons, List.length_nil, Option.join_some, Option.join_none, List.replicate_succ, List.replicate_zero, List.cons_append, List.nil_append, Option.map_some, Nat.zero_add, Nat.reduceAdd, Nat.reduceSub, Bool.not_true, Bool.not_false, if_true, if_false, Bool.false_eq_true, true_and, and_true, decide_true, decide_false, Nat.reduceLeDiff, Nat.reduceEqDiff, reduceIte, reduceCtorEq, Bool.or_false, Bool.or_true, Bool.and_true, Bool.and_false, Bool.true_and, Bool.false_and, Bool.true_or, Bool.false_or, List.map_cons, List.map_nil, List.nodup_cons, List.nodup_nil, List.mem_cons, List.not_mem_nil, not_false_eq_true, or_false, false_or]
  refine sp_tuple_of _ _ _ _ _ (by omega) (by simp; omega) ?_
  simp only [dSeq, dIfS, dTst, dOp2, dVarO, dRes, dK, dOf, dVar, dFz, dAsg, gNm, dRet, dRetN, dExp, dCB, dOCons, dONil, dVCons, dVNil, dLst, dTup, dMove, dNext, dNot, dAnd, dOr, dIf, dAndV, dOrV, dNotV, dIsi, dNeg, dSl, dNoP, dPrt, dApp, dPop, dSetIx, dChain, dPar, dPar3, gTp, gCons', gNil', dCall, dFor, dSq, dRng1, dRng2, dEnm, dZip, dLc, dAll, dYes, dVK, dVKs, dNever, dNevE, dBreak, dCont, con, sl, frzS, isB, tuO, daO, sqO, lsO, lenO, ngO, consO, argO, varsO, wrB, untag, owL, tyS, tyD, entryE, tagA, finE, backA, wipeE, backE, keepS, seqD, gAdd, gSub, gI, gMul, gMod, gIc, gDiv, gPow, gEq, isNone, gIs, gLt, gLe, gGt, gGe, gIx, gLen, gIntC, gTupC, gLstC, gRepr, gSl, gII, need_some, atI_0, atI_1, atI_2, atI_3, ixN_30, ixN_31, ixN_32, List.getElem?_cons_zero, List.getElem?_cons_succ, List.getElem?_nil, List.set_cons_zero, List.set_cons_succ, List.length_cons, List.length_nil, Option.join_some, Option.join_none, List.replicate_succ, List.replicate_zero, List.cons_append, List.nil_append, Option.map_some, Nat.zero_add, Nat.reduceAdd, Nat.reduceSub, Bool.not_true, Bool.not_false, if_true, if_false, Bool.false_eq_true, true_and, and_true, decide_true, decide_false, Nat.reduceLeDiff, Nat.reduceEqDiff, reduceIte, reduceCtorEq, Bool.or_false, Bool.or_true, Bool.and_true, Bool.and_false, Bool.true_and, Bool.false_and, Bool.true_or, Bool.false_or, List.map_cons, List.map_nil, List.nodup_cons, List.nodup_nil, List.mem_cons, List.not_mem_nil, not_false_eq_true, or_false, false_or]
  refine word_g L _ ws _ _ hw fun x2 => ?_
  exact h
theorem sp_need_word (L : Int) (ws : List Int) (Q : Slot → List Slot → Prop) (X : Value → Prop) (hl : ws.length ≤ 600) (hw : ∀ w ∈ ws, 0 ≤ w ∧ w < L) (h : Q (.val .none) [.val (.int L), .val (.tuple (ws.map .int))]) :
    fs_need_word [.val (.int L), .val (.tuple (ws.map .int))] Q X := by
  refine ⟨rfl, ?_⟩
  unfold w_need_word
  simp only [dSeq, dIfS, dTst, dOp2, dVarO, dRes, dK, dOf, dVar, dFz, dAsg, gNm, dRet, dRetN, dExp, dCB, dOCons, dONil, dVCons, dVNil, dLst, dTup, dMove, dNext, dNot, dAnd, dOr, dIf, dAndV, dOrV, dNotV, dIsi, dNeg, dSl, dNoP, dPrt, dApp, dPop, dSetIx, dChain, dPar, dPar3, gTp, gCons', gNil', dCall, dFor, dSq, dRng1, dRng2, dEnm, dZip, dLc, dAll, dYes, dVK, dVKs, dNever, dNevE, dBreak, dCont, con, sl, frzS, isB, tuO, daO, sqO, lsO, lenO, ngO, consO, argO, varsO, wrB, untag, owL, tyS, tyD, entryE, tagA, finE, backA, wipeE, backE, keepS, seqD, gAdd, gSub, gI, gMul, gMod, gIc, gDiv, gPow, gEq, isNone, gIs, gLt, gLe, gGt, gGe, gIx, gLen, gIntC, gTupC, gLstC, gRepr, gSl, gII, need_some, atI_0, atI_1, atI_2, atI_3, ixN_30, ixN_31, ixN_32, List.getElem?_cons_zero, List.getElem?_cons_succ, List.getElem?_nil, List.set_cons_zero, List.set_cons_succ, List.length_cons, List.length_nil, Option.join_some, Option.join_none, List.replicate_succ, List.replicate_zero, List.cons_append, List.nil_append, Option.map_some, Nat.zero_add, Nat.reduceAdd, Nat.reduceSub, Bool.not_true, Bool.not_false, if_true, if_false, Bool.false_eq_true, true_and, and_true, decide_true, decide_false, Nat.reduceLeDiff, Nat.reduceEqDiff, reduceIte, reduceCtorEq, Bool.or_false, Bool.or_true, Bool.and_true, Bool.and_false, Bool.true_and, Bool.false_and, Bool.true_or, Bool.false_or, List.map_cons, List.map_nil, List.nodup_cons, List.nodup_nil, List.mem_cons, List.not_mem_nil, not_false_eq_true, or_false, false_or]
  refine sp_word_form _ _ _ _ hl hw ?_
  simp only [dSeq, dIfS, dTst, dOp2, dVarO, dRes, dK, dOf, dVar, dFz, dAsg, gNm, dRet, dRetN, dExp, dCB, dOCons, dONil, dVCons, dVNil, dLst, dTup, dMove, dNext, dNot, dAnd, dOr, dIf, dAndV, dOrV, dNotV, dIsi, dNeg, dSl, dNoP, dPrt, dApp, dPop, dSetIx, dChain, dPar, dPar3, gTp, gCons', gNil', dCall, dFor, dSq, dRng1, dRng2, dEnm, dZip, dLc, dAll, dYes, dVK, dVKs, dNever, dNevE, dBreak, dCont, con, sl, frzS, isB, tuO, daO, sqO, lsO, lenO, ngO, consO, argO, varsO, wrB, untag, owL, tyS, tyD, entryE, tagA, finE, backA, wipeE, backE, keepS, seqD, gAdd, gSub, gI, gMul, gMod, gIc, gDiv, gPow, gEq, isNone, gIs, gLt, gLe, gGt, gGe, gIx, gLen, gIntC, gTupC, gLstC, gRepr, gSl, gII, need_some, atI_0, atI_1, atI_2, atI_3, ixN_30, ixN_31, ixN_32, List.getElem?_cons_zero, List.getElem?_cons_succ, List.getElem?_nil, List.set_cons_zero, List.set_cons_succ, List.length_cons, List.length_nil, Option.join_some, Option.join_none, List.replicate_succ, List.replicate_zero, List.cons_append, List.nil_append, Option.map_some, Nat.zero_add, Nat.reduceAdd, Nat.reduceSub, Bool.not_true, Bool.not_false, if_true, if_false, Bool.false_eq_true, true_and, and_true, decide_true, decide_false, Nat.reduceLeDiff, Nat.reduceEqDiff, reduceIte, reduceCtorEq, Bool.or_false, Bool.or_true, Bool.and_true, Bool.and_false, Bool.true_and, Bool.false_and, Bool.true_or, Bool.false_or, List.map_cons, List.map_nil, List.nodup_cons, List.nodup_nil, List.mem_cons, List.not_mem_nil, not_false_eq_true, or_false, false_or]
  exact h
end DV

set_option Elab.async false
set_option linter.all false
set_option maxRecDepth 100000
set_option maxHeartbeats 4000000
namespace DV
open PySem PySem.Spec PyProof.Rows L2
/-- what a word leads to -/
def runD (rows : List D) : List Int → Int → List D → Option (List D × Int)
  | [], s, acc => some (acc, s)
  | w :: ws, s, acc => match (atI rows s).bind fun r => match r with | .tuple es => atI es w | _ => none with
    | some (.tuple [.int s2, .int t]) => runD rows ws s2 (acc ++ [.int t])
    | _ => none
def outD : Option (List D × Int) → D
  | none => .none
  | some (acc, s) => .tuple [.tuple acc, .int s]
theorem run_step {L A : Int} {rows : List D} (hs : SkD L A rows) {s w : Int} (h0 : 0 ≤ s) (h1 : s < rows.length) (w0 : 0 ≤ w) (w1 : w < L) :
    ∃ es e, atI rows s = some (.tuple es) ∧ atI es w = some e ∧ EntN rows.length A e := by
  obtain ⟨l1, l2, l3, l4, l5, l6, l7⟩ := hs
  obtain ⟨r, hr, er⟩ := atI_mem h0 h1
  obtain ⟨es, rfl, hl, he⟩ := l7 r hr
  obtain ⟨e, hem, ee⟩ := atI_mem (xs := es) (r := w) w0 (by omega)
  exact ⟨es, e, er, ee, he e hem⟩
theorem run_b (L A : Int) (rows : List D) (hs : SkD L A rows) (x2 : Option Slot) : ∀ (ws : List Int) (s : Int) (acc : List D) (x5 x6 : Option Slot) (D : DEnds), (∀ w ∈ ws, 0 ≤ w ∧ w < L) → 0 ≤ s → s < rows.length → acc.length + ws.length < 10000 →
    (runD rows ws s acc = none → ∀ e, D.rt (.val .none) e) →
    (∀ acc' s' x5' x6', runD rows ws s acc = some (acc', s') → acc'.length ≤ acc.length + ws.length → D.nx [some (.val (.tuple [.int L, .int A, .tuple rows])), some (.val (.int s')), x2, some (.own none (.lst acc')), some (.val (.tuple rows)), x5', x6']) →
    dForL (gNm 5) w_run_from_b1 (ws.map .int) [some (.val (.tuple [.int L, .int A, .tuple rows])), some (.val (.int s)), x2, some (.own none (.lst acc)), some (.val (.tuple rows)), x5, x6] D := by
  intro ws
  induction ws with
  | nil =>
    intro s acc x5 x6 D hw h0 h1 h2 hn h
    simp only [List.map_nil, dForL]
    exact h _ _ _ _ rfl (by simp)
  | cons w ws ih =>
    intro s acc x5 x6 D hw h0 h1 h2 hn h
    simp only [List.map_cons, dForL]
    obtain ⟨w0, w1⟩ := hw w (by simp)
    obtain ⟨es, e, e1, e2, he⟩ := run_step hs h0 h1 w0 w1
    simp only [List.length_cons] at h2 h
    rcases he with rfl | ⟨s2, t, rfl, s0, s1, t0, t1⟩
    · unfold w_run_from_b1
      simp only [dSeq, dIfS, dTst, dOp2, dVarO, dRes, dK, dOf, dVar, dFz, dAsg, gNm, dRet, dRetN, dExp, dCB, dOCons, dONil, dVCons, dVNil, dLst, dTup, dMove, dNext, dNot, dAnd, dOr, dIf, dAndV, dOrV, dNotV, dIsi, dNeg, dSl, dNoP, dPrt, dApp, dPop, dSetIx, dChain, dPar, dPar3, gTp, gCons', gNil', dCall, dFor, dSq, dRng1, dRng2, dEnm, dZip, dLc, dAll, dYes, dVK, dVKs, dNever, dNevE, dBreak, dCont, con, sl, frzS, isB, tuO, daO, sqO, lsO, lenO, ngO, consO, argO, varsO, wrB, untag, owL, tyS, tyD, entryE, tagA, finE, backA, wipeE, backE, keepS, seqD, gAdd, gSub, gI, gMul, gMod, gIc, gDiv, gPow, gEq, isNone, gIs, gLt, gLe, gGt, gGe, gIx, gLen, gIntC, gTupC, gLstC, gRepr, gSl, gII, need_some, atI_0, atI_1, atI_2, atI_3, ixN_30, ixN_31, ixN_32, List.getElem?_cons_zero, List.getElem?_cons_succ, List.getElem?_nil, List.set_cons_zero, List.set_cons_succ, List.length_cons, List.length_nil, Option.join_some, Option.join_none, List.replicate_succ, List.replicate_zero, List.cons_append, List.nil_append, Option.map_some, Nat.zero_add, Nat.reduceAdd, Nat.reduceSub, Bool.not_true, Bool.not_false, if_true, if_false, Bool.false_eq_true, true_and, and_true, decide_true, decide_false, Nat.reduceLeDiff, Nat.reduceEqDiff, reduceIte, reduceCtorEq, Bool.or_false, Bool.or_true, Bool.and_true, Bool.and_false, Bool.true_and, Bool.false_and, Bool.true_or, Bool.false_or, List.map_cons, List.map_nil, List.nodup_cons, List.nodup_nil, List.mem_cons, List.not_mem_nil, not_false_eq_true, or_false, false_or, e1, e2]
      exact hn (by simp [runD, e1, e2]) _
    · have e3 : runD rows (w :: ws) s acc = runD rows ws s2 (acc ++ [.int t]) := by simp [runD, e1, e2]
      rw [e3] at hn h
      have next := ih s2 (acc ++ [.int t]) (some (.val (.int w))) (some (.val (.tuple [.int s2, .int t]))) D (fun x hx => hw x (by simp [hx])) s0 s1 (by simp; omega) hn fun acc' s' x5' x6' k1 k2 => h _ _ _ _ k1 (by simp at k2; omega)
      unfold w_run_from_b1 at next ⊢
      simp only [dSeq, dIfS, dTst, dOp2, dVarO, dRes, dK, dOf, dVar, dFz, dAsg, gNm, dRet, dRetN, dExp, dCB, dOCons, dONil, dVCons, dVNil, dLst, dTup, dMove, dNext, dNot, dAnd, dOr, dIf, dAndV, dOrV, dNotV, dIsi, dNeg, dSl, dNoP, dPrt, dApp, dPop, dSetIx, dChain, dPar, dPar3, gTp, gCons', gNil', dCall, dFor, dSq, dRng1, dRng2, dEnm, dZip, dLc, dAll, dYes, dVK, dVKs, dNever, dNevE, dBreak, dCont, con, sl, frzS, isB, tuO, daO, sqO, lsO, lenO, ngO, consO, argO, varsO, wrB, untag, owL, tyS, tyD, entryE, tagA, finE, backA, wipeE, backE, keepS, seqD, gAdd, gSub, gI, gMul, gMod, gIc, gDiv, gPow, gEq, isNone, gIs, gLt, gLe, gGt, gGe, gIx, gLen, gIntC, gTupC, gLstC, gRepr, gSl, gII, need_some, atI_0, atI_1, atI_2, atI_3, ixN_30, ixN_31, ixN_32, List.getElem?_cons_zero, List.getElem?_cons_succ, List.getElem?_nil, List.set_cons_zero, List.set_cons_succ, List.length_cons, List.length_nil, Option.join_some, Option.join_none, List.replicate_succ, List.replicate_zero, List.cons_append, List.nil_append, Option.map_some, Nat.zero_add, Nat.reduceAdd, Nat.reduceSub, Bool.not_true, Bool.not_false, if_true, if_false, Bool.false_eq_true, true_and, and_true, decide_true, decide_false, Nat.reduceLeDiff, Nat.reduceEqDiff, reduceIte, reduceCtorEq, Bool.or_false, Bool.or_true, Bool.and_true, Bool.and_false, Bool.true_and, Bool.false_and, Bool.true_or, Bool.false_or, List.map_cons, List.map_nil, List.nodup_cons, List.nodup_nil, List.mem_cons, List.not_mem_nil, not_false_eq_true, or_false, false_or, e1, e2]
      exact ⟨szlt (by omega), next⟩
theorem sp_run_from (L A : Int) (rows : List D) (ws : List Int) (Q : Slot → List Slot → Prop) (X : Value → Prop) (hs : SkD L A rows) (hw : ∀ w ∈ ws, 0 ≤ w ∧ w < L) (hl : ws.length ≤ 600)
    (h : Q (.val (outD (runD rows ws 0 []))) [.val (.tuple [.int L, .int A, .tuple rows]), .val (.int 0), .val (.tuple (ws.map .int))]) :
    fs_run_from [.val (.tuple [.int L, .int A, .tuple rows]), .val (.int 0), .val (.tuple (ws.map .int))] Q X := by
  refine ⟨rfl, ?_⟩
  unfold w_run_from
  simp only [dSeq, dIfS, dTst, dOp2, dVarO, dRes, dK, dOf, dVar, dFz, dAsg, gNm, dRet, dRetN, dExp, dCB, dOCons, dONil, dVCons, dVNil, dLst, dTup, dMove, dNext, dNot, dAnd, dOr, dIf, dAndV, dOrV, dNotV, dIsi, dNeg, dSl, dNoP, dPrt, dApp, dPop, dSetIx, dChain, dPar, dPar3, gTp, gCons', gNil', dCall, dFor, dSq, dRng1, dRng2, dEnm, dZip, dLc, dAll, dYes, dVK, dVKs, dNever, dNevE, dBreak, dCont, con, sl, frzS, isB, tuO, daO, sqO, lsO, lenO, ngO, consO, argO, varsO, wrB, untag, owL, tyS, tyD, entryE, tagA, finE, backA, wipeE, backE, keepS, seqD, gAdd, gSub, gI, gMul, gMod, gIc, gDiv, gPow, gEq, isNone, gIs, gLt, gLe, gGt, gGe, gIx, gLen, gIntC, gTupC, gLstC, gRepr, gSl, gII, need_some, atI_0, atI_1, atI_2, atI_3, ixN_30, ixN_31, ixN_32, List.getElem?_cons_zero, List.getElem?_cons_succ, List.getElem?_nil, List.set_cons_zero, List.set_cons_succ, List.length_cons, List.length_nil, Option.join_some, Option.join_none, List.replicate_succ, List.replicate_zero, List.cons_append, List.nil_append, Option.map_some, Nat.zero_add, Nat.reduceAdd, Nat.reduceSub, Bool.not_true, Bool.not_false, if_true, if_false, Bool.false_eq_true, true_and, and_true, decide_true, decide_false, Nat.reduceLeDiff, Nat.reduceEqDiff, reduceIte, reduceCtorEq, Bool.or_false, Bool.or_true, Bool.and_true, Bool.and_false, Bool.true_and, Bool.false_and, Bool.true_or, Bool.false_or, List.map_cons, List.map_nil, List.nodup_cons, List.nodup_nil, List.mem_cons, List.not_mem_nil, not_false_eq_true, or_false, false_or]
  refine ⟨Nat.zero_le _, ?_⟩
  refine run_b L A rows hs _ ws 0 [] _ _ _ hw (by omega) (by have := hs.2.2.2.2.1; omega) (by simp; omega) (fun e env => ?_) fun acc' s' x5 x6 e k => ?_
  · rw [e] at h
    simp only [dSeq, dIfS, dTst, dOp2, dVarO, dRes, dK, dOf, dVar, dFz, dAsg, gNm, dRet, dRetN, dExp, dCB, dOCons, dONil, dVCons, dVNil, dLst, dTup, dMove, dNext, dNot, dAnd, dOr, dIf, dAndV, dOrV, dNotV, dIsi, dNeg, dSl, dNoP, dPrt, dApp, dPop, dSetIx, dChain, dPar, dPar3, gTp, gCons', gNil', dCall, dFor, dSq, dRng1, dRng2, dEnm, dZip, dLc, dAll, dYes, dVK, dVKs, dNever, dNevE, dBreak, dCont, con, sl, frzS, isB, tuO, daO, sqO, lsO, lenO, ngO, consO, argO, varsO, wrB, untag, owL, tyS, tyD, entryE, tagA, finE, backA, wipeE, backE, keepS, seqD, gAdd, gSub, gI, gMul, gMod, gIc, gDiv, gPow, gEq, isNone, gIs, gLt, gLe, gGt, gGe, gIx, gLen, gIntC, gTupC, gLstC, gRepr, gSl, gII, need_some, atI_0, atI_1, atI_2, atI_3, ixN_30, ixN_31, ixN_32, List.getElem?_cons_zero, List.getElem?_cons_succ, List.getElem?_nil, List.set_cons_zero, List.set_cons_succ, List.length_cons, List.length_nil, Option.join_some, Option.join_none, List.replicate_succ, List.replicate_zero, List.cons_append, List.nil_append, Option.map_some, Nat.zero_add, Nat.reduceAdd, Nat.reduceSub, Bool.not_true, Bool.not_false, if_true, if_false, Bool.false_eq_true, true_and, and_true, decide_true, decide_false, Nat.reduceLeDiff, Nat.reduceEqDiff, reduceIte, reduceCtorEq, Bool.or_false, Bool.or_true, Bool.and_true, Bool.and_false, Bool.true_and, Bool.false_and, Bool.true_or, Bool.false_or, List.map_cons, List.map_nil, List.nodup_cons, List.nodup_nil, List.mem_cons, List.not_mem_nil, not_false_eq_true, or_false, false_or]
    exact h
  · rw [e] at h
    simp only [dSeq, dIfS, dTst, dOp2, dVarO, dRes, dK, dOf, dVar, dFz, dAsg, gNm, dRet, dRetN, dExp, dCB, dOCons, dONil, dVCons, dVNil, dLst, dTup, dMove, dNext, dNot, dAnd, dOr, dIf, dAndV, dOrV, dNotV, dIsi, dNeg, dSl, dNoP, dPrt, dApp, dPop, dSetIx, dChain, dPar, dPar3, gTp, gCons', gNil', dCall, dFor, dSq, dRng1, dRng2, dEnm, dZip, dLc, dAll, dYes, dVK, dVKs, dNever, dNevE, dBreak, dCont, con, sl, frzS, isB, tuO, daO, sqO, lsO, lenO, ngO, consO, argO, varsO, wrB, untag, owL, tyS, tyD, entryE, tagA, finE, backA, wipeE, backE, keepS, seqD, gAdd, gSub, gI, gMul, gMod, gIc, gDiv, gPow, gEq, isNone, gIs, gLt, gLe, gGt, gGe, gIx, gLen, gIntC, gTupC, gLstC, gRepr, gSl, gII, need_some, atI_0, atI_1, atI_2, atI_3, ixN_30, ixN_31, ixN_32, List.getElem?_cons_zero, List.getElem?_cons_succ, List.getElem?_nil, List.set_cons_zero, List.set_cons_succ, List.length_cons, List.length_nil, Option.join_some, Option.join_none, List.replicate_succ, List.replicate_zero, List.cons_append, List.nil_append, Option.map_some, Nat.zero_add, Nat.reduceAdd, Nat.reduceSub, Bool.not_true, Bool.not_false, if_true, if_false, Bool.false_eq_true, true_and, and_true, decide_true, decide_false, Nat.reduceLeDiff, Nat.reduceEqDiff, reduceIte, reduceCtorEq, Bool.or_false, Bool.or_true, Bool.and_true, Bool.and_false, Bool.true_and, Bool.false_and, Bool.true_or, Bool.false_or, List.map_cons, List.map_nil, List.nodup_cons, List.nodup_nil, List.mem_cons, List.not_mem_nil, not_false_eq_true, or_false, false_or]
    exact ⟨sz2, h⟩
theorem lrun_b (L A : Int) (rows : List D) (hs : SkD L A rows) (x2 : Option Slot) : ∀ (ws : List Int) (s : Int) (acc : List D) (x4 x5 : Option Slot) (D : DEnds), (∀ w ∈ ws, 0 ≤ w ∧ w < L) → 0 ≤ s → s < rows.length → acc.length + ws.length < 10000 →
    (runD rows ws s acc = none → ∀ e, D.rt (.val .none) e) →
    (∀ acc' s' x4' x5', runD rows ws s acc = some (acc', s') → acc'.length ≤ acc.length + ws.length → D.nx [some (.val (.tuple [.int L, .int A, .tuple rows])), some (.val (.int s')), x2, some (.own none (.lst acc')), x4', x5']) →
    dForL (gNm 4) w__law_run_b1 (ws.map .int) [some (.val (.tuple [.int L, .int A, .tuple rows])), some (.val (.int s)), x2, some (.own none (.lst acc)), x4, x5] D := by
  intro ws
  induction ws with
  | nil =>
    intro s acc x4 x5 D hw h0 h1 h2 hn h
    simp only [List.map_nil, dForL]
    exact h _ _ _ _ rfl (by simp)
  | cons w ws ih =>
    intro s acc x4 x5 D hw h0 h1 h2 hn h
    simp only [List.map_cons, dForL]
    obtain ⟨w0, w1⟩ := hw w (by simp)
    obtain ⟨es, e, e1, e2, he⟩ := run_step hs h0 h1 w0 w1
    simp only [List.length_cons] at h2 h
    rcases he with rfl | ⟨s2, t, rfl, s0, s1, t0, t1⟩
    · unfold w__law_run_b1
      simp only [dSeq, dIfS, dTst, dOp2, dVarO, dRes, dK, dOf, dVar, dFz, dAsg, gNm, dRet, dRetN, dExp, dCB, dOCons, dONil, dVCons, dVNil, dLst, dTup, dMove, dNext, dNot, dAnd, dOr, dIf, dAndV, dOrV, dNotV, dIsi, dNeg, dSl, dNoP, dPrt, dApp, dPop, dSetIx, dChain, dPar, dPar3, gTp, gCons', gNil', dCall, dFor, dSq, dRng1, dRng2, dEnm, dZip, dLc, dAll, dYes, dVK, dVKs, dNever, dNevE, dBreak, dCont, con, sl, frzS, isB, tuO, daO, sqO, lsO, lenO, ngO, consO, argO, varsO, wrB, untag, owL, tyS, tyD, entryE, tagA, finE, backA, wipeE, backE, keepS, seqD, gAdd, gSub, gI, gMul, gMod, gIc, gDiv, gPow, gEq, isNone, gIs, gLt, gLe, gGt, gGe, gIx, gLen, gIntC, gTupC, gLstC, gRepr, gSl, gII, need_some, atI_0, atI_1, atI_2, atI_3, ixN_30, ixN_31, ixN_32, List.getElem?_cons_zero, List.getElem?_cons_succ, List.getElem?_nil, List.set_cons_zero, List.set_cons_succ, List.length_cons, List.length_nil, Option.join_some, Option.join_none, List.replicate_succ, List.replicate_zero, List.cons_append, List.nil_append, Option.map_some, Nat.zero_add, Nat.reduceAdd, Nat.reduceSub, Bool.not_true, Bool.not_false, if_true, if_false, Bool.false_eq_true, true_and, and_true, decide_true, decide_false, Nat.reduceLeDiff, Nat.reduceEqDiff, reduceIte, reduceCtorEq, Bool.or_false, Bool.or_true, Bool.and_true, Bool.and_false, Bool.true_and, Bool.false_and, Bool.true_or, Bool.false_or, List.map_cons, List.map_nil, List.nodup_cons, List.nodup_nil, List.mem_cons, List.not_mem_nil, not_false_eq_true, or_false, false_or, e1, e2]
      exact hn (by simp [runD, e1, e2]) _
    · have e3 : runD rows (w :: ws) s acc = runD rows ws s2 (acc ++ [.int t]) := by simp [runD, e1, e2]
      rw [e3] at hn h
      have next := ih s2 (acc ++ [.int t]) (some (.val (.int w))) (some (.val (.tuple [.int s2, .int t]))) D (fun x hx => hw x (by simp [hx])) s0 s1 (by simp; omega) hn fun acc' s' x5' x6' k1 k2 => h _ _ _ _ k1 (by simp at k2; omega)
      unfold w__law_run_b1 at next ⊢
      simp only [dSeq, dIfS, dTst, dOp2, dVarO, dRes, dK, dOf, dVar, dFz, dAsg, gNm, dRet, dRetN, dExp, dCB, dOCons, dONil, dVCons, dVNil, dLst, dTup, dMove, dNext, dNot, dAnd, dOr, dIf, dAndV, dOrV, dNotV, dIsi, dNeg, dSl, dNoP, dPrt, dApp, dPop, dSetIx, dChain, dPar, dPar3, gTp, gCons', gNil', dCall, dFor, dSq, dRng1, dRng2, dEnm, dZip, dLc, dAll, dYes, dVK, dVKs, dNever, dNevE, dBreak, dCont, con, sl, frzS, isB, tuO, daO, sqO, lsO, lenO, ngO, consO, argO, varsO, wrB, untag, owL, tyS, tyD, entryE, tagA, finE, backA, wipeE, backE, keepS, seqD, gAdd, gSub, gI, gMul, gMod, gIc, gDiv, gPow, gEq, isNone, gIs, gLt, gLe, gGt, gGe, gIx, gLen, gIntC, gTupC, gLstC, gRepr, gSl, gII, need_some, atI_0, atI_1, atI_2, atI_3, ixN_30, ixN_31, ixN_32, List.getElem?_cons_zero, List.getElem?_cons_succ, List.getElem?_nil, List.set_cons_zero, List.set_cons_succ, List.length_cons, List.length_nil, Option.join_some, Option.join_none, List.replicate_succ, List.replicate_zero, List.cons_append, List.nil_append, Option.map_some, Nat.zero_add, Nat.reduceAdd, Nat.reduceSub, Bool.not_true, Bool.not_false, if_true, if_false, Bool.false_eq_true, true_and, and_true, decide_true, decide_false, Nat.reduceLeDiff, Nat.reduceEqDiff, reduceIte, reduceCtorEq, Bool.or_false, Bool.or_true, Bool.and_true, Bool.and_false, Bool.true_and, Bool.false_and, Bool.true_or, Bool.false_or, List.map_cons, List.map_nil, List.nodup_cons, List.nodup_nil, List.mem_cons, List.not_mem_nil, not_false_eq_true, or_false, false_or, e1, e2]
      exact ⟨szlt (by omega), next⟩
theorem sp_lrun (L A : Int) (rows : List D) (ws : List Int) (Q : Slot → List Slot → Prop) (X : Value → Prop) (hs : SkD L A rows) (hw : ∀ w ∈ ws, 0 ≤ w ∧ w < L) (hl : ws.length ≤ 600)
    (h : Q (.val (outD (runD rows ws 0 []))) [.val (.tuple [.int L, .int A, .tuple rows]), .val (.int 0), .val (.tuple (ws.map .int))]) :
    fs__law_run [.val (.tuple [.int L, .int A, .tuple rows]), .val (.int 0), .val (.tuple (ws.map .int))] Q X := by
  refine ⟨rfl, ?_⟩
  unfold w__law_run
  simp only [dSeq, dIfS, dTst, dOp2, dVarO, dRes, dK, dOf, dVar, dFz, dAsg, gNm, dRet, dRetN, dExp, dCB, dOCons, dONil, dVCons, dVNil, dLst, dTup, dMove, dNext, dNot, dAnd, dOr, dIf, dAndV, dOrV, dNotV, dIsi, dNeg, dSl, dNoP, dPrt, dApp, dPop, dSetIx, dChain, dPar, dPar3, gTp, gCons', gNil', dCall, dFor, dSq, dRng1, dRng2, dEnm, dZip, dLc, dAll, dYes, dVK, dVKs, dNever, dNevE, dBreak, dCont, con, sl, frzS, isB, tuO, daO, sqO, lsO, lenO, ngO, consO, argO, varsO, wrB, untag, owL, tyS, tyD, entryE, tagA, finE, backA, wipeE, backE, keepS, seqD, gAdd, gSub, gI, gMul, gMod, gIc, gDiv, gPow, gEq, isNone, gIs, gLt, gLe, gGt, gGe, gIx, gLen, gIntC, gTupC, gLstC, gRepr, gSl, gII, need_some, atI_0, atI_1, atI_2, atI_3, ixN_30, ixN_31, ixN_32, List.getElem?_cons_zero, List.getElem?_cons_succ, List.getElem?_nil, List.set_cons_zero, List.set_cons_succ, List.length_cons, List.length_nil, Option.join_some, Option.join_none, List.replicate_succ, List.replicate_zero, List.cons_append, List.nil_append, Option.map_some, Nat.zero_add, Nat.reduceAdd, Nat.reduceSub, Bool.not_true, Bool.not_false, if_true, if_false, Bool.false_eq_true, true_and, and_true, decide_true, decide_false, Nat.reduceLeDiff, Nat.reduceEqDiff, reduceIte, reduceCtorEq, Bool.or_false, Bool.or_true, Bool.and_true, Bool.and_false, Bool.true_and, Bool.false_and, Bool.true_or, Bool.false_or, List.map_cons, List.map_nil, List.nodup_cons, List.nodup_nil, List.mem_cons, List.not_mem_nil, not_false_eq_true, or_false, false_or]
  refine ⟨Nat.zero_le _, ?_⟩
  refine lrun_b L A rows hs _ ws 0 [] _ _ _ hw (by omega) (by have := hs.2.2.2.2.1; omega) (by simp; omega) (fun e env => ?_) fun acc' s' x5 x6 e k => ?_
  · rw [e] at h
    simp only [dSeq, dIfS, dTst, dOp2, dVarO, dRes, dK, dOf, dVar, dFz, dAsg, gNm, dRet, dRetN, dExp, dCB, dOCons, dONil, dVCons, dVNil, dLst, dTup, dMove, dNext, dNot, dAnd, dOr, dIf, dAndV, dOrV, dNotV, dIsi, dNeg, dSl, dNoP, dPrt, dApp, dPop, dSetIx, dChain, dPar, dPar3, gTp, gCons', gNil', dCall, dFor, dSq, dRng1, dRng2, dEnm, dZip, dLc, dAll, dYes, dVK, dVKs, dNever, dNevE, dBreak, dCont, con, sl, frzS, isB, tuO, daO, sqO, lsO, lenO, ngO, consO, argO, varsO, wrB, untag, owL, tyS, tyD, entryE, tagA, finE, backA, wipeE, backE, keepS, seqD, gAdd, gSub, gI, gMul, gMod, gIc, gDiv, gPow, gEq, isNone, gIs, gLt, gLe, gGt, gGe, gIx, gLen, gIntC, gTupC, gLstC, gRepr, gSl, gII, need_some, atI_0, atI_1, atI_2, atI_3, ixN_30, ixN_31, ixN_32, List.getElem?_cons_zero, List.getElem?_cons_succ, List.getElem?_nil, List.set_cons_zero, List.set_cons_succ, List.length_cons, List.length_nil, Option.join_some, Option.join_none, List.replicate_succ, List.replicate_zero, List.cons_append, List.nil_append, Option.map_some, Nat.zero_add, Nat.reduceAdd, Nat.reduceSub, Bool.not_true, Bool.not_false, if_true, if_false, Bool.false_eq_true, true_and, and_true, decide_true, decide_false, Nat.reduceLeDiff, Nat.reduceEqDiff, reduceIte, reduceCtorEq, Bool.or_false, Bool.or_true, Bool.and_true, Bool.and_false, Bool.true_and, Bool.false_and, Bool.true_or, Bool.false_or, List.map_cons, List.map_nil, List.nodup_cons, List.nodup_nil, List.mem_cons, List.not_mem_nil, not_false_eq_true, or_false, false_or]
    exact h
  · rw [e] at h
    simp only [dSeq, dIfS, dTst, dOp2, dVarO, dRes, dK, dOf, dVar, dFz, dAsg, gNm, dRet, dRetN, dExp, dCB, dOCons, dONil, dVCons, dVNil, dLst, dTup, dMove, dNext, dNot, dAnd, dOr, dIf, dAndV, dOrV, dNotV, dIsi, dNeg, dSl, dNoP, dPrt, dApp, dPop, dSetIx, dChain, dPar, dPar3, gTp, gCons', gNil', dCall, dFor, dSq, dRng1, dRng2, dEnm, dZip, dLc, dAll, dYes, dVK, dVKs, dNever, dNevE, dBreak, dCont, con, sl, frzS, isB, tuO, daO, sqO, lsO, lenO, ngO, consO, argO, varsO, wrB, untag, owL, tyS, tyD, entryE, tagA, finE, backA, wipeE, backE, keepS, seqD, gAdd, gSub, gI, gMul, gMod, gIc, gDiv, gPow, gEq, isNone, gIs, gLt, gLe, gGt, gGe, gIx, gLen, gIntC, gTupC, gLstC, gRepr, gSl, gII, need_some, atI_0, atI_1, atI_2, atI_3, ixN_30, ixN_31, ixN_32, List.getElem?_cons_zero, List.getElem?_cons_succ, List.getElem?_nil, List.set_cons_zero, List.set_cons_succ, List.length_cons, List.length_nil, Option.join_some, Option.join_none, List.replicate_succ, List.replicate_zero, List.cons_append, List.nil_append, Option.map_some, Nat.zero_add, Nat.reduceAdd, Nat.reduceSub, Bool.not_true, Bool.not_false, if_true, if_false, Bool.false_eq_true, true_and, and_true, decide_true, decide_false, Nat.reduceLeDiff, Nat.reduceEqDiff, reduceIte, reduceCtorEq, Bool.or_false, Bool.or_true, Bool.and_true, Bool.and_false, Bool.true_and, Bool.false_and, Bool.true_or, Bool.false_or, List.map_cons, List.map_nil, List.nodup_cons, List.nodup_nil, List.mem_cons, List.not_mem_nil, not_false_eq_true, or_false, false_or]
    exact ⟨sz2, h⟩
end DV

set_option Elab.async false
set_option linter.all false
set_option maxRecDepth 100000
set_option maxHeartbeats 4000000
namespace DV
open PySem PySem.Spec PyProof.Rows L2
def Small (d : D) : Prop := ∃ t : Int, d = .int t ∧ 0 ≤ t ∧ t < 100
theorem run_small {L A : Int} {rows : List D} (hs : SkD L A rows) : ∀ (ws : List Int) (s : Int) (acc acc' : List D) (s' : Int), (∀ w ∈ ws, 0 ≤ w ∧ w < L) → 0 ≤ s → s < rows.length → (∀ e ∈ acc, Small e) → runD rows ws s acc = some (acc', s') → (∀ e ∈ acc', Small e) ∧ 0 ≤ s' ∧ s' < 100 ∧ acc'.length ≤ acc.length + ws.length := by
  intro ws
  induction ws with
  | nil =>
    intro s acc acc' s' hw h0 h1 ha h
    cases h
    have := hs.2.2.2.2.2.1
    exact ⟨ha, h0, by omega, by simp⟩
  | cons w ws ih =>
    intro s acc acc' s' hw h0 h1 ha h
    obtain ⟨w0, w1⟩ := hw w (by simp)
    obtain ⟨es, e, e1, e2, he⟩ := run_step hs h0 h1 w0 w1
    rcases he with rfl | ⟨s2, t, rfl, s0, s1, t0, t1⟩
    · simp [runD, e1, e2] at h
    · have e3 : runD rows (w :: ws) s acc = runD rows ws s2 (acc ++ [.int t]) := by simp [runD, e1, e2]
      rw [e3] at h
      have hA := hs.2.2.2.1
      obtain ⟨k1, k2, k3, k4⟩ := ih s2 _ acc' s' (fun x hx => hw x (by simp [hx])) s0 s1 (mem_snoc ha ⟨t, rfl, t0, by omega⟩) h
      exact ⟨k1, k2, k3, by simp at k4 ⊢; omega⟩
theorem small_len (t : Int) (h0 : 0 ≤ t) (h1 : t < 100) : (PyData.shown (.int t)).length ≤ 2 := by
  obtain ⟨n, rfl⟩ := Int.eq_ofNat_of_zero_le h0
  have hn : n < 100 := by omega
  have key : ∀ m : Fin 100, (PyData.shown (.int ((m : Nat) : Int))).length ≤ 2 := by decide +kernel
  exact key ⟨n, hn⟩
theorem small_show (t : Int) (h0 : 0 ≤ t) (h1 : t < 100) : (PyData.int t).showable = true := by
  obtain ⟨n, rfl⟩ := Int.eq_ofNat_of_zero_le h0
  have hn : n < 100 := by omega
  have key : ∀ m : Fin 100, (PyData.int ((m : Nat) : Int)).showable = true := by decide +kernel
  exact key ⟨n, hn⟩
theorem smalls_len : ∀ {ds : List D}, (∀ e ∈ ds, Small e) → ((PyData.shownAll ds).map (·.length)).sum ≤ 2 * ds.length ∧ (PyData.shownAll ds).length = ds.length ∧ PyData.showableAll ds = true
  | [], _ => ⟨by simp [PyData.shownAll], by simp [PyData.shownAll], by simp [PyData.showableAll]⟩
  | d :: ds, h => by
    obtain ⟨t, rfl, t0, t1⟩ := h d (by simp)
    obtain ⟨k1, k2, k3⟩ := smalls_len (ds := ds) fun e he => h e (by simp [he])
    have := small_len t t0 t1
    refine ⟨by simp only [PyData.shownAll, List.map_cons, List.sum_cons, List.length_cons]; omega, by simp only [PyData.shownAll, List.length_cons, k2], by simp only [PyData.showableAll, small_show t t0 t1, k3, Bool.and_self]⟩
def tD : Option (List D × Int) → D
  | none => .none
  | some (acc, _) => .tuple acc
def bD : Option (List D × Int) → D
  | none => .none
  | some (_, s) => .int s
def GoodR (o : Option (List D × Int)) : Prop := ∀ acc s, o = some (acc, s) → (∀ e ∈ acc, Small e) ∧ 0 ≤ s ∧ s < 100 ∧ acc.length ≤ 600
theorem small_flat {ds : List D} (h : ∀ e ∈ ds, Small e) : ∀ d ∈ ds, Flat 0 d := fun d hd => by
  obtain ⟨t, rfl, _⟩ := h d hd
  exact flat_int
theorem repr_ok (o : Option (List D × Int)) (h : GoodR o) : ReprOk (.tuple [tD o, bD o]) := by
  match o, h with
  | none, _ =>
    have f : Flat 1 (.tuple [.none, .none]) := flat_tup fun d hd => by
      simp only [List.mem_cons, List.not_mem_nil, or_false, or_self] at hd
      subst hd
      exact flat_none
    exact ⟨f.1, by decide +kernel, Nat.le_trans f.2 (by decide), by decide +kernel⟩
  | some (acc, s), h =>
    obtain ⟨h1, h2, h3, h4⟩ := h acc s rfl
    obtain ⟨k1, k2, k3⟩ := smalls_len h1
    have f : Flat 2 (.tuple [.tuple acc, .int s]) := flat_tup fun d hd => by
      simp only [List.mem_cons, List.not_mem_nil, or_false] at hd
      rcases hd with rfl | rfl
      · exact flat_tup (small_flat h1)
      · exact flat_int
    refine ⟨f.1, ?_, Nat.le_trans f.2 (by decide), ?_⟩
    · show PyData.showable (.tuple [.tuple acc, .int s]) = true
      simp only [PyData.showable, PyData.showableAll, k3, Bool.true_and, Bool.and_true]
      have := small_show s h2 h3
      simpa only [PyData.showable] using this
    · show (PyData.shown (.tuple [.tuple acc, .int s])).length ≤ sizeLine
      have a1 := small_len s h2 h3
      simp only [PyData.shown, PyData.shownAll]
      have a2 := tupleText_len_le (PyData.shownAll acc)
      have a3 := tupleText_len_le [tupleText (PyData.shownAll acc), PyData.shown (.int s)]
      simp only [List.map_cons, List.map_nil, List.sum_cons, List.sum_nil, List.length_cons, List.length_nil] at a3
      simp only [PyData.shown] at a1 a3
      refine Nat.le_of_lt (szlt (Nat.lt_of_le_of_lt a3 ?_))
      omega
section
variable (L A : Int) (rows : List D) (ws : List Int) (Q : Slot → List Slot → Prop) (X : Value → Prop) (hs : SkD L A rows) (hw : ∀ w ∈ ws, 0 ≤ w ∧ w < L) (hl : ws.length ≤ 600)
include hs hw hl
theorem sp_answers (h : Q (.val (tD (runD rows ws 0 []))) [.val (.tuple [.int L, .int A, .tuple rows]), .val (.int 0), .val (.tuple (ws.map .int))]) :
    fs_answers_from [.val (.tuple [.int L, .int A, .tuple rows]), .val (.int 0), .val (.tuple (ws.map .int))] Q X := by
  refine ⟨rfl, ?_⟩
  unfold w_answers_from
  refine seqI fun U hU => ?_
  simp only [dSeq, dIfS, dTst, dOp2, dVarO, dRes, dK, dOf, dVar, dFz, dAsg, gNm, dRet, dRetN, dExp, dCB, dOCons, dONil, dVCons, dVNil, dLst, dTup, dMove, dNext, dNot, dAnd, dOr, dIf, dAndV, dOrV, dNotV, dIsi, dNeg, dSl, dNoP, dPrt, dApp, dPop, dSetIx, dChain, dPar, dPar3, gTp, gCons', gNil', dCall, dFor, dSq, dRng1, dRng2, dEnm, dZip, dLc, dAll, dYes, dVK, dVKs, dNever, dNevE, dBreak, dCont, con, sl, frzS, isB, tuO, daO, sqO, lsO, lenO, ngO, consO, argO, varsO, wrB, untag, owL, tyS, tyD, entryE, tagA, finE, backA, wipeE, backE, keepS, seqD, gAdd, gSub, gI, gMul, gMod, gIc, gDiv, gPow, gEq, isNone, gIs, gLt, gLe, gGt, gGe, gIx, gLen, gIntC, gTupC, gLstC, gRepr, gSl, gII, need_some, atI_0, atI_1, atI_2, atI_3, ixN_30, ixN_31, ixN_32, List.getElem?_cons_zero, List.getElem?_cons_succ, List.getElem?_nil, List.set_cons_zero, List.set_cons_succ, List.length_cons, List.length_nil, Option.join_some, Option.join_none, List.replicate_succ, List.replicate_zero, List.cons_append, List.nil_append, Option.map_some, Nat.zero_add, Nat.reduceAdd, Nat.reduceSub, Bool.not_true, Bool.not_false, if_true, if_false, Bool.false_eq_true, true_and, and_true, decide_true, decide_false, Nat.reduceLeDiff, Nat.reduceEqDiff, reduceIte, reduceCtorEq, Bool.or_false, Bool.or_true, Bool.and_true, Bool.and_false, Bool.true_and, Bool.false_and, Bool.true_or, Bool.false_or, List.map_cons, List.map_nil, List.nodup_cons, List.nodup_nil, List.mem_cons, List.not_mem_nil, not_false_eq_true, or_false, false_or]
  refine sp_run_from _ _ _ _ _ _ hs hw hl ?_
  simp only [dSeq, dIfS, dTst, dOp2, dVarO, dRes, dK, dOf, dVar, dFz, dAsg, gNm, dRet, dRetN, dExp, dCB, dOCons, dONil, dVCons, dVNil, dLst, dTup, dMove, dNext, dNot, dAnd, dOr, dIf, dAndV, dOrV, dNotV, dIsi, dNeg, dSl, dNoP, dPrt, dApp, dPop, dSetIx, dChain, dPar, dPar3, gTp, gCons', gNil', dCall, dFor, dSq, dRng1, dRng2, dEnm, dZip, dLc, dAll, dYes, dVK, dVKs, dNever, dNevE, dBreak, dCont, con, sl, frzS, isB, tuO, daO, sqO, lsO, lenO, ngO, consO, argO, varsO, wrB, untag, owL, tyS, tyD, entryE, tagA, finE, backA, wipeE, backE, keepS, seqD, gAdd, gSub, gI, gMul, gMod, gIc, gDiv, gPow, gEq, isNone, gIs, gLt, gLe, gGt, gGe, gIx, gLen, gIntC, gTupC, gLstC, gRepr, gSl, gII, need_some, atI_0, atI_1, atI_2, atI_3, ixN_30, ixN_31, ixN_32, List.getElem?_cons_zero, List.getElem?_cons_succ, List.getElem?_nil, List.set_cons_zero, List.set_cons_succ, List.length_cons, List.length_nil, Option.join_some, Option.join_none, List.replicate_succ, List.replicate_zero, List.cons_append, List.nil_append, Option.map_some, Nat.zero_add, Nat.reduceAdd, Nat.reduceSub, Bool.not_true, Bool.not_false, if_true, if_false, Bool.false_eq_true, true_and, and_true, decide_true, decide_false, Nat.reduceLeDiff, Nat.reduceEqDiff, reduceIte, reduceCtorEq, Bool.or_false, Bool.or_true, Bool.and_true, Bool.and_false, Bool.true_and, Bool.false_and, Bool.true_or, Bool.false_or, List.map_cons, List.map_nil, List.nodup_cons, List.nodup_nil, List.mem_cons, List.not_mem_nil, not_false_eq_true, or_false, false_or]
  refine hU _ ?_
  match runD rows ws 0 [], h with
  | none, h => simp only [dSeq, dIfS, dTst, dOp2, dVarO, dRes, dK, dOf, dVar, dFz, dAsg, gNm, dRet, dRetN, dExp, dCB, dOCons, dONil, dVCons, dVNil, dLst, dTup, dMove, dNext, dNot, dAnd, dOr, dIf, dAndV, dOrV, dNotV, dIsi, dNeg, dSl, dNoP, dPrt, dApp, dPop, dSetIx, dChain, dPar, dPar3, gTp, gCons', gNil', dCall, dFor, dSq, dRng1, dRng2, dEnm, dZip, dLc, dAll, dYes, dVK, dVKs, dNever, dNevE, dBreak, dCont, con, sl, frzS, isB, tuO, daO, sqO, lsO, lenO, ngO, consO, argO, varsO, wrB, untag, owL, tyS, tyD, entryE, tagA, finE, backA, wipeE, backE, keepS, seqD, gAdd, gSub, gI, gMul, gMod, gIc, gDiv, gPow, gEq, isNone, gIs, gLt, gLe, gGt, gGe, gIx, gLen, gIntC, gTupC, gLstC, gRepr, gSl, gII, need_some, atI_0, atI_1, atI_2, atI_3, ixN_30, ixN_31, ixN_32, List.getElem?_cons_zero, List.getElem?_cons_succ, List.getElem?_nil, List.set_cons_zero, List.set_cons_succ, List.length_cons, List.length_nil, Option.join_some, Option.join_none, List.replicate_succ, List.replicate_zero, List.cons_append, List.nil_append, Option.map_some, Nat.zero_add, Nat.reduceAdd, Nat.reduceSub, Bool.not_true, Bool.not_false, if_true, if_false, Bool.false_eq_true, true_and, and_true, decide_true, decide_false, Nat.reduceLeDiff, Nat.reduceEqDiff, reduceIte, reduceCtorEq, Bool.or_false, Bool.or_true, Bool.and_true, Bool.and_false, Bool.true_and, Bool.false_and, Bool.true_or, Bool.false_or, List.map_cons, List.map_nil, List.nodup_cons, List.nodup_nil, List.mem_cons, List.not_mem_nil, not_false_eq_true, or_false, false_or, outD]; exact h
  | some (acc, s), h => simp only [dSeq, dIfS, dTst, dOp2, dVarO, dRes, dK, dOf, dVar, dFz, dAsg, gNm, dRet, dRetN, dExp, dCB, dOCons, dONil, dVCons, dVNil, dLst, dTup, dMove, dNext, dNot, dAnd, dOr, dIf, dAndV, dOrV, dNotV, dIsi, dNeg, dSl, dNoP, dPrt, dApp, dPop, dSetIx, dChain, dPar, dPar3, gTp, gCons', gNil', dCall, dFor, dSq, dRng1, dRng2, dEnm, dZip, dLc, dAll, dYes, dVK, dVKs, dNever, dNevE, dBreak, dCont, con, sl, frzS, isB, tuO, daO, sqO, lsO, lenO, ngO, consO, argO, varsO, wrB, untag, owL, tyS, tyD, entryE, tagA, finE, backA, wipeE, backE, keepS, seqD, gAdd, gSub, gI, gMul, gMod, gIc, gDiv, gPow, gEq, isNone, gIs, gLt, gLe, gGt, gGe, gIx, gLen, gIntC, gTupC, gLstC, gRepr, gSl, gII, need_some, atI_0, atI_1, atI_2, atI_3, ixN_30, ixN_31, ixN_32, List.getElem?_cons_zero, List.getElem?_cons_succ, List.getElem?_nil, List.set_cons_zero, List.set_cons_succ, List.length_cons, List.length_nil, Option.join_some, Option.join_none, List.replicate_succ, List.replicate_zero, List.cons_append, List.nil_append, Option.map_some, Nat.zero_add, Nat.reduceAdd, Nat.reduceSub, Bool.not_true, Bool.not_false, if_true, if_false, Bool.false_eq_true, true_and, and_true, decide_true, decide_false, Nat.reduceLeDiff, Nat.reduceEqDiff, reduceIte, reduceCtorEq, Bool.or_false, Bool.or_true, Bool.and_true, Bool.and_false, Bool.true_and, Bool.false_and, Bool.true_or, Bool.false_or, List.map_cons, List.map_nil, List.nodup_cons, List.nodup_nil, List.mem_cons, List.not_mem_nil, not_false_eq_true, or_false, false_or, outD]; exact h
theorem sp_state (h : Q (.val (bD (runD rows ws 0 []))) [.val (.tuple [.int L, .int A, .tuple rows]), .val (.int 0), .val (.tuple (ws.map .int))]) :
    fs_state_from [.val (.tuple [.int L, .int A, .tuple rows]), .val (.int 0), .val (.tuple (ws.map .int))] Q X := by
  refine ⟨rfl, ?_⟩
  unfold w_state_from
  refine seqI fun U hU => ?_
  simp only [dSeq, dIfS, dTst, dOp2, dVarO, dRes, dK, dOf, dVar, dFz, dAsg, gNm, dRet, dRetN, dExp, dCB, dOCons, dONil, dVCons, dVNil, dLst, dTup, dMove, dNext, dNot, dAnd, dOr, dIf, dAndV, dOrV, dNotV, dIsi, dNeg, dSl, dNoP, dPrt, dApp, dPop, dSetIx, dChain, dPar, dPar3, gTp, gCons', gNil', dCall, dFor, dSq, dRng1, dRng2, dEnm, dZip, dLc, dAll, dYes, dVK, dVKs, dNever, dNevE, dBreak, dCont, con, sl, frzS, isB, tuO, daO, sqO, lsO, lenO, ngO, consO, argO, varsO, wrB, untag, owL, tyS, tyD, entryE, tagA, finE, backA, wipeE, backE, keepS, seqD, gAdd, gSub, gI, gMul, gMod, gIc, gDiv, gPow, gEq, isNone, gIs, gLt, gLe, gGt, gGe, gIx, gLen, gIntC, gTupC, gLstC, gRepr, gSl, gII, need_some, atI_0, atI_1, atI_2, atI_3, ixN_30, ixN_31, ixN_32, List.getElem?_cons_zero, List.getElem?_cons_succ, List.getElem?_nil, List.set_cons_zero, List.set_cons_succ, List.length_cons, List.length_nil, Option.join_some, Option.join_none, List.replicate_succ, List.replicate_zero, List.cons_append, List.nil_append, Option.map_some, Nat.zero_add, Nat.reduceAdd, Nat.reduceSub, Bool.not_true, Bool.not_false, if_true, if_false, Bool.false_eq_true, true_and, and_true, decide_true, decide_false, Nat.reduceLeDiff, Nat.reduceEqDiff, reduceIte, reduceCtorEq, Bool.or_false, Bool.or_true, Bool.and_true, Bool.and_false, Bool.true_and, Bool.false_and, Bool.true_or, Bool.false_or, List.map_cons, List.map_nil, List.nodup_cons, List.nodup_nil, List.mem_cons, List.not_mem_nil, not_false_eq_true, or_false, false_or]
  refine sp_run_from _ _ _ _ _ _ hs hw hl ?_
  simp only [dSeq, dIfS, dTst, dOp2, dVarO, dRes, dK, dOf, dVar, dFz, dAsg, gNm, dRet, dRetN, dExp, dCB, dOCons, dONil, dVCons, dVNil, dLst, dTup, dMove, dNext, dNot, dAnd, dOr, dIf, dAndV, dOrV, dNotV, dIsi, dNeg, dSl, dNoP, dPrt, dApp, dPop, dSetIx, dChain, dPar, dPar3, gTp, gCons', gNil', dCall, dFor, dSq, dRng1, dRng2, dEnm, dZip, dLc, dAll, dYes, dVK, dVKs, dNever, dNevE, dBreak, dCont, con, sl, frzS, isB, tuO, daO, sqO, lsO, lenO, ngO, consO, argO, varsO, wrB, untag, owL, tyS, tyD, entryE, tagA, finE, backA, wipeE, backE, keepS, seqD, gAdd, gSub, gI, gMul, gMod, gIc, gDiv, gPow, gEq, isNone, gIs, gLt, gLe, gGt, gGe, gIx, gLen, gIntC, gTupC, gLstC, gRepr, gSl, gII, need_some, atI_0, atI_1, atI_2, atI_3, ixN_30, ixN_31, ixN_32, List.getElem?_cons_zero, List.getElem?_cons_succ, List.getElem?_nil, List.set_cons_zero, List.set_cons_succ, List.length_cons, List.length_nil, Option.join_some, Option.join_none, List.replicate_succ, List.replicate_zero, List.cons_append, List.nil_append, Option.map_some, Nat.zero_add, Nat.reduceAdd, Nat.reduceSub, Bool.not_true, Bool.not_false, if_true, if_false, Bool.false_eq_true, true_and, and_true, decide_true, decide_false, Nat.reduceLeDiff, Nat.reduceEqDiff, reduceIte, reduceCtorEq, Bool.or_false, Bool.or_true, Bool.and_true, Bool.and_false, Bool.true_and, Bool.false_and, Bool.true_or, Bool.false_or, List.map_cons, List.map_nil, List.nodup_cons, List.nodup_nil, List.mem_cons, List.not_mem_nil, not_false_eq_true, or_false, false_or]
  refine hU _ ?_
  match runD rows ws 0 [], h with
  | none, h => simp only [dSeq, dIfS, dTst, dOp2, dVarO, dRes, dK, dOf, dVar, dFz, dAsg, gNm, dRet, dRetN, dExp, dCB, dOCons, dONil, dVCons, dVNil, dLst, dTup, dMove, dNext, dNot, dAnd, dOr, dIf, dAndV, dOrV, dNotV, dIsi, dNeg, dSl, dNoP, dPrt, dApp, dPop, dSetIx, dChain, dPar, dPar3, gTp, gCons', gNil', dCall, dFor, dSq, dRng1, dRng2, dEnm, dZip, dLc, dAll, dYes, dVK, dVKs, dNever, dNevE, dBreak, dCont, con, sl, frzS, isB, tuO, daO, sqO, lsO, lenO, ngO, consO, argO, varsO, wrB, untag, owL, tyS, tyD, entryE, tagA, finE, backA, wipeE, backE, keepS, seqD, gAdd, gSub, gI, gMul, gMod, gIc, gDiv, gPow, gEq, isNone, gIs, gLt, gLe, gGt, gGe, gIx, gLen, gIntC, gTupC, gLstC, gRepr, gSl, gII, need_some, atI_0, atI_1, atI_2, atI_3, ixN_30, ixN_31, ixN_32, List.getElem?_cons_zero, List.getElem?_cons_succ, List.getElem?_nil, List.set_cons_zero, List.set_cons_succ, List.length_cons, List.length_nil, Option.join_some, Option.join_none, List.replicate_succ, List.replicate_zero, List.cons_append, List.nil_append, Option.map_some, Nat.zero_add, Nat.reduceAdd, Nat.reduceSub, Bool.not_true, Bool.not_false, if_true, if_false, Bool.false_eq_true, true_and, and_true, decide_true, decide_false, Nat.reduceLeDiff, Nat.reduceEqDiff, reduceIte, reduceCtorEq, Bool.or_false, Bool.or_true, Bool.and_true, Bool.and_false, Bool.true_and, Bool.false_and, Bool.true_or, Bool.false_or, List.map_cons, List.map_nil, List.nodup_cons, List.nodup_nil, List.mem_cons, List.not_mem_nil, not_false_eq_true, or_false, false_or, outD]; exact h
  | some (acc, s), h => simp only [dSeq, dIfS, dTst, dOp2, dVarO, dRes, dK, dOf, dVar, dFz, dAsg, gNm, dRet, dRetN, dExp, dCB, dOCons, dONil, dVCons, dVNil, dLst, dTup, dMove, dNext, dNot, dAnd, dOr, dIf, dAndV, dOrV, dNotV, dIsi, dNeg, dSl, dNoP, dPrt, dApp, dPop, dSetIx, dChain, dPar, dPar3, gTp, gCons', gNil', dCall, dFor, dSq, dRng1, dRng2, dEnm, dZip, dLc, dAll, dYes, dVK, dVKs, dNever, dNevE, dBreak, dCont, con, sl, frzS, isB, tuO, daO, sqO, lsO, lenO, ngO, consO, argO, varsO, wrB, untag, owL, tyS, tyD, entryE, tagA, finE, backA, wipeE, backE, keepS, seqD, gAdd, gSub, gI, gMul, gMod, gIc, gDiv, gPow, gEq, isNone, gIs, gLt, gLe, gGt, gGe, gIx, gLen, gIntC, gTupC, gLstC, gRepr, gSl, gII, need_some, atI_0, atI_1, atI_2, atI_3, ixN_30, ixN_31, ixN_32, List.getElem?_cons_zero, List.getElem?_cons_succ, List.getElem?_nil, List.set_cons_zero, List.set_cons_succ, List.length_cons, List.length_nil, Option.join_some, Option.join_none, List.replicate_succ, List.replicate_zero, List.cons_append, List.nil_append, Option.map_some, Nat.zero_add, Nat.reduceAdd, Nat.reduceSub, Bool.not_true, Bool.not_false, if_true, if_false, Bool.false_eq_true, true_and, and_true, decide_true, decide_false, Nat.reduceLeDiff, Nat.reduceEqDiff, reduceIte, reduceCtorEq, Bool.or_false, Bool.or_true, Bool.and_true, Bool.and_false, Bool.true_and, Bool.false_and, Bool.true_or, Bool.false_or, List.map_cons, List.map_nil, List.nodup_cons, List.nodup_nil, List.mem_cons, List.not_mem_nil, not_false_eq_true, or_false, false_or, outD]; exact h
theorem sp_told (h : Q (.val (tD (runD rows ws 0 []))) [.val (.tuple [.int L, .int A, .tuple rows]), .val (.tuple (ws.map .int))]) :
    fs_told [.val (.tuple [.int L, .int A, .tuple rows]), .val (.tuple (ws.map .int))] Q X := by
  refine ⟨rfl, ?_⟩
  unfold w_told
  refine seqI fun U hU => ?_
  simp only [dSeq, dIfS, dTst, dOp2, dVarO, dRes, dK, dOf, dVar, dFz, dAsg, gNm, dRet, dRetN, dExp, dCB, dOCons, dONil, dVCons, dVNil, dLst, dTup, dMove, dNext, dNot, dAnd, dOr, dIf, dAndV, dOrV, dNotV, dIsi, dNeg, dSl, dNoP, dPrt, dApp, dPop, dSetIx, dChain, dPar, dPar3, gTp, gCons', gNil', dCall, dFor, dSq, dRng1, dRng2, dEnm, dZip, dLc, dAll, dYes, dVK, dVKs, dNever, dNevE, dBreak, dCont, con, sl, frzS, isB, tuO, daO, sqO, lsO, lenO, ngO, consO, argO, varsO, wrB, untag, owL, tyS, tyD, entryE, tagA, finE, backA, wipeE, backE, keepS, seqD, gAdd, gSub, gI, gMul, gMod, gIc, gDiv, gPow, gEq, isNone, gIs, gLt, gLe, gGt, gGe, gIx, gLen, gIntC, gTupC, gLstC, gRepr, gSl, gII, need_some, atI_0, atI_1, atI_2, atI_3, ixN_30, ixN_31, ixN_32, List.getElem?_cons_zero, List.getElem?_cons_succ, List.getElem?_nil, List.set_cons_zero, List.set_cons_succ, List.length_cons, List.length_nil, Option.join_some, Option.join_none, List.replicate_succ, List.replicate_zero, List.cons_append, List.nil_append, Option.map_some, Nat.zero_add, Nat.reduceAdd, Nat.reduceSub, Bool.not_true, Bool.not_false, if_true, if_false, Bool.false_eq_true, true_and, and_true, decide_true, decide_false, Nat.reduceLeDiff, Nat.reduceEqDiff, reduceIte, reduceCtorEq, Bool.or_false, Bool.or_true, Bool.and_true, Bool.and_false, Bool.true_and, Bool.false_and, Bool.true_or, Bool.false_or, List.map_cons, List.map_nil, List.nodup_cons, List.nodup_nil, List.mem_cons, List.not_mem_nil, not_false_eq_true, or_false, false_or]
  refine sp_need_sketch _ _ _ _ _ hs ?_
  simp only [dSeq, dIfS, dTst, dOp2, dVarO, dRes, dK, dOf, dVar, dFz, dAsg, gNm, dRet, dRetN, dExp, dCB, dOCons, dONil, dVCons, dVNil, dLst, dTup, dMove, dNext, dNot, dAnd, dOr, dIf, dAndV, dOrV, dNotV, dIsi, dNeg, dSl, dNoP, dPrt, dApp, dPop, dSetIx, dChain, dPar, dPar3, gTp, gCons', gNil', dCall, dFor, dSq, dRng1, dRng2, dEnm, dZip, dLc, dAll, dYes, dVK, dVKs, dNever, dNevE, dBreak, dCont, con, sl, frzS, isB, tuO, daO, sqO, lsO, lenO, ngO, consO, argO, varsO, wrB, untag, owL, tyS, tyD, entryE, tagA, finE, backA, wipeE, backE, keepS, seqD, gAdd, gSub, gI, gMul, gMod, gIc, gDiv, gPow, gEq, isNone, gIs, gLt, gLe, gGt, gGe, gIx, gLen, gIntC, gTupC, gLstC, gRepr, gSl, gII, need_some, atI_0, atI_1, atI_2, atI_3, ixN_30, ixN_31, ixN_32, List.getElem?_cons_zero, List.getElem?_cons_succ, List.getElem?_nil, List.set_cons_zero, List.set_cons_succ, List.length_cons, List.length_nil, Option.join_some, Option.join_none, List.replicate_succ, List.replicate_zero, List.cons_append, List.nil_append, Option.map_some, Nat.zero_add, Nat.reduceAdd, Nat.reduceSub, Bool.not_true, Bool.not_false, if_true, if_false, Bool.false_eq_true, true_and, and_true, decide_true, decide_false, Nat.reduceLeDiff, Nat.reduceEqDiff, reduceIte, reduceCtorEq, Bool.or_false, Bool.or_true, Bool.and_true, Bool.and_false, Bool.true_and, Bool.false_and, Bool.true_or, Bool.false_or, List.map_cons, List.map_nil, List.nodup_cons, List.nodup_nil, List.mem_cons, List.not_mem_nil, not_false_eq_true, or_false, false_or]
  refine hU _ ?_
  refine seqI fun V hV => ?_
  simp only [dSeq, dIfS, dTst, dOp2, dVarO, dRes, dK, dOf, dVar, dFz, dAsg, gNm, dRet, dRetN, dExp, dCB, dOCons, dONil, dVCons, dVNil, dLst, dTup, dMove, dNext, dNot, dAnd, dOr, dIf, dAndV, dOrV, dNotV, dIsi, dNeg, dSl, dNoP, dPrt, dApp, dPop, dSetIx, dChain, dPar, dPar3, gTp, gCons', gNil', dCall, dFor, dSq, dRng1, dRng2, dEnm, dZip, dLc, dAll, dYes, dVK, dVKs, dNever, dNevE, dBreak, dCont, con, sl, frzS, isB, tuO, daO, sqO, lsO, lenO, ngO, consO, argO, varsO, wrB, untag, owL, tyS, tyD, entryE, tagA, finE, backA, wipeE, backE, keepS, seqD, gAdd, gSub, gI, gMul, gMod, gIc, gDiv, gPow, gEq, isNone, gIs, gLt, gLe, gGt, gGe, gIx, gLen, gIntC, gTupC, gLstC, gRepr, gSl, gII, need_some, atI_0, atI_1, atI_2, atI_3, ixN_30, ixN_31, ixN_32, List.getElem?_cons_zero, List.getElem?_cons_succ, List.getElem?_nil, List.set_cons_zero, List.set_cons_succ, List.length_cons, List.length_nil, Option.join_some, Option.join_none, List.replicate_succ, List.replicate_zero, List.cons_append, List.nil_append, Option.map_some, Nat.zero_add, Nat.reduceAdd, Nat.reduceSub, Bool.not_true, Bool.not_false, if_true, if_false, Bool.false_eq_true, true_and, and_true, decide_true, decide_false, Nat.reduceLeDiff, Nat.reduceEqDiff, reduceIte, reduceCtorEq, Bool.or_false, Bool.or_true, Bool.and_true, Bool.and_false, Bool.true_and, Bool.false_and, Bool.true_or, Bool.false_or, List.map_cons, List.map_nil, List.nodup_cons, List.nodup_nil, List.mem_cons, List.not_mem_nil, not_false_eq_true, or_false, false_or]
  refine sp_need_word _ _ _ _ hl hw ?_
  simp only [dSeq, dIfS, dTst, dOp2, dVarO, dRes, dK, dOf, dVar, dFz, dAsg, gNm, dRet, dRetN, dExp, dCB, dOCons, dONil, dVCons, dVNil, dLst, dTup, dMove, dNext, dNot, dAnd, dOr, dIf, dAndV, dOrV, dNotV, dIsi, dNeg, dSl, dNoP, dPrt, dApp, dPop, dSetIx, dChain, dPar, dPar3, gTp, gCons', gNil', dCall, dFor, dSq, dRng1, dRng2, dEnm, dZip, dLc, dAll, dYes, dVK, dVKs, dNever, dNevE, dBreak, dCont, con, sl, frzS, isB, tuO, daO, sqO, lsO, lenO, ngO, consO, argO, varsO, wrB, untag, owL, tyS, tyD, entryE, tagA, finE, backA, wipeE, backE, keepS, seqD, gAdd, gSub, gI, gMul, gMod, gIc, gDiv, gPow, gEq, isNone, gIs, gLt, gLe, gGt, gGe, gIx, gLen, gIntC, gTupC, gLstC, gRepr, gSl, gII, need_some, atI_0, atI_1, atI_2, atI_3, ixN_30, ixN_31, ixN_32, List.getElem?_cons_zero, List.getElem?_cons_succ, List.getElem?_nil, List.set_cons_zero, List.set_cons_succ, List.length_cons, List.length_nil, Option.join_some, Option.join_none, List.replicate_succ, List.replicate_zero, List.cons_append, List.nil_append, Option.map_some, Nat.zero_add, Nat.reduceAdd, Nat.reduceSub, Bool.not_true, Bool.not_false, if_true, if_false, Bool.false_eq_true, true_and, and_true, decide_true, decide_false, Nat.reduceLeDiff, Nat.reduceEqDiff, reduceIte, reduceCtorEq, Bool.or_false, Bool.or_true, Bool.and_true, Bool.and_false, Bool.true_and, Bool.false_and, Bool.true_or, Bool.false_or, List.map_cons, List.map_nil, List.nodup_cons, List.nodup_nil, List.mem_cons, List.not_mem_nil, not_false_eq_true, or_false, false_or]
  refine hV _ ?_
  simp only [dSeq, dIfS, dTst, dOp2, dVarO, dRes, dK, dOf, dVar, dFz, dAsg, gNm, dRet, dRetN, dExp, dCB, dOCons, dONil, dVCons, dVNil, dLst, dTup, dMove, dNext, dNot, dAnd, dOr, dIf, dAndV, dOrV, dNotV, dIsi, dNeg, dSl, dNoP, dPrt, dApp, dPop, dSetIx, dChain, dPar, dPar3, gTp, gCons', gNil', dCall, dFor, dSq, dRng1, dRng2, dEnm, dZip, dLc, dAll, dYes, dVK, dVKs, dNever, dNevE, dBreak, dCont, con, sl, frzS, isB, tuO, daO, sqO, lsO, lenO, ngO, consO, argO, varsO, wrB, untag, owL, tyS, tyD, entryE, tagA, finE, backA, wipeE, backE, keepS, seqD, gAdd, gSub, gI, gMul, gMod, gIc, gDiv, gPow, gEq, isNone, gIs, gLt, gLe, gGt, gGe, gIx, gLen, gIntC, gTupC, gLstC, gRepr, gSl, gII, need_some, atI_0, atI_1, atI_2, atI_3, ixN_30, ixN_31, ixN_32, List.getElem?_cons_zero, List.getElem?_cons_succ, List.getElem?_nil, List.set_cons_zero, List.set_cons_succ, List.length_cons, List.length_nil, Option.join_some, Option.join_none, List.replicate_succ, List.replicate_zero, List.cons_append, List.nil_append, Option.map_some, Nat.zero_add, Nat.reduceAdd, Nat.reduceSub, Bool.not_true, Bool.not_false, if_true, if_false, Bool.false_eq_true, true_and, and_true, decide_true, decide_false, Nat.reduceLeDiff, Nat.reduceEqDiff, reduceIte, reduceCtorEq, Bool.or_false, Bool.or_true, Bool.and_true, Bool.and_false, Bool.true_and, Bool.false_and, Bool.true_or, Bool.false_or, List.map_cons, List.map_nil, List.nodup_cons, List.nodup_nil, List.mem_cons, List.not_mem_nil, not_false_eq_true, or_false, false_or]
  refine sp_answers L A rows ws _ _ hs hw hl ?_
  simp only [dSeq, dIfS, dTst, dOp2, dVarO, dRes, dK, dOf, dVar, dFz, dAsg, gNm, dRet, dRetN, dExp, dCB, dOCons, dONil, dVCons, dVNil, dLst, dTup, dMove, dNext, dNot, dAnd, dOr, dIf, dAndV, dOrV, dNotV, dIsi, dNeg, dSl, dNoP, dPrt, dApp, dPop, dSetIx, dChain, dPar, dPar3, gTp, gCons', gNil', dCall, dFor, dSq, dRng1, dRng2, dEnm, dZip, dLc, dAll, dYes, dVK, dVKs, dNever, dNevE, dBreak, dCont, con, sl, frzS, isB, tuO, daO, sqO, lsO, lenO, ngO, consO, argO, varsO, wrB, untag, owL, tyS, tyD, entryE, tagA, finE, backA, wipeE, backE, keepS, seqD, gAdd, gSub, gI, gMul, gMod, gIc, gDiv, gPow, gEq, isNone, gIs, gLt, gLe, gGt, gGe, gIx, gLen, gIntC, gTupC, gLstC, gRepr, gSl, gII, need_some, atI_0, atI_1, atI_2, atI_3, ixN_30, ixN_31, ixN_32, List.getElem?_cons_zero, List.getElem?_cons_succ, List.getElem?_nil, List.set_cons_zero, List.set_cons_succ, List.length_cons, List.length_nil, Option.join_some, Option.join_none, List.replicate_succ, List.replicate_zero, List.cons_append, List.nil_append, Option.map_some, Nat.zero_add, Nat.reduceAdd, Nat.reduceSub, Bool.not_true, Bool.not_false, if_true, if_false, Bool.false_eq_true, true_and, and_true, decide_true, decide_false, Nat.reduceLeDiff, Nat.reduceEqDiff, reduceIte, reduceCtorEq, Bool.or_false, Bool.or_true, Bool.and_true, Bool.and_false, Bool.true_and, Bool.false_and, Bool.true_or, Bool.false_or, List.map_cons, List.map_nil, List.nodup_cons, List.nodup_nil, List.mem_cons, List.not_mem_nil, not_false_eq_true, or_false, false_or]
  exact h
theorem sp_behind (h : Q (.val (bD (runD rows ws 0 []))) [.val (.tuple [.int L, .int A, .tuple rows]), .val (.tuple (ws.map .int))]) :
    fs_behind [.val (.tuple [.int L, .int A, .tuple rows]), .val (.tuple (ws.map .int))] Q X := by
  refine ⟨rfl, ?_⟩
  unfold w_behind
  refine seqI fun U hU => ?_
  simp only [dSeq, dIfS, dTst, dOp2, dVarO, dRes, dK, dOf, dVar, dFz, dAsg, gNm, dRet, dRetN, dExp, dCB, dOCons, dONil, dVCons, dVNil, dLst, dTup, dMove, dNext, dNot, dAnd, dOr, dIf, dAndV, dOrV, dNotV, dIsi, dNeg, dSl, dNoP, dPrt, dApp, dPop, dSetIx, dChain, dPar, dPar3, gTp, gCons', gNil', dCall, dFor, dSq, dRng1, dRng2, dEnm, dZip, dLc, dAll, dYes, dVK, dVKs, dNever, dNevE, dBreak, dCont, con, sl, frzS, isB, tuO, daO, sqO, lsO, lenO, ngO, consO, argO, varsO, wrB, untag, owL, tyS, tyD, entryE, tagA, finE, backA, wipeE, backE, keepS, seqD, gAdd, gSub, gI, gMul, gMod, gIc, gDiv, gPow, gEq, isNone, gIs, gLt, gLe, gGt, gGe, gIx, gLen, gIntC, gTupC, gLstC, gRepr, gSl, gII, need_some, atI_0, atI_1, atI_2, atI_3, ixN_30, ixN_31, ixN_32, List.getElem?_cons_zero, List.getElem?_cons_succ, List.getElem?_nil, List.set_cons_zero, List.set_cons_succ, List.length_cons, List.length_nil, Option.join_some, Option.join_none, List.replicate_succ, List.replicate_zero, List.cons_append, List.nil_append, Option.map_some, Nat.zero_add, Nat.reduceAdd, Nat.reduceSub, Bool.not_true, Bool.not_false, if_true, if_false, Bool.false_eq_true, true_and, and_true, decide_true, decide_false, Nat.reduceLeDiff, Nat.reduceEqDiff, reduceIte, reduceCtorEq, Bool.or_false, Bool.or_true, Bool.and_true, Bool.and_false, Bool.true_and, Bool.false_and, Bool.true_or, Bool.false_or, List.map_cons, List.map_nil, List.nodup_cons, List.nodup_nil, List.mem_cons, List.not_mem_nil, not_false_eq_true, or_false, false_or]
  refine sp_need_sketch _ _ _ _ _ hs ?_
  simp only [dSeq, dIfS, dTst, dOp2, dVarO, dRes, dK, dOf, dVar, dFz, dAsg, gNm, dRet, dRetN, dExp, dCB, dOCons, dONil, dVCons, dVNil, dLst, dTup, dMove, dNext, dNot, dAnd, dOr, dIf, dAndV, dOrV, dNotV, dIsi, dNeg, dSl, dNoP, dPrt, dApp, dPop, dSetIx, dChain, dPar, dPar3, gTp, gCons', gNil', dCall, dFor, dSq, dRng1, dRng2, dEnm, dZip, dLc, dAll, dYes, dVK, dVKs, dNever, dNevE, dBreak, dCont, con, sl, frzS, isB, tuO, daO, sqO, lsO, lenO, ngO, consO, argO, varsO, wrB, untag, owL, tyS, tyD, entryE, tagA, finE, backA, wipeE, backE, keepS, seqD, gAdd, gSub, gI, gMul, gMod, gIc, gDiv, gPow, gEq, isNone, gIs, gLt, gLe, gGt, gGe, gIx, gLen, gIntC, gTupC, gLstC, gRepr, gSl, gII, need_some, atI_0, atI_1, atI_2, atI_3, ixN_30, ixN_31, ixN_32, List.getElem?_cons_zero, List.getElem?_cons_succ, List.getElem?_nil, List.set_cons_zero, List.set_cons_succ, List.length_cons, List.length_nil, Option.join_some, Option.join_none, List.replicate_succ, List.replicate_zero, List.cons_append, List.nil_append, Option.map_some, Nat.zero_add, Nat.reduceAdd, Nat.reduceSub, Bool.not_true, Bool.not_false, if_true, if_false, Bool.false_eq_true, true_and, and_true, decide_true, decide_false, Nat.reduceLeDiff, Nat.reduceEqDiff, reduceIte, reduceCtorEq, Bool.or_false, Bool.or_true, Bool.and_true, Bool.and_false, Bool.true_and, Bool.false_and, Bool.true_or, Bool.false_or, List.map_cons, List.map_nil, List.nodup_cons, List.nodup_nil, List.mem_cons, List.not_mem_nil, not_false_eq_true, or_false, false_or]
  refine hU _ ?_
  refine seqI fun V hV => ?_
  simp only [dSeq, dIfS, dTst, dOp2, dVarO, dRes, dK, dOf, dVar, dFz, dAsg, gNm, dRet, dRetN, dExp, dCB, dOCons, dONil, dVCons, dVNil, dLst, dTup, dMove, dNext, dNot, dAnd, dOr, dIf, dAndV, dOrV, dNotV, dIsi, dNeg, dSl, dNoP, dPrt, dApp, dPop, dSetIx, dChain, dPar, dPar3, gTp, gCons', gNil', dCall, dFor, dSq, dRng1, dRng2, dEnm, dZip, dLc, dAll, dYes, dVK, dVKs, dNever, dNevE, dBreak, dCont, con, sl, frzS, isB, tuO, daO, sqO, lsO, lenO, ngO, consO, argO, varsO, wrB, untag, owL, tyS, tyD, entryE, tagA, finE, backA, wipeE, backE, keepS, seqD, gAdd, gSub, gI, gMul, gMod, gIc, gDiv, gPow, gEq, isNone, gIs, gLt, gLe, gGt, gGe, gIx, gLen, gIntC, gTupC, gLstC, gRepr, gSl, gII, need_some, atI_0, atI_1, atI_2, atI_3, ixN_30, ixN_31, ixN_32, List.getElem?_cons_zero, List.getElem?_cons_succ, List.getElem?_nil, List.set_cons_zero, List.set_cons_succ, List.length_cons, List.length_nil, Option.join_some, Option.join_none, List.replicate_succ, List.replicate_zero, List.cons_append, List.nil_append, Option.map_some, Nat.zero_add, Nat.reduceAdd, Nat.reduceSub, Bool.not_true, Bool.not_false, if_true, if_false, Bool.false_eq_true, true_and, and_true, decide_true, decide_false, Nat.reduceLeDiff, Nat.reduceEqDiff, reduceIte, reduceCtorEq, Bool.or_false, Bool.or_true, Bool.and_true, Bool.and_false, Bool.true_and, Bool.false_and, Bool.true_or, Bool.false_or, List.map_cons, List.map_nil, List.nodup_cons, List.nodup_nil, List.mem_cons, List.not_mem_nil, not_false_eq_true, or_false, false_or]
  refine sp_need_word _ _ _ _ hl hw ?_
  simp only [dSeq, dIfS, dTst, dOp2, dVarO, dRes, dK, dOf, dVar, dFz, dAsg, gNm, dRet, dRetN, dExp, dCB, dOCons, dONil, dVCons, dVNil, dLst, dTup, dMove, dNext, dNot, dAnd, dOr, dIf, dAndV, dOrV, dNotV, dIsi, dNeg, dSl, dNoP, dPrt, dApp, dPop, dSetIx, dChain, dPar, dPar3, gTp, gCons', gNil', dCall, dFor, dSq, dRng1, dRng2, dEnm, dZip, dLc, dAll, dYes, dVK, dVKs, dNever, dNevE, dBreak, dCont, con, sl, frzS, isB, tuO, daO, sqO, lsO, lenO, ngO, consO, argO, varsO, wrB, untag, owL, tyS, tyD, entryE, tagA, finE, backA, wipeE, backE, keepS, seqD, gAdd, gSub, gI, gMul, gMod, gIc, gDiv, gPow, gEq, isNone, gIs, gLt, gLe, gGt, gGe, gIx, gLen, gIntC, gTupC, gLstC, gRepr, gSl, gII, need_some, atI_0, atI_1, atI_2, atI_3, ixN_30, ixN_31, ixN_32, List.getElem?_cons_zero, List.getElem?_cons_succ, List.getElem?_nil, List.set_cons_zero, List.set_cons_succ, List.length_cons, List.length_nil, Option.join_some, Option.join_none, List.replicate_succ, List.replicate_zero, List.cons_append, List.nil_append, Option.map_some, Nat.zero_add, Nat.reduceAdd, Nat.reduceSub, Bool.not_true, Bool.not_false, if_true, if_false, Bool.false_eq_true, true_and, and_true, decide_true, decide_false, Nat.reduceLeDiff, Nat.reduceEqDiff, reduceIte, reduceCtorEq, Bool.or_false, Bool.or_true, Bool.and_true, Bool.and_false, Bool.true_and, Bool.false_and, Bool.true_or, Bool.false_or, List.map_cons, List.map_nil, List.nodup_cons, List.nodup_nil, List.mem_cons, List.not_mem_nil, not_false_eq_true, or_false, false_or]
  refine hV _ ?_
  simp only [dSeq, dIfS, dTst, dOp2, dVarO, dRes, dK, dOf, dVar, dFz, dAsg, gNm, dRet, dRetN, dExp, dCB, dOCons, dONil, dVCons, dVNil, dLst, dTup, dMove, dNext, dNot, dAnd, dOr, dIf, dAndV, dOrV, dNotV, dIsi, dNeg, dSl, dNoP, dPrt, dApp, dPop, dSetIx, dChain, dPar, dPar3, gTp, gCons', gNil', dCall, dFor, dSq, dRng1, dRng2, dEnm, dZip, dLc, dAll, dYes, dVK, dVKs, dNever, dNevE, dBreak, dCont, con, sl, frzS, isB, tuO, daO, sqO, lsO, lenO, ngO, consO, argO, varsO, wrB, untag, owL, tyS, tyD, entryE, tagA, finE, backA, wipeE, backE, keepS, seqD, gAdd, gSub, gI, gMul, gMod, gIc, gDiv, gPow, gEq, isNone, gIs, gLt, gLe, gGt, gGe, gIx, gLen, gIntC, gTupC, gLstC, gRepr, gSl, gII, need_some, atI_0, atI_1, atI_2, atI_3, ixN_30, ixN_31, ixN_32, List.getElem?_cons_zero, List.getElem?_cons_succ, List.getElem?_nil, List.set_cons_zero, List.set_cons_succ, List.length_cons, List.length_nil, Option.join_some, Option.join_none, List.replicate_succ, List.replicate_zero, List.cons_append, List.nil_append, Option.map_some, Nat.zero_add, Nat.reduceAdd, Nat.reduceSub, Bool.not_true, Bool.not_false, if_true, if_false, Bool.false_eq_true, true_and, and_true, decide_true, decide_false, Nat.reduceLeDiff, Nat.reduceEqDiff, reduceIte, reduceCtorEq, Bool.or_false, Bool.or_true, Bool.and_true, Bool.and_false, Bool.true_and, Bool.false_and, Bool.true_or, Bool.false_or, List.map_cons, List.map_nil, List.nodup_cons, List.nodup_nil, List.mem_cons, List.not_mem_nil, not_false_eq_true, or_false, false_or]
  refine sp_state L A rows ws _ _ hs hw hl ?_
  simp only [dSeq, dIfS, dTst, dOp2, dVarO, dRes, dK, dOf, dVar, dFz, dAsg, gNm, dRet, dRetN, dExp, dCB, dOCons, dONil, dVCons, dVNil, dLst, dTup, dMove, dNext, dNot, dAnd, dOr, dIf, dAndV, dOrV, dNotV, dIsi, dNeg, dSl, dNoP, dPrt, dApp, dPop, dSetIx, dChain, dPar, dPar3, gTp, gCons', gNil', dCall, dFor, dSq, dRng1, dRng2, dEnm, dZip, dLc, dAll, dYes, dVK, dVKs, dNever, dNevE, dBreak, dCont, con, sl, frzS, isB, tuO, daO, sqO, lsO, lenO, ngO, consO, argO, varsO, wrB, untag, owL, tyS, tyD, entryE, tagA, finE, backA, wipeE, backE, keepS, seqD, gAdd, gSub, gI, gMul, gMod, gIc, gDiv, gPow, gEq, isNone, gIs, gLt, gLe, gGt, gGe, gIx, gLen, gIntC, gTupC, gLstC, gRepr, gSl, gII, need_some, atI_0, atI_1, atI_2, atI_3, ixN_30, ixN_31, ixN_32, List.getElem?_cons_zero, List.getElem?_cons_succ, List.getElem?_nil, List.set_cons_zero, List.set_cons_succ, List.length_cons, List.length_nil, Option.join_some, Option.join_none, List.replicate_succ, List.replicate_zero, List.cons_append, List.nil_append, Option.map_some, Nat.zero_add, Nat.reduceAdd, Nat.reduceSub, Bool.not_true, Bool.not_false, if_true, if_false, Bool.false_eq_true, true_and, and_true, decide_true, decide_false, Nat.reduceLeDiff, Nat.reduceEqDiff, reduceIte, reduceCtorEq, Bool.or_false, Bool.or_true, Bool.and_true, Bool.and_false, Bool.true_and, Bool.false_and, Bool.true_or, Bool.false_or, List.map_cons, List.map_nil, List.nodup_cons, List.nodup_nil, List.mem_cons, List.not_mem_nil, not_false_eq_true, or_false, false_or]
  exact h
end
end DV

set_option Elab.async false
set_option linter.all false
set_option maxRecDepth 100000
set_option maxHeartbeats 4000000
namespace DV
open PySem PySem.Spec PyProof.Rows L2
theorem sp_right (L A : Int) (rows : List D) (ws : List Int) (Q : Slot → List Slot → Prop) (X : Value → Prop) (hs : SkD L A rows) (hw : ∀ w ∈ ws, 0 ≤ w ∧ w < L) (hl : ws.length ≤ 600)
    (h : Q (.val (.bool true)) [.val (.tuple [.int L, .int A, .tuple rows]), .val (.tuple (ws.map .int))]) :
    fs__law_right [.val (.tuple [.int L, .int A, .tuple rows]), .val (.tuple (ws.map .int))] Q X := by
  have hg : GoodR (runD rows ws 0 []) := fun acc s e => by
    obtain ⟨k1, k2, k3, k4⟩ := run_small hs ws 0 [] acc s hw (by omega) (by have := hs.2.2.2.2.1; omega) (fun e he => by simp at he) e
    exact ⟨k1, k2, k3, by simp at k4; omega⟩
  have rok := repr_ok _ hg
  refine ⟨rfl, ?_⟩
  unfold w__law_right
  refine seqI fun U hU => ?_
  simp only [dSeq, dIfS, dTst, dOp2, dVarO, dRes, dK, dOf, dVar, dFz, dAsg, gNm, dRet, dRetN, dExp, dCB, dOCons, dONil, dVCons, dVNil, dLst, dTup, dMove, dNext, dNot, dAnd, dOr, dIf, dAndV, dOrV, dNotV, dIsi, dNeg, dSl, dNoP, dPrt, dApp, dPop, dSetIx, dChain, dPar, dPar3, gTp, gCons', gNil', dCall, dFor, dSq, dRng1, dRng2, dEnm, dZip, dLc, dAll, dYes, dVK, dVKs, dNever, dNevE, dBreak, dCont, con, sl, frzS, isB, tuO, daO, sqO, lsO, lenO, ngO, consO, argO, varsO, wrB, untag, owL, tyS, tyD, entryE, tagA, finE, backA, wipeE, backE, keepS, seqD, gAdd, gSub, gI, gMul, gMod, gIc, gDiv, gPow, gEq, isNone, gIs, gLt, gLe, gGt, gGe, gIx, gLen, gIntC, gTupC, gLstC, gRepr, gSl, gII, need_some, atI_0, atI_1, atI_2, atI_3, ixN_30, ixN_31, ixN_32, List.getElem?_cons_zero, List.getElem?_cons_succ, List.getElem?_nil, List.set_cons_zero, List.set_cons_succ, List.length_cons, List.length_nil, Option.join_some, Option.join_none, List.replicate_succ, List.replicate_zero, List.cons_append, List.nil_append, Option.map_some, Nat.zero_add, Nat.reduceAdd, Nat.reduceSub, Bool.not_true, Bool.not_false, if_true, if_false, Bool.false_eq_true, true_and, and_true, decide_true, decide_false, Nat.reduceLeDiff, Nat.reduceEqDiff, reduceIte, reduceCtorEq, Bool.or_false, Bool.or_true, Bool.and_true, Bool.and_false, Bool.true_and, Bool.false_and, Bool.true_or, Bool.false_or, List.map_cons, List.map_nil, List.nodup_cons, List.nodup_nil, List.mem_cons, List.not_mem_nil, not_false_eq_true, or_false, false_or]
  refine sp_lrun _ _ _ _ _ _ hs hw hl ?_
  simp only [dSeq, dIfS, dTst, dOp2, dVarO, dRes, dK, dOf, dVar, dFz, dAsg, gNm, dRet, dRetN, dExp, dCB, dOCons, dONil, dVCons, dVNil, dLst, dTup, dMove, dNext, dNot, dAnd, dOr, dIf, dAndV, dOrV, dNotV, dIsi, dNeg, dSl, dNoP, dPrt, dApp, dPop, dSetIx, dChain, dPar, dPar3, gTp, gCons', gNil', dCall, dFor, dSq, dRng1, dRng2, dEnm, dZip, dLc, dAll, dYes, dVK, dVKs, dNever, dNevE, dBreak, dCont, con, sl, frzS, isB, tuO, daO, sqO, lsO, lenO, ngO, consO, argO, varsO, wrB, untag, owL, tyS, tyD, entryE, tagA, finE, backA, wipeE, backE, keepS, seqD, gAdd, gSub, gI, gMul, gMod, gIc, gDiv, gPow, gEq, isNone, gIs, gLt, gLe, gGt, gGe, gIx, gLen, gIntC, gTupC, gLstC, gRepr, gSl, gII, need_some, atI_0, atI_1, atI_2, atI_3, ixN_30, ixN_31, ixN_32, List.getElem?_cons_zero, List.getElem?_cons_succ, List.getElem?_nil, List.set_cons_zero, List.set_cons_succ, List.length_cons, List.length_nil, Option.join_some, Option.join_none, List.replicate_succ, List.replicate_zero, List.cons_append, List.nil_append, Option.map_some, Nat.zero_add, Nat.reduceAdd, Nat.reduceSub, Bool.not_true, Bool.not_false, if_true, if_false, Bool.false_eq_true, true_and, and_true, decide_true, decide_false, Nat.reduceLeDiff, Nat.reduceEqDiff, reduceIte, reduceCtorEq, Bool.or_false, Bool.or_true, Bool.and_true, Bool.and_false, Bool.true_and, Bool.false_and, Bool.true_or, Bool.false_or, List.map_cons, List.map_nil, List.nodup_cons, List.nodup_nil, List.mem_cons, List.not_mem_nil, not_false_eq_true, or_false, false_or]
  refine hU _ ?_
  refine seqI fun V hV => ?_
  have rest : ∀ x2, V [some (.val (.tuple [.int L, .int A, .tuple rows])), some (.val (.tuple (ws.map .int))), x2, some (.val (.tuple [tD (runD rows ws 0 []), bD (runD rows ws 0 [])]))] := fun x2 => by
    refine hV _ ?_
    refine seqI fun W hW => ?_
    refine ifI fun P R hP hR => ?_
    have last : R [some (.val (.tuple [.int L, .int A, .tuple rows])), some (.val (.tuple (ws.map .int))), x2, some (.val (.tuple [tD (runD rows ws 0 []), bD (runD rows ws 0 [])]))] := by
      refine hR _ ?_
      refine hW _ ?_
      simp only [dSeq, dIfS, dTst, dOp2, dVarO, dRes, dK, dOf, dVar, dFz, dAsg, gNm, dRet, dRetN, dExp, dCB, dOCons, dONil, dVCons, dVNil, dLst, dTup, dMove, dNext, dNot, dAnd, dOr, dIf, dAndV, dOrV, dNotV, dIsi, dNeg, dSl, dNoP, dPrt, dApp, dPop, dSetIx, dChain, dPar, dPar3, gTp, gCons', gNil', dCall, dFor, dSq, dRng1, dRng2, dEnm, dZip, dLc, dAll, dYes, dVK, dVKs, dNever, dNevE, dBreak, dCont, con, sl, frzS, isB, tuO, daO, sqO, lsO, lenO, ngO, consO, argO, varsO, wrB, untag, owL, tyS, tyD, entryE, tagA, finE, backA, wipeE, backE, keepS, seqD, gAdd, gSub, gI, gMul, gMod, gIc, gDiv, gPow, gEq, isNone, gIs, gLt, gLe, gGt, gGe, gIx, gLen, gIntC, gTupC, gLstC, gRepr, gSl, gII, need_some, atI_0, atI_1, atI_2, atI_3, ixN_30, ixN_31, ixN_32, List.getElem?_cons_zero, List.getElem?_cons_succ, List.getElem?_nil, List.set_cons_zero, List.set_cons_succ, List.length_cons, List.length_nil, Option.join_some, Option.join_none, List.replicate_succ, List.replicate_zero, List.cons_append, List.nil_append, Option.map_some, Nat.zero_add, Nat.reduceAdd, Nat.reduceSub, Bool.not_true, Bool.not_false, if_true, if_false, Bool.false_eq_true, true_and, and_true, decide_true, decide_false, Nat.reduceLeDiff, Nat.reduceEqDiff, reduceIte, reduceCtorEq, Bool.or_false, Bool.or_true, Bool.and_true, Bool.and_false, Bool.true_and, Bool.false_and, Bool.true_or, Bool.false_or, List.map_cons, List.map_nil, List.nodup_cons, List.nodup_nil, List.mem_cons, List.not_mem_nil, not_false_eq_true, or_false, false_or]
      refine sp_told L A rows ws _ _ hs hw hl ?_
      simp only [dSeq, dIfS, dTst, dOp2, dVarO, dRes, dK, dOf, dVar, dFz, dAsg, gNm, dRet, dRetN, dExp, dCB, dOCons, dONil, dVCons, dVNil, dLst, dTup, dMove, dNext, dNot, dAnd, dOr, dIf, dAndV, dOrV, dNotV, dIsi, dNeg, dSl, dNoP, dPrt, dApp, dPop, dSetIx, dChain, dPar, dPar3, gTp, gCons', gNil', dCall, dFor, dSq, dRng1, dRng2, dEnm, dZip, dLc, dAll, dYes, dVK, dVKs, dNever, dNevE, dBreak, dCont, con, sl, frzS, isB, tuO, daO, sqO, lsO, lenO, ngO, consO, argO, varsO, wrB, untag, owL, tyS, tyD, entryE, tagA, finE, backA, wipeE, backE, keepS, seqD, gAdd, gSub, gI, gMul, gMod, gIc, gDiv, gPow, gEq, isNone, gIs, gLt, gLe, gGt, gGe, gIx, gLen, gIntC, gTupC, gLstC, gRepr, gSl, gII, need_some, atI_0, atI_1, atI_2, atI_3, ixN_30, ixN_31, ixN_32, List.getElem?_cons_zero, List.getElem?_cons_succ, List.getElem?_nil, List.set_cons_zero, List.set_cons_succ, List.length_cons, List.length_nil, Option.join_some, Option.join_none, List.replicate_succ, List.replicate_zero, List.cons_append, List.nil_append, Option.map_some, Nat.zero_add, Nat.reduceAdd, Nat.reduceSub, Bool.not_true, Bool.not_false, if_true, if_false, Bool.false_eq_true, true_and, and_true, decide_true, decide_false, Nat.reduceLeDiff, Nat.reduceEqDiff, reduceIte, reduceCtorEq, Bool.or_false, Bool.or_true, Bool.and_true, Bool.and_false, Bool.true_and, Bool.false_and, Bool.true_or, Bool.false_or, List.map_cons, List.map_nil, List.nodup_cons, List.nodup_nil, List.mem_cons, List.not_mem_nil, not_false_eq_true, or_false, false_or]
      refine sp_behind L A rows ws _ _ hs hw hl ?_
      simp only [dSeq, dIfS, dTst, dOp2, dVarO, dRes, dK, dOf, dVar, dFz, dAsg, gNm, dRet, dRetN, dExp, dCB, dOCons, dONil, dVCons, dVNil, dLst, dTup, dMove, dNext, dNot, dAnd, dOr, dIf, dAndV, dOrV, dNotV, dIsi, dNeg, dSl, dNoP, dPrt, dApp, dPop, dSetIx, dChain, dPar, dPar3, gTp, gCons', gNil', dCall, dFor, dSq, dRng1, dRng2, dEnm, dZip, dLc, dAll, dYes, dVK, dVKs, dNever, dNevE, dBreak, dCont, con, sl, frzS, isB, tuO, daO, sqO, lsO, lenO, ngO, consO, argO, varsO, wrB, untag, owL, tyS, tyD, entryE, tagA, finE, backA, wipeE, backE, keepS, seqD, gAdd, gSub, gI, gMul, gMod, gIc, gDiv, gPow, gEq, isNone, gIs, gLt, gLe, gGt, gGe, gIx, gLen, gIntC, gTupC, gLstC, gRepr, gSl, gII, need_some, atI_0, atI_1, atI_2, atI_3, ixN_30, ixN_31, ixN_32, List.getElem?_cons_zero, List.getElem?_cons_succ, List.getElem?_nil, List.set_cons_zero, List.set_cons_succ, List.length_cons, List.length_nil, Option.join_some, Option.join_none, List.replicate_succ, List.replicate_zero, List.cons_append, List.nil_append, Option.map_some, Nat.zero_add, Nat.reduceAdd, Nat.reduceSub, Bool.not_true, Bool.not_false, if_true, if_false, Bool.false_eq_true, true_and, and_true, decide_true, decide_false, Nat.reduceLeDiff, Nat.reduceEqDiff, reduceIte, reduceCtorEq, Bool.or_false, Bool.or_true, Bool.and_true, Bool.and_false, Bool.true_and, Bool.false_and, Bool.true_or, Bool.false_or, List.map_cons, List.map_nil, List.nodup_cons, List.nodup_nil, List.mem_cons, List.not_mem_nil, not_false_eq_true, or_false, false_or]
      refine ⟨sz2, rok, rok, eqOk_str, ?_⟩
      rw [eqv_str, beq_self_eq_true]
      exact h
    simp only [dSeq, dIfS, dTst, dOp2, dVarO, dRes, dK, dOf, dVar, dFz, dAsg, gNm, dRet, dRetN, dExp, dCB, dOCons, dONil, dVCons, dVNil, dLst, dTup, dMove, dNext, dNot, dAnd, dOr, dIf, dAndV, dOrV, dNotV, dIsi, dNeg, dSl, dNoP, dPrt, dApp, dPop, dSetIx, dChain, dPar, dPar3, gTp, gCons', gNil', dCall, dFor, dSq, dRng1, dRng2, dEnm, dZip, dLc, dAll, dYes, dVK, dVKs, dNever, dNevE, dBreak, dCont, con, sl, frzS, isB, tuO, daO, sqO, lsO, lenO, ngO, consO, argO, varsO, wrB, untag, owL, tyS, tyD, entryE, tagA, finE, backA, wipeE, backE, keepS, seqD, gAdd, gSub, gI, gMul, gMod, gIc, gDiv, gPow, gEq, isNone, gIs, gLt, gLe, gGt, gGe, gIx, gLen, gIntC, gTupC, gLstC, gRepr, gSl, gII, need_some, atI_0, atI_1, atI_2, atI_3, ixN_30, ixN_31, ixN_32, List.getElem?_cons_zero, List.getElem?_cons_succ, List.getElem?_nil, List.set_cons_zero, List.set_cons_succ, List.length_cons, List.length_nil, Option.join_some, Option.join_none, List.replicate_succ, List.replicate_zero, List.cons_append, List.nil_append, Option.map_some, Nat.zero_add, Nat.reduceAdd, Nat.reduceSub, Bool.not_true, Bool.not_false, if_true, if_false, Bool.false_eq_true, true_and, and_true, decide_true, decide_false, Nat.reduceLeDiff, Nat.reduceEqDiff, reduceIte, reduceCtorEq, Bool.or_false, Bool.or_true, Bool.and_true, Bool.and_false, Bool.true_and, Bool.false_and, Bool.true_or, Bool.false_or, List.map_cons, List.map_nil, List.nodup_cons, List.nodup_nil, List.mem_cons, List.not_mem_nil, not_false_eq_true, or_false, false_or]
    refine sp_told L A rows ws _ _ hs hw hl ?_
    simp only [dSeq, dIfS, dTst, dOp2, dVarO, dRes, dK, dOf, dVar, dFz, dAsg, gNm, dRet, dRetN, dExp, dCB, dOCons, dONil, dVCons, dVNil, dLst, dTup, dMove, dNext, dNot, dAnd, dOr, dIf, dAndV, dOrV, dNotV, dIsi, dNeg, dSl, dNoP, dPrt, dApp, dPop, dSetIx, dChain, dPar, dPar3, gTp, gCons', gNil', dCall, dFor, dSq, dRng1, dRng2, dEnm, dZip, dLc, dAll, dYes, dVK, dVKs, dNever, dNevE, dBreak, dCont, con, sl, frzS, isB, tuO, daO, sqO, lsO, lenO, ngO, consO, argO, varsO, wrB, untag, owL, tyS, tyD, entryE, tagA, finE, backA, wipeE, backE, keepS, seqD, gAdd, gSub, gI, gMul, gMod, gIc, gDiv, gPow, gEq, isNone, gIs, gLt, gLe, gGt, gGe, gIx, gLen, gIntC, gTupC, gLstC, gRepr, gSl, gII, need_some, atI_0, atI_1, atI_2, atI_3, ixN_30, ixN_31, ixN_32, List.getElem?_cons_zero, List.getElem?_cons_succ, List.getElem?_nil, List.set_cons_zero, List.set_cons_succ, List.length_cons, List.length_nil, Option.join_some, Option.join_none, List.replicate_succ, List.replicate_zero, List.cons_append, List.nil_append, Option.map_some, Nat.zero_add, Nat.reduceAdd, Nat.reduceSub, Bool.not_true, Bool.not_false, if_true, if_false, Bool.false_eq_true, true_and, and_true, decide_true, decide_false, Nat.reduceLeDiff, Nat.reduceEqDiff, reduceIte, reduceCtorEq, Bool.or_false, Bool.or_true, Bool.and_true, Bool.and_false, Bool.true_and, Bool.false_and, Bool.true_or, Bool.false_or, List.map_cons, List.map_nil, List.nodup_cons, List.nodup_nil, List.mem_cons, List.not_mem_nil, not_false_eq_true, or_false, false_or]
    refine sp_behind L A rows ws _ _ hs hw hl ?_
    simp only [dSeq, dIfS, dTst, dOp2, dVarO, dRes, dK, dOf, dVar, dFz, dAsg, gNm, dRet, dRetN, dExp, dCB, dOCons, dONil, dVCons, dVNil, dLst, dTup, dMove, dNext, dNot, dAnd, dOr, dIf, dAndV, dOrV, dNotV, dIsi, dNeg, dSl, dNoP, dPrt, dApp, dPop, dSetIx, dChain, dPar, dPar3, gTp, gCons', gNil', dCall, dFor, dSq, dRng1, dRng2, dEnm, dZip, dLc, dAll, dYes, dVK, dVKs, dNever, dNevE, dBreak, dCont, con, sl, frzS, isB, tuO, daO, sqO, lsO, lenO, ngO, consO, argO, varsO, wrB, untag, owL, tyS, tyD, entryE, tagA, finE, backA, wipeE, backE, keepS, seqD, gAdd, gSub, gI, gMul, gMod, gIc, gDiv, gPow, gEq, isNone, gIs, gLt, gLe, gGt, gGe, gIx, gLen, gIntC, gTupC, gLstC, gRepr, gSl, gII, need_some, atI_0, atI_1, atI_2, atI_3, ixN_30, ixN_31, ixN_32, List.getElem?_cons_zero, List.getElem?_cons_succ, List.getElem?_nil, List.set_cons_zero, List.set_cons_succ, List.length_cons, List.length_nil, Option.join_some, Option.join_none, List.replicate_succ, List.replicate_zero, List.cons_append, List.nil_append, Option.map_some, Nat.zero_add, Nat.reduceAdd, Nat.reduceSub, Bool.not_true, Bool.not_false, if_true, if_false, Bool.false_eq_true, true_and, and_true, decide_true, decide_false, Nat.reduceLeDiff, Nat.reduceEqDiff, reduceIte, reduceCtorEq, Bool.or_false, Bool.or_true, Bool.and_true, Bool.and_false, Bool.true_and, Bool.false_and, Bool.true_or, Bool.false_or, List.map_cons, List.map_nil, List.nodup_cons, List.nodup_nil, List.mem_cons, List.not_mem_nil, not_false_eq_true, or_false, false_or]
    refine ⟨sz2, rok, rok, eqOk_str, ?_⟩
    rw [eqv_str, beq_self_eq_true]
    exact last
  revert rest
  match runD rows ws 0 [] with
  | none =>
    intro rest
    simp only [dSeq, dIfS, dTst, dOp2, dVarO, dRes, dK, dOf, dVar, dFz, dAsg, gNm, dRet, dRetN, dExp, dCB, dOCons, dONil, dVCons, dVNil, dLst, dTup, dMove, dNext, dNot, dAnd, dOr, dIf, dAndV, dOrV, dNotV, dIsi, dNeg, dSl, dNoP, dPrt, dApp, dPop, dSetIx, dChain, dPar, dPar3, gTp, gCons', gNil', dCall, dFor, dSq, dRng1, dRng2, dEnm, dZip, dLc, dAll, dYes, dVK, dVKs, dNever, dNevE, dBreak, dCont, con, sl, frzS, isB, tuO, daO, sqO, lsO, lenO, ngO, consO, argO, varsO, wrB, untag, owL, tyS, tyD, entryE, tagA, finE, backA, wipeE, backE, keepS, seqD, gAdd, gSub, gI, gMul, gMod, gIc, gDiv, gPow, gEq, isNone, gIs, gLt, gLe, gGt, gGe, gIx, gLen, gIntC, gTupC, gLstC, gRepr, gSl, gII, need_some, atI_0, atI_1, atI_2, atI_3, ixN_30, ixN_31, ixN_32, List.getElem?_cons_zero, List.getElem?_cons_succ, List.getElem?_nil, List.set_cons_zero, List.set_cons_succ, List.length_cons, List.length_nil, Option.join_some, Option.join_none, List.replicate_succ, List.replicate_zero, List.cons_append, List.nil_append, Option.map_some, Nat.zero_add, Nat.reduceAdd, Nat.reduceSub, Bool.not_true, Bool.not_false, if_true, if_false, Bool.false_eq_true, true_and, and_true, decide_true, decide_false, Nat.reduceLeDiff, Nat.reduceEqDiff, reduceIte, reduceCtorEq, Bool.or_false, Bool.or_true, Bool.and_true, Bool.and_false, Bool.true_and, Bool.false_and, Bool.true_or, Bool.false_or, List.map_cons, List.map_nil, List.nodup_cons, List.nodup_nil, List.mem_cons, List.not_mem_nil, not_false_eq_true, or_false, false_or, outD]
    exact rest _
  | some (acc, s) =>
    intro rest
    simp only [dSeq, dIfS, dTst, dOp2, dVarO, dRes, dK, dOf, dVar, dFz, dAsg, gNm, dRet, dRetN, dExp, dCB, dOCons, dONil, dVCons, dVNil, dLst, dTup, dMove, dNext, dNot, dAnd, dOr, dIf, dAndV, dOrV, dNotV, dIsi, dNeg, dSl, dNoP, dPrt, dApp, dPop, dSetIx, dChain, dPar, dPar3, gTp, gCons', gNil', dCall, dFor, dSq, dRng1, dRng2, dEnm, dZip, dLc, dAll, dYes, dVK, dVKs, dNever, dNevE, dBreak, dCont, con, sl, frzS, isB, tuO, daO, sqO, lsO, lenO, ngO, consO, argO, varsO, wrB, untag, owL, tyS, tyD, entryE, tagA, finE, backA, wipeE, backE, keepS, seqD, gAdd, gSub, gI, gMul, gMod, gIc, gDiv, gPow, gEq, isNone, gIs, gLt, gLe, gGt, gGe, gIx, gLen, gIntC, gTupC, gLstC, gRepr, gSl, gII, need_some, atI_0, atI_1, atI_2, atI_3, ixN_30, ixN_31, ixN_32, List.getElem?_cons_zero, List.getElem?_cons_succ, List.getElem?_nil, List.set_cons_zero, List.set_cons_succ, List.length_cons, List.length_nil, Option.join_some, Option.join_none, List.replicate_succ, List.replicate_zero, List.cons_append, List.nil_append, Option.map_some, Nat.zero_add, Nat.reduceAdd, Nat.reduceSub, Bool.not_true, Bool.not_false, if_true, if_false, Bool.false_eq_true, true_and, and_true, decide_true, decide_false, Nat.reduceLeDiff, Nat.reduceEqDiff, reduceIte, reduceCtorEq, Bool.or_false, Bool.or_true, Bool.and_true, Bool.and_false, Bool.true_and, Bool.false_and, Bool.true_or, Bool.false_or, List.map_cons, List.map_nil, List.nodup_cons, List.nodup_nil, List.mem_cons, List.not_mem_nil, not_false_eq_true, or_false, false_or, outD]
    exact rest _
end DV

set_option Elab.async false
set_option linter.all false
set_option maxRecDepth 100000
set_option maxHeartbeats 4000000
namespace DV
open PySem PySem.Spec PyProof.Rows L2
theorem ifE {w : DT} {a b : DE} {env : En} {Q : Slot → En → Prop} (h : ∀ (P R : En → Prop), (∀ e, a e Q → P e) → (∀ e, b e Q → R e) → w env fun c e => if c = true then P e else R e) : dIf w a b env Q := h _ _ (fun _ q => q) fun _ q => q
theorem op2I {G : G2} {wa wb : DO} {env : En} {Q : Slot → En → Prop} (h : ∀ K : Opd → En → Prop, (∀ o1 e1, (wb e1 fun o2 e2 => need (con e2 o1) fun s1 => need (con e2 o2) fun s2 => G s1 s2 fun r => Q r e2) → K o1 e1) → wa env K) : dOp2 G wa wb env Q := h _ fun _ _ q => q
theorem appI {i : Nat} {w : DV} {env : En} {D : DEnds} {p : Option Nat × List DV.D} (h0 : owL env i = some p) (h : ∀ K : DV.D → En → Prop, (∀ d e, (need (owL e i) fun p => p.2.length < sizeLine ∧ D.nx (e.set i (some (.own p.1 (.lst (p.2 ++ [d])))))) → K d e) → w env K) : dExp (dApp i w) env D := need_in h0 (h _ fun _ _ q => q)
theorem fzI {w : DE} {env : En} {Q : DV.D → En → Prop} (h : w env fun r e => need (frzS r) fun d => Q d e) : dFz w env Q := h
theorem slI {w : DO} {wl wh : DP} {env : En} {Q : Slot → En → Prop} (h : ∀ K : Opd → Option Int → En → Prop, (∀ o l e2, (wh e2 fun h e3 => need (con e3 o) fun s => gSl s l h fun r => Q r e3) → K o l e2) → w env fun o e1 => wl e1 fun l e2 => K o l e2) : dSl w wl wh env Q := h _ fun _ _ _ q => q
abbrev uN (a b c : Int) : Option Slot := some (.own none (.lst [.int a, .int b, .int c]))
theorem words_in (L A : Int) (rows : List D) (hL : 0 < L) (hL2 : L < 1000) (x0 x1 x2 x4 x6 x7 x9 : Option Slot) (b : Int) (hb : b.natAbs < 2 ^ 128) : ∀ (ds : List D) (a c : Int) (x8 : Option Slot) (Q : List D → En → Prop), 0 ≤ c → c + 2000 * ds.length < 2 ^ 37 →
    (∀ ys a' c' x8', ys.length = ds.length → (∀ y ∈ ys, WordD L 9 y) → c ≤ c' → c' ≤ c + 2000 * ds.length → Q ys [x0, x1, x2, uN a' b c', x4, some (.val (.tuple [.int L, .int A, .tuple rows])), x6, x7, x8', x9]) →
    dLcL (gNm 8) dYes w_law_e1 [8] ds [x0, x1, x2, uN a b c, x4, some (.val (.tuple [.int L, .int A, .tuple rows])), x6, x7, x8, x9] Q := by
  intro ds
  induction ds with
  | nil =>
    intro a c x8 Q h0 h1 h
    simp only [dLcL]
    exact h [] _ _ _ rfl (fun y hy => by simp at hy) (by omega) (by simp)
  | cons d ds ih =>
    intro a c x8 Q h0 h1 h
    simp only [List.length_cons] at h1 h
    simp only [dLcL]
    have next : ∀ a' c' y, c ≤ c' → c' ≤ c + 2000 → WordD L 9 y → dLcL (gNm 8) dYes w_law_e1 [8] ds [x0, x1, x2, uN a' b c', x4, some (.val (.tuple [.int L, .int A, .tuple rows])), x6, x7, some (.val d), x9] fun ys e => Q (y :: ys) e := fun a' c' y q1 q2 q3 =>
      ih _ _ _ _ (by omega) (by omega) fun ys a2 c2 x8' k1 k2 k3 k4 => h _ _ _ _ (by simp [k1]) (fun z hz => by
        rcases List.mem_cons.mp hz with rfl | hz
        · exact q3
        · exact k2 z hz) (by omega) (by omega)
    unfold w_law_e1 at next ⊢
    simp only [dSeq, dIfS, dTst, dOp2, dVarO, dRes, dK, dOf, dVar, dFz, dAsg, gNm, dRet, dRetN, dExp, dCB, dOCons, dONil, dVCons, dVNil, dLst, dTup, dMove, dNext, dNot, dAnd, dOr, dIf, dAndV, dOrV, dNotV, dIsi, dNeg, dSl, dNoP, dPrt, dApp, dPop, dSetIx, dChain, dPar, dPar3, gTp, gCons', gNil', dCall, dFor, dSq, dRng1, dRng2, dEnm, dZip, dLc, dAll, dYes, dVK, dVKs, dNever, dNevE, dBreak, dCont, con, sl, frzS, isB, tuO, daO, sqO, lsO, lenO, ngO, consO, argO, varsO, wrB, untag, owL, tyS, tyD, entryE, tagA, finE, backA, wipeE, backE, keepS, seqD, gAdd, gSub, gI, gMul, gMod, gIc, gDiv, gPow, gEq, isNone, gIs, gLt, gLe, gGt, gGe, gIx, gLen, gIntC, gTupC, gLstC, gRepr, gSl, gII, need_some, atI_0, atI_1, atI_2, atI_3, ixN_30, ixN_31, ixN_32, List.getElem?_cons_zero, List.getElem?_cons_succ, List.getElem?_nil, List.set_cons_zero, List.set_cons_succ, List.length_cons, List.length_nil, Option.join_some, Option.join_none, List.replicate_succ, List.replicate_zero, List.cons_append, List.nil_append, Option.map_some, Nat.zero_add, Nat.reduceAdd, Nat.reduceSub, Bool.not_true, Bool.not_false, if_true, if_false, Bool.false_eq_true, true_and, and_true, decide_true, decide_false, Nat.reduceLeDiff, Nat.reduceEqDiff, reduceIte, reduceCtorEq, Bool.or_false, Bool.or_true, Bool.and_true, Bool.and_false, Bool.true_and, Bool.false_and, Bool.true_or, Bool.false_or, List.map_cons, List.map_nil, List.nodup_cons, List.nodup_nil, List.mem_cons, List.not_mem_nil, not_false_eq_true, or_false, false_or]
    refine sp_word _ _ _ _ 9 _ _ hb h0 (by omega) hL hL2 (by omega) fun a2 c2 y g2 g3 g4 => ?_
    simp only [dSeq, dIfS, dTst, dOp2, dVarO, dRes, dK, dOf, dVar, dFz, dAsg, gNm, dRet, dRetN, dExp, dCB, dOCons, dONil, dVCons, dVNil, dLst, dTup, dMove, dNext, dNot, dAnd, dOr, dIf, dAndV, dOrV, dNotV, dIsi, dNeg, dSl, dNoP, dPrt, dApp, dPop, dSetIx, dChain, dPar, dPar3, gTp, gCons', gNil', dCall, dFor, dSq, dRng1, dRng2, dEnm, dZip, dLc, dAll, dYes, dVK, dVKs, dNever, dNevE, dBreak, dCont, con, sl, frzS, isB, tuO, daO, sqO, lsO, lenO, ngO, consO, argO, varsO, wrB, untag, owL, tyS, tyD, entryE, tagA, finE, backA, wipeE, backE, keepS, seqD, gAdd, gSub, gI, gMul, gMod, gIc, gDiv, gPow, gEq, isNone, gIs, gLt, gLe, gGt, gGe, gIx, gLen, gIntC, gTupC, gLstC, gRepr, gSl, gII, need_some, atI_0, atI_1, atI_2, atI_3, ixN_30, ixN_31, ixN_32, List.getElem?_cons_zero, List.getElem?_cons_succ, List.getElem?_nil, List.set_cons_zero, List.set_cons_succ, List.length_cons, List.length_nil, Option.join_some, Option.join_none, List.replicate_succ, List.replicate_zero, List.cons_append, List.nil_append, Option.map_some, Nat.zero_add, Nat.reduceAdd, Nat.reduceSub, Bool.not_true, Bool.not_false, if_true, if_false, Bool.false_eq_true, true_and, and_true, decide_true, decide_false, Nat.reduceLeDiff, Nat.reduceEqDiff, reduceIte, reduceCtorEq, Bool.or_false, Bool.or_true, Bool.and_true, Bool.and_false, Bool.true_and, Bool.false_and, Bool.true_or, Bool.false_or, List.map_cons, List.map_nil, List.nodup_cons, List.nodup_nil, List.mem_cons, List.not_mem_nil, not_false_eq_true, or_false, false_or]
    exact next _ _ _ g2 (by omega) g4
theorem bad_in (L A : Int) (rows : List D) (hs : SkD L A rows) (x0 x1 x2 x3 x4 x6 x7 x8 : Option Slot) : ∀ (ds : List D) (x9 : Option Slot) (Q : List D → En → Prop), (∀ d ∈ ds, WordD L 600 d) → (∀ x9', Q [] [x0, x1, x2, x3, x4, some (.val (.tuple [.int L, .int A, .tuple rows])), x6, x7, x8, x9']) →
    dLcL (gNm 9) w_law_t1 w_law_e2 [9] ds [x0, x1, x2, x3, x4, some (.val (.tuple [.int L, .int A, .tuple rows])), x6, x7, x8, x9] Q := by
  intro ds
  induction ds with
  | nil =>
    intro x9 Q hd h
    simp only [dLcL]
    exact h _
  | cons d ds ih =>
    intro x9 Q hd h
    obtain ⟨ws, rfl, hl, hw⟩ := hd d (by simp)
    simp only [dLcL]
    have next := ih (some (.val (.tuple (ws.map .int)))) Q (fun e he => hd e (by simp [he])) h
    unfold w_law_t1 at next ⊢
    simp only [dSeq, dIfS, dTst, dOp2, dVarO, dRes, dK, dOf, dVar, dFz, dAsg, gNm, dRet, dRetN, dExp, dCB, dOCons, dONil, dVCons, dVNil, dLst, dTup, dMove, dNext, dNot, dAnd, dOr, dIf, dAndV, dOrV, dNotV, dIsi, dNeg, dSl, dNoP, dPrt, dApp, dPop, dSetIx, dChain, dPar, dPar3, gTp, gCons', gNil', dCall, dFor, dSq, dRng1, dRng2, dEnm, dZip, dLc, dAll, dYes, dVK, dVKs, dNever, dNevE, dBreak, dCont, con, sl, frzS, isB, tuO, daO, sqO, lsO, lenO, ngO, consO, argO, varsO, wrB, untag, owL, tyS, tyD, entryE, tagA, finE, backA, wipeE, backE, keepS, seqD, gAdd, gSub, gI, gMul, gMod, gIc, gDiv, gPow, gEq, isNone, gIs, gLt, gLe, gGt, gGe, gIx, gLen, gIntC, gTupC, gLstC, gRepr, gSl, gII, need_some, atI_0, atI_1, atI_2, atI_3, ixN_30, ixN_31, ixN_32, List.getElem?_cons_zero, List.getElem?_cons_succ, List.getElem?_nil, List.set_cons_zero, List.set_cons_succ, List.length_cons, List.length_nil, Option.join_some, Option.join_none, List.replicate_succ, List.replicate_zero, List.cons_append, List.nil_append, Option.map_some, Nat.zero_add, Nat.reduceAdd, Nat.reduceSub, Bool.not_true, Bool.not_false, if_true, if_false, Bool.false_eq_true, true_and, and_true, decide_true, decide_false, Nat.reduceLeDiff, Nat.reduceEqDiff, reduceIte, reduceCtorEq, Bool.or_false, Bool.or_true, Bool.and_true, Bool.and_false, Bool.true_and, Bool.false_and, Bool.true_or, Bool.false_or, List.map_cons, List.map_nil, List.nodup_cons, List.nodup_nil, List.mem_cons, List.not_mem_nil, not_false_eq_true, or_false, false_or]
    refine sp_right _ _ _ _ _ _ hs hw hl ?_
    simp only [dSeq, dIfS, dTst, dOp2, dVarO, dRes, dK, dOf, dVar, dFz, dAsg, gNm, dRet, dRetN, dExp, dCB, dOCons, dONil, dVCons, dVNil, dLst, dTup, dMove, dNext, dNot, dAnd, dOr, dIf, dAndV, dOrV, dNotV, dIsi, dNeg, dSl, dNoP, dPrt, dApp, dPop, dSetIx, dChain, dPar, dPar3, gTp, gCons', gNil', dCall, dFor, dSq, dRng1, dRng2, dEnm, dZip, dLc, dAll, dYes, dVK, dVKs, dNever, dNevE, dBreak, dCont, con, sl, frzS, isB, tuO, daO, sqO, lsO, lenO, ngO, consO, argO, varsO, wrB, untag, owL, tyS, tyD, entryE, tagA, finE, backA, wipeE, backE, keepS, seqD, gAdd, gSub, gI, gMul, gMod, gIc, gDiv, gPow, gEq, isNone, gIs, gLt, gLe, gGt, gGe, gIx, gLen, gIntC, gTupC, gLstC, gRepr, gSl, gII, need_some, atI_0, atI_1, atI_2, atI_3, ixN_30, ixN_31, ixN_32, List.getElem?_cons_zero, List.getElem?_cons_succ, List.getElem?_nil, List.set_cons_zero, List.set_cons_succ, List.length_cons, List.length_nil, Option.join_some, Option.join_none, List.replicate_succ, List.replicate_zero, List.cons_append, List.nil_append, Option.map_some, Nat.zero_add, Nat.reduceAdd, Nat.reduceSub, Bool.not_true, Bool.not_false, if_true, if_false, Bool.false_eq_true, true_and, and_true, decide_true, decide_false, Nat.reduceLeDiff, Nat.reduceEqDiff, reduceIte, reduceCtorEq, Bool.or_false, Bool.or_true, Bool.and_true, Bool.and_false, Bool.true_and, Bool.false_and, Bool.true_or, Bool.false_or, List.map_cons, List.map_nil, List.nodup_cons, List.nodup_nil, List.mem_cons, List.not_mem_nil, not_false_eq_true, or_false, false_or]
    exact next
theorem WordD.le {L : Int} {m n : Nat} {d : D} (h : WordD L m d) (l : m ≤ n) : WordD L n d := by
  obtain ⟨ws, e, h1, h2⟩ := h
  exact ⟨ws, e, by omega, h2⟩
theorem body_b (k cell : Int) (hk : 0 ≤ k) (hk2 : k < 1000) (x0 x3 x4 x5 x6 x7 x8 x9 : Option Slot) (D : DEnds) (h : ∀ x3 x4 x5 x6 x7 x8 x9, D.nx [x0, some (.val (.int k)), some (.val (.int cell)), x3, x4, x5, x6, x7, x8, x9]) :
    w_law_b1 [x0, some (.val (.int k)), some (.val (.int cell)), x3, x4, x5, x6, x7, x8, x9] D := by
  unfold w_law_b1
  refine seqI fun U1 hU1 => ?_
  simp only [dSeq, dIfS, dTst, dOp2, dVarO, dRes, dK, dOf, dVar, dFz, dAsg, gNm, dRet, dRetN, dExp, dCB, dOCons, dONil, dVCons, dVNil, dLst, dTup, dMove, dNext, dNot, dAnd, dOr, dIf, dAndV, dOrV, dNotV, dIsi, dNeg, dSl, dNoP, dPrt, dApp, dPop, dSetIx, dChain, dPar, dPar3, gTp, gCons', gNil', dCall, dFor, dSq, dRng1, dRng2, dEnm, dZip, dLc, dAll, dYes, dVK, dVKs, dNever, dNevE, dBreak, dCont, con, sl, frzS, isB, tuO, daO, sqO, lsO, lenO, ngO, consO, argO, varsO, wrB, untag, owL, tyS, tyD, entryE, tagA, finE, backA, wipeE, backE, keepS, seqD, gAdd, gSub, gI, gMul, gMod, gIc, gDiv, gPow, gEq, isNone, gIs, gLt, gLe, gGt, gGe, gIx, gLen, gIntC, gTupC, gLstC, gRepr, gSl, gII, need_some, atI_0, atI_1, atI_2, atI_3, ixN_30, ixN_31, ixN_32, List.getElem?_cons_zero, List.getElem?_cons_succ, List.getElem?_nil, List.set_cons_zero, List.set_cons_succ, List.length_cons, List.length_nil, Option.join_some, Option.join_none, List.replicate_succ, List.replicate_zero, List.cons_append, List.nil_append, Option.map_some, Nat.zero_add, Nat.reduceAdd, Nat.reduceSub, Bool.not_true, Bool.not_false, if_true, if_false, Bool.false_eq_true, true_and, and_true, decide_true, decide_false, Nat.reduceLeDiff, Nat.reduceEqDiff, reduceIte, reduceCtorEq, Bool.or_false, Bool.or_true, Bool.and_true, Bool.and_false, Bool.true_and, Bool.false_and, Bool.true_or, Bool.false_or, List.map_cons, List.map_nil, List.nodup_cons, List.nodup_nil, List.mem_cons, List.not_mem_nil, not_false_eq_true, or_false, false_or]
  refine sp_urn _ _ _ _ hk hk2 fun a b hb => ?_
  simp only [dSeq, dIfS, dTst, dOp2, dVarO, dRes, dK, dOf, dVar, dFz, dAsg, gNm, dRet, dRetN, dExp, dCB, dOCons, dONil, dVCons, dVNil, dLst, dTup, dMove, dNext, dNot, dAnd, dOr, dIf, dAndV, dOrV, dNotV, dIsi, dNeg, dSl, dNoP, dPrt, dApp, dPop, dSetIx, dChain, dPar, dPar3, gTp, gCons', gNil', dCall, dFor, dSq, dRng1, dRng2, dEnm, dZip, dLc, dAll, dYes, dVK, dVKs, dNever, dNevE, dBreak, dCont, con, sl, frzS, isB, tuO, daO, sqO, lsO, lenO, ngO, consO, argO, varsO, wrB, untag, owL, tyS, tyD, entryE, tagA, finE, backA, wipeE, backE, keepS, seqD, gAdd, gSub, gI, gMul, gMod, gIc, gDiv, gPow, gEq, isNone, gIs, gLt, gLe, gGt, gGe, gIx, gLen, gIntC, gTupC, gLstC, gRepr, gSl, gII, need_some, atI_0, atI_1, atI_2, atI_3, ixN_30, ixN_31, ixN_32, List.getElem?_cons_zero, List.getElem?_cons_succ, List.getElem?_nil, List.set_cons_zero, List.set_cons_succ, List.length_cons, List.length_nil, Option.join_some, Option.join_none, List.replicate_succ, List.replicate_zero, List.cons_append, List.nil_append, Option.map_some, Nat.zero_add, Nat.reduceAdd, Nat.reduceSub, Bool.not_true, Bool.not_false, if_true, if_false, Bool.false_eq_true, true_and, and_true, decide_true, decide_false, Nat.reduceLeDiff, Nat.reduceEqDiff, reduceIte, reduceCtorEq, Bool.or_false, Bool.or_true, Bool.and_true, Bool.and_false, Bool.true_and, Bool.false_and, Bool.true_or, Bool.false_or, List.map_cons, List.map_nil, List.nodup_cons, List.nodup_nil, List.mem_cons, List.not_mem_nil, not_false_eq_true, or_false, false_or]
  refine hU1 _ ?_
  refine seqI fun U2 hU2 => ?_
  simp only [dSeq, dIfS, dTst, dOp2, dVarO, dRes, dK, dOf, dVar, dFz, dAsg, gNm, dRet, dRetN, dExp, dCB, dOCons, dONil, dVCons, dVNil, dLst, dTup, dMove, dNext, dNot, dAnd, dOr, dIf, dAndV, dOrV, dNotV, dIsi, dNeg, dSl, dNoP, dPrt, dApp, dPop, dSetIx, dChain, dPar, dPar3, gTp, gCons', gNil', dCall, dFor, dSq, dRng1, dRng2, dEnm, dZip, dLc, dAll, dYes, dVK, dVKs, dNever, dNevE, dBreak, dCont, con, sl, frzS, isB, tuO, daO, sqO, lsO, lenO, ngO, consO, argO, varsO, wrB, untag, owL, tyS, tyD, entryE, tagA, finE, backA, wipeE, backE, keepS, seqD, gAdd, gSub, gI, gMul, gMod, gIc, gDiv, gPow, gEq, isNone, gIs, gLt, gLe, gGt, gGe, gIx, gLen, gIntC, gTupC, gLstC, gRepr, gSl, gII, need_some, atI_0, atI_1, atI_2, atI_3, ixN_30, ixN_31, ixN_32, List.getElem?_cons_zero, List.getElem?_cons_succ, List.getElem?_nil, List.set_cons_zero, List.set_cons_succ, List.length_cons, List.length_nil, Option.join_some, Option.join_none, List.replicate_succ, List.replicate_zero, List.cons_append, List.nil_append, Option.map_some, Nat.zero_add, Nat.reduceAdd, Nat.reduceSub, Bool.not_true, Bool.not_false, if_true, if_false, Bool.false_eq_true, true_and, and_true, decide_true, decide_false, Nat.reduceLeDiff, Nat.reduceEqDiff, reduceIte, reduceCtorEq, Bool.or_false, Bool.or_true, Bool.and_true, Bool.and_false, Bool.true_and, Bool.false_and, Bool.true_or, Bool.false_or, List.map_cons, List.map_nil, List.nodup_cons, List.nodup_nil, List.mem_cons, List.not_mem_nil, not_false_eq_true, or_false, false_or]
  refine sp_machine _ _ _ _ _ hb (by omega) (by omega) fun a1 c1 L A rows0 k1 k2 hM => ?_
  simp only [dSeq, dIfS, dTst, dOp2, dVarO, dRes, dK, dOf, dVar, dFz, dAsg, gNm, dRet, dRetN, dExp, dCB, dOCons, dONil, dVCons, dVNil, dLst, dTup, dMove, dNext, dNot, dAnd, dOr, dIf, dAndV, dOrV, dNotV, dIsi, dNeg, dSl, dNoP, dPrt, dApp, dPop, dSetIx, dChain, dPar, dPar3, gTp, gCons', gNil', dCall, dFor, dSq, dRng1, dRng2, dEnm, dZip, dLc, dAll, dYes, dVK, dVKs, dNever, dNevE, dBreak, dCont, con, sl, frzS, isB, tuO, daO, sqO, lsO, lenO, ngO, consO, argO, varsO, wrB, untag, owL, tyS, tyD, entryE, tagA, finE, backA, wipeE, backE, keepS, seqD, gAdd, gSub, gI, gMul, gMod, gIc, gDiv, gPow, gEq, isNone, gIs, gLt, gLe, gGt, gGe, gIx, gLen, gIntC, gTupC, gLstC, gRepr, gSl, gII, need_some, atI_0, atI_1, atI_2, atI_3, ixN_30, ixN_31, ixN_32, List.getElem?_cons_zero, List.getElem?_cons_succ, List.getElem?_nil, List.set_cons_zero, List.set_cons_succ, List.length_cons, List.length_nil, Option.join_some, Option.join_none, List.replicate_succ, List.replicate_zero, List.cons_append, List.nil_append, Option.map_some, Nat.zero_add, Nat.reduceAdd, Nat.reduceSub, Bool.not_true, Bool.not_false, if_true, if_false, Bool.false_eq_true, true_and, and_true, decide_true, decide_false, Nat.reduceLeDiff, Nat.reduceEqDiff, reduceIte, reduceCtorEq, Bool.or_false, Bool.or_true, Bool.and_true, Bool.and_false, Bool.true_and, Bool.false_and, Bool.true_or, Bool.false_or, List.map_cons, List.map_nil, List.nodup_cons, List.nodup_nil, List.mem_cons, List.not_mem_nil, not_false_eq_true, or_false, false_or]
  refine hU2 _ ?_
  refine seqI fun U3 hU3 => ?_
  have rest : ∀ a2 c2 rows, 0 ≤ c2 → c2 ≤ 1000 → SkD L A rows → U3 [x0, some (.val (.int k)), some (.val (.int cell)), uN a2 b c2, some (.val (.tuple [.int L, .int A, .tuple rows0])), some (.val (.tuple [.int L, .int A, .tuple rows])), x6, x7, x8, x9] := fun a2 c2 rows q1 q2 hs => by
    obtain ⟨l1, l2, l3, l4, l5, l6, l7⟩ := hs
    refine hU3 _ ?_
    refine seqI fun U4 hU4 => ?_
    simp only [dSeq, dIfS, dTst, dOp2, dVarO, dRes, dK, dOf, dVar, dFz, dAsg, gNm, dRet, dRetN, dExp, dCB, dOCons, dONil, dVCons, dVNil, dLst, dTup, dMove, dNext, dNot, dAnd, dOr, dIf, dAndV, dOrV, dNotV, dIsi, dNeg, dSl, dNoP, dPrt, dApp, dPop, dSetIx, dChain, dPar, dPar3, gTp, gCons', gNil', dCall, dFor, dSq, dRng1, dRng2, dEnm, dZip, dLc, dAll, dYes, dVK, dVKs, dNever, dNevE, dBreak, dCont, con, sl, frzS, isB, tuO, daO, sqO, lsO, lenO, ngO, consO, argO, varsO, wrB, untag, owL, tyS, tyD, entryE, tagA, finE, backA, wipeE, backE, keepS, seqD, gAdd, gSub, gI, gMul, gMod, gIc, gDiv, gPow, gEq, isNone, gIs, gLt, gLe, gGt, gGe, gIx, gLen, gIntC, gTupC, gLstC, gRepr, gSl, gII, need_some, atI_0, atI_1, atI_2, atI_3, ixN_30, ixN_31, ixN_32, List.getElem?_cons_zero, List.getElem?_cons_succ, List.getElem?_nil, List.set_cons_zero, List.set_cons_succ, List.length_cons, List.length_nil, Option.join_some, Option.join_none, List.replicate_succ, List.replicate_zero, List.cons_append, List.nil_append, Option.map_some, Nat.zero_add, Nat.reduceAdd, Nat.reduceSub, Bool.not_true, Bool.not_false, if_true, if_false, Bool.false_eq_true, true_and, and_true, decide_true, decide_false, Nat.reduceLeDiff, Nat.reduceEqDiff, reduceIte, reduceCtorEq, Bool.or_false, Bool.or_true, Bool.and_true, Bool.and_false, Bool.true_and, Bool.false_and, Bool.true_or, Bool.false_or, List.map_cons, List.map_nil, List.nodup_cons, List.nodup_nil, List.mem_cons, List.not_mem_nil, not_false_eq_true, or_false, false_or]
    refine ⟨by decide, ⟨by decide, by decide⟩, by rw [rngD_length]; decide, ?_⟩
    refine words_in L A rows (by omega) (by omega) _ _ _ _ _ _ _ b hb _ a2 c2 _ _ q1 (by rw [rngD_length]; simp; omega) fun ys a3 c3 x8' j1 j2 j3 j4 => ?_
    rw [rngD_length] at j1 j4
    have j1 : ys.length = 5 := j1
    have j4 : c3 ≤ c2 + 2000 * 5 := j4
    simp only [dSeq, dIfS, dTst, dOp2, dVarO, dRes, dK, dOf, dVar, dFz, dAsg, gNm, dRet, dRetN, dExp, dCB, dOCons, dONil, dVCons, dVNil, dLst, dTup, dMove, dNext, dNot, dAnd, dOr, dIf, dAndV, dOrV, dNotV, dIsi, dNeg, dSl, dNoP, dPrt, dApp, dPop, dSetIx, dChain, dPar, dPar3, gTp, gCons', gNil', dCall, dFor, dSq, dRng1, dRng2, dEnm, dZip, dLc, dAll, dYes, dVK, dVKs, dNever, dNevE, dBreak, dCont, con, sl, frzS, isB, tuO, daO, sqO, lsO, lenO, ngO, consO, argO, varsO, wrB, untag, owL, tyS, tyD, entryE, tagA, finE, backA, wipeE, backE, keepS, seqD, gAdd, gSub, gI, gMul, gMod, gIc, gDiv, gPow, gEq, isNone, gIs, gLt, gLe, gGt, gGe, gIx, gLen, gIntC, gTupC, gLstC, gRepr, gSl, gII, need_some, atI_0, atI_1, atI_2, atI_3, ixN_30, ixN_31, ixN_32, List.getElem?_cons_zero, List.getElem?_cons_succ, List.getElem?_nil, List.set_cons_zero, List.set_cons_succ, List.length_cons, List.length_nil, Option.join_some, Option.join_none, List.replicate_succ, List.replicate_zero, List.cons_append, List.nil_append, Option.map_some, Nat.zero_add, Nat.reduceAdd, Nat.reduceSub, Bool.not_true, Bool.not_false, if_true, if_false, Bool.false_eq_true, true_and, and_true, decide_true, decide_false, Nat.reduceLeDiff, Nat.reduceEqDiff, reduceIte, reduceCtorEq, Bool.or_false, Bool.or_true, Bool.and_true, Bool.and_false, Bool.true_and, Bool.false_and, Bool.true_or, Bool.false_or, List.map_cons, List.map_nil, List.nodup_cons, List.nodup_nil, List.mem_cons, List.not_mem_nil, not_false_eq_true, or_false, false_or]
    refine ⟨Nat.le_of_lt (szlt (by omega)), ?_⟩
    refine hU4 _ ?_
    refine seqI fun U5 hU5 => ?_
    refine asgI (op2I fun K hK => ?_)
    simp only [dSeq, dIfS, dTst, dOp2, dVarO, dRes, dK, dOf, dVar, dFz, dAsg, gNm, dRet, dRetN, dExp, dCB, dOCons, dONil, dVCons, dVNil, dLst, dTup, dMove, dNext, dNot, dAnd, dOr, dIf, dAndV, dOrV, dNotV, dIsi, dNeg, dSl, dNoP, dPrt, dApp, dPop, dSetIx, dChain, dPar, dPar3, gTp, gCons', gNil', dCall, dFor, dSq, dRng1, dRng2, dEnm, dZip, dLc, dAll, dYes, dVK, dVKs, dNever, dNevE, dBreak, dCont, con, sl, frzS, isB, tuO, daO, sqO, lsO, lenO, ngO, consO, argO, varsO, wrB, untag, owL, tyS, tyD, entryE, tagA, finE, backA, wipeE, backE, keepS, seqD, gAdd, gSub, gI, gMul, gMod, gIc, gDiv, gPow, gEq, isNone, gIs, gLt, gLe, gGt, gGe, gIx, gLen, gIntC, gTupC, gLstC, gRepr, gSl, gII, need_some, atI_0, atI_1, atI_2, atI_3, ixN_30, ixN_31, ixN_32, List.getElem?_cons_zero, List.getElem?_cons_succ, List.getElem?_nil, List.set_cons_zero, List.set_cons_succ, List.length_cons, List.length_nil, Option.join_some, Option.join_none, List.replicate_succ, List.replicate_zero, List.cons_append, List.nil_append, Option.map_some, Nat.zero_add, Nat.reduceAdd, Nat.reduceSub, Bool.not_true, Bool.not_false, if_true, if_false, Bool.false_eq_true, true_and, and_true, decide_true, decide_false, Nat.reduceLeDiff, Nat.reduceEqDiff, reduceIte, reduceCtorEq, Bool.or_false, Bool.or_true, Bool.and_true, Bool.and_false, Bool.true_and, Bool.false_and, Bool.true_or, Bool.false_or, List.map_cons, List.map_nil, List.nodup_cons, List.nodup_nil, List.mem_cons, List.not_mem_nil, not_false_eq_true, or_false, false_or]
    refine sp_roll _ _ _ _ _ _ hb (by omega) (by omega) (by omega) (by omega) fun r a4 c4 g0 g1 g2 g3 => ?_
    simp only [dSeq, dIfS, dTst, dOp2, dVarO, dRes, dK, dOf, dVar, dFz, dAsg, gNm, dRet, dRetN, dExp, dCB, dOCons, dONil, dVCons, dVNil, dLst, dTup, dMove, dNext, dNot, dAnd, dOr, dIf, dAndV, dOrV, dNotV, dIsi, dNeg, dSl, dNoP, dPrt, dApp, dPop, dSetIx, dChain, dPar, dPar3, gTp, gCons', gNil', dCall, dFor, dSq, dRng1, dRng2, dEnm, dZip, dLc, dAll, dYes, dVK, dVKs, dNever, dNevE, dBreak, dCont, con, sl, frzS, isB, tuO, daO, sqO, lsO, lenO, ngO, consO, argO, varsO, wrB, untag, owL, tyS, tyD, entryE, tagA, finE, backA, wipeE, backE, keepS, seqD, gAdd, gSub, gI, gMul, gMod, gIc, gDiv, gPow, gEq, isNone, gIs, gLt, gLe, gGt, gGe, gIx, gLen, gIntC, gTupC, gLstC, gRepr, gSl, gII, need_some, atI_0, atI_1, atI_2, atI_3, ixN_30, ixN_31, ixN_32, List.getElem?_cons_zero, List.getElem?_cons_succ, List.getElem?_nil, List.set_cons_zero, List.set_cons_succ, List.length_cons, List.length_nil, Option.join_some, Option.join_none, List.replicate_succ, List.replicate_zero, List.cons_append, List.nil_append, Option.map_some, Nat.zero_add, Nat.reduceAdd, Nat.reduceSub, Bool.not_true, Bool.not_false, if_true, if_false, Bool.false_eq_true, true_and, and_true, decide_true, decide_false, Nat.reduceLeDiff, Nat.reduceEqDiff, reduceIte, reduceCtorEq, Bool.or_false, Bool.or_true, Bool.and_true, Bool.and_false, Bool.true_and, Bool.false_and, Bool.true_or, Bool.false_or, List.map_cons, List.map_nil, List.nodup_cons, List.nodup_nil, List.mem_cons, List.not_mem_nil, not_false_eq_true, or_false, false_or]
    refine ⟨sz1, hK _ _ ?_⟩
    simp only [dSeq, dIfS, dTst, dOp2, dVarO, dRes, dK, dOf, dVar, dFz, dAsg, gNm, dRet, dRetN, dExp, dCB, dOCons, dONil, dVCons, dVNil, dLst, dTup, dMove, dNext, dNot, dAnd, dOr, dIf, dAndV, dOrV, dNotV, dIsi, dNeg, dSl, dNoP, dPrt, dApp, dPop, dSetIx, dChain, dPar, dPar3, gTp, gCons', gNil', dCall, dFor, dSq, dRng1, dRng2, dEnm, dZip, dLc, dAll, dYes, dVK, dVKs, dNever, dNevE, dBreak, dCont, con, sl, frzS, isB, tuO, daO, sqO, lsO, lenO, ngO, consO, argO, varsO, wrB, untag, owL, tyS, tyD, entryE, tagA, finE, backA, wipeE, backE, keepS, seqD, gAdd, gSub, gI, gMul, gMod, gIc, gDiv, gPow, gEq, isNone, gIs, gLt, gLe, gGt, gGe, gIx, gLen, gIntC, gTupC, gLstC, gRepr, gSl, gII, need_some, atI_0, atI_1, atI_2, atI_3, ixN_30, ixN_31, ixN_32, List.getElem?_cons_zero, List.getElem?_cons_succ, List.getElem?_nil, List.set_cons_zero, List.set_cons_succ, List.length_cons, List.length_nil, Option.join_some, Option.join_none, List.replicate_succ, List.replicate_zero, List.cons_append, List.nil_append, Option.map_some, Nat.zero_add, Nat.reduceAdd, Nat.reduceSub, Bool.not_true, Bool.not_false, if_true, if_false, Bool.false_eq_true, true_and, and_true, decide_true, decide_false, Nat.reduceLeDiff, Nat.reduceEqDiff, reduceIte, reduceCtorEq, Bool.or_false, Bool.or_true, Bool.and_true, Bool.and_false, Bool.true_and, Bool.false_and, Bool.true_or, Bool.false_or, List.map_cons, List.map_nil, List.nodup_cons, List.nodup_nil, List.mem_cons, List.not_mem_nil, not_false_eq_true, or_false, false_or]
    refine sp_word _ _ _ _ 4 _ _ hb (by omega) (by omega) (by omega) (by omega) (by omega) fun a5 c5 y i2 i3 i4 => ?_
    obtain ⟨ws, rfl, w1, w2⟩ := i4
    simp only [dSeq, dIfS, dTst, dOp2, dVarO, dRes, dK, dOf, dVar, dFz, dAsg, gNm, dRet, dRetN, dExp, dCB, dOCons, dONil, dVCons, dVNil, dLst, dTup, dMove, dNext, dNot, dAnd, dOr, dIf, dAndV, dOrV, dNotV, dIsi, dNeg, dSl, dNoP, dPrt, dApp, dPop, dSetIx, dChain, dPar, dPar3, gTp, gCons', gNil', dCall, dFor, dSq, dRng1, dRng2, dEnm, dZip, dLc, dAll, dYes, dVK, dVKs, dNever, dNevE, dBreak, dCont, con, sl, frzS, isB, tuO, daO, sqO, lsO, lenO, ngO, consO, argO, varsO, wrB, untag, owL, tyS, tyD, entryE, tagA, finE, backA, wipeE, backE, keepS, seqD, gAdd, gSub, gI, gMul, gMod, gIc, gDiv, gPow, gEq, isNone, gIs, gLt, gLe, gGt, gGe, gIx, gLen, gIntC, gTupC, gLstC, gRepr, gSl, gII, need_some, atI_0, atI_1, atI_2, atI_3, ixN_30, ixN_31, ixN_32, List.getElem?_cons_zero, List.getElem?_cons_succ, List.getElem?_nil, List.set_cons_zero, List.set_cons_succ, List.length_cons, List.length_nil, Option.join_some, Option.join_none, List.replicate_succ, List.replicate_zero, List.cons_append, List.nil_append, Option.map_some, Nat.zero_add, Nat.reduceAdd, Nat.reduceSub, Bool.not_true, Bool.not_false, if_true, if_false, Bool.false_eq_true, true_and, and_true, decide_true, decide_false, Nat.reduceLeDiff, Nat.reduceEqDiff, reduceIte, reduceCtorEq, Bool.or_false, Bool.or_true, Bool.and_true, Bool.and_false, Bool.true_and, Bool.false_and, Bool.true_or, Bool.false_or, List.map_cons, List.map_nil, List.nodup_cons, List.nodup_nil, List.mem_cons, List.not_mem_nil, not_false_eq_true, or_false, false_or]
    refine ⟨Nat.le_of_lt (szlt (by simp; omega)), ?_⟩
    refine hU5 _ ?_
    refine seqI fun U6 hU6 => ?_
    refine appI rfl fun K hK => ?_
    refine fzI (slI fun K2 hK2 => ?_)
    simp only [dSeq, dIfS, dTst, dOp2, dVarO, dRes, dK, dOf, dVar, dFz, dAsg, gNm, dRet, dRetN, dExp, dCB, dOCons, dONil, dVCons, dVNil, dLst, dTup, dMove, dNext, dNot, dAnd, dOr, dIf, dAndV, dOrV, dNotV, dIsi, dNeg, dSl, dNoP, dPrt, dApp, dPop, dSetIx, dChain, dPar, dPar3, gTp, gCons', gNil', dCall, dFor, dSq, dRng1, dRng2, dEnm, dZip, dLc, dAll, dYes, dVK, dVKs, dNever, dNevE, dBreak, dCont, con, sl, frzS, isB, tuO, daO, sqO, lsO, lenO, ngO, consO, argO, varsO, wrB, untag, owL, tyS, tyD, entryE, tagA, finE, backA, wipeE, backE, keepS, seqD, gAdd, gSub, gI, gMul, gMod, gIc, gDiv, gPow, gEq, isNone, gIs, gLt, gLe, gGt, gGe, gIx, gLen, gIntC, gTupC, gLstC, gRepr, gSl, gII, need_some, atI_0, atI_1, atI_2, atI_3, ixN_30, ixN_31, ixN_32, List.getElem?_cons_zero, List.getElem?_cons_succ, List.getElem?_nil, List.set_cons_zero, List.set_cons_succ, List.length_cons, List.length_nil, Option.join_some, Option.join_none, List.replicate_succ, List.replicate_zero, List.cons_append, List.nil_append, Option.map_some, Nat.zero_add, Nat.reduceAdd, Nat.reduceSub, Bool.not_true, Bool.not_false, if_true, if_false, Bool.false_eq_true, true_and, and_true, decide_true, decide_false, Nat.reduceLeDiff, Nat.reduceEqDiff, reduceIte, reduceCtorEq, Bool.or_false, Bool.or_true, Bool.and_true, Bool.and_false, Bool.true_and, Bool.false_and, Bool.true_or, Bool.false_or, List.map_cons, List.map_nil, List.nodup_cons, List.nodup_nil, List.mem_cons, List.not_mem_nil, not_false_eq_true, or_false, false_or]
    refine ⟨⟨by simp, by decide, by decide, by simp; omega⟩, hK2 _ _ _ ?_⟩
    refine callI fun K3 hK3 => ?_
    refine ocI fun K4 hK4 => need_in rfl (hK4 _ _ ?_)
    simp only [dSeq, dIfS, dTst, dOp2, dVarO, dRes, dK, dOf, dVar, dFz, dAsg, gNm, dRet, dRetN, dExp, dCB, dOCons, dONil, dVCons, dVNil, dLst, dTup, dMove, dNext, dNot, dAnd, dOr, dIf, dAndV, dOrV, dNotV, dIsi, dNeg, dSl, dNoP, dPrt, dApp, dPop, dSetIx, dChain, dPar, dPar3, gTp, gCons', gNil', dCall, dFor, dSq, dRng1, dRng2, dEnm, dZip, dLc, dAll, dYes, dVK, dVKs, dNever, dNevE, dBreak, dCont, con, sl, frzS, isB, tuO, daO, sqO, lsO, lenO, ngO, consO, argO, varsO, wrB, untag, owL, tyS, tyD, entryE, tagA, finE, backA, wipeE, backE, keepS, seqD, gAdd, gSub, gI, gMul, gMod, gIc, gDiv, gPow, gEq, isNone, gIs, gLt, gLe, gGt, gGe, gIx, gLen, gIntC, gTupC, gLstC, gRepr, gSl, gII, need_some, atI_0, atI_1, atI_2, atI_3, ixN_30, ixN_31, ixN_32, List.getElem?_cons_zero, List.getElem?_cons_succ, List.getElem?_nil, List.set_cons_zero, List.set_cons_succ, List.length_cons, List.length_nil, Option.join_some, Option.join_none, List.replicate_succ, List.replicate_zero, List.cons_append, List.nil_append, Option.map_some, Nat.zero_add, Nat.reduceAdd, Nat.reduceSub, Bool.not_true, Bool.not_false, if_true, if_false, Bool.false_eq_true, true_and, and_true, decide_true, decide_false, Nat.reduceLeDiff, Nat.reduceEqDiff, reduceIte, reduceCtorEq, Bool.or_false, Bool.or_true, Bool.and_true, Bool.and_false, Bool.true_and, Bool.false_and, Bool.true_or, Bool.false_or, List.map_cons, List.map_nil, List.nodup_cons, List.nodup_nil, List.mem_cons, List.not_mem_nil, not_false_eq_true, or_false, false_or]
    refine sp_roll _ _ _ _ _ _ hb (by omega) (by omega) (by omega) (by omega) fun m a6 c6 g0 g1 g2 g3 => ?_
    simp only [dSeq, dIfS, dTst, dOp2, dVarO, dRes, dK, dOf, dVar, dFz, dAsg, gNm, dRet, dRetN, dExp, dCB, dOCons, dONil, dVCons, dVNil, dLst, dTup, dMove, dNext, dNot, dAnd, dOr, dIf, dAndV, dOrV, dNotV, dIsi, dNeg, dSl, dNoP, dPrt, dApp, dPop, dSetIx, dChain, dPar, dPar3, gTp, gCons', gNil', dCall, dFor, dSq, dRng1, dRng2, dEnm, dZip, dLc, dAll, dYes, dVK, dVKs, dNever, dNevE, dBreak, dCont, con, sl, frzS, isB, tuO, daO, sqO, lsO, lenO, ngO, consO, argO, varsO, wrB, untag, owL, tyS, tyD, entryE, tagA, finE, backA, wipeE, backE, keepS, seqD, gAdd, gSub, gI, gMul, gMod, gIc, gDiv, gPow, gEq, isNone, gIs, gLt, gLe, gGt, gGe, gIx, gLen, gIntC, gTupC, gLstC, gRepr, gSl, gII, need_some, atI_0, atI_1, atI_2, atI_3, ixN_30, ixN_31, ixN_32, List.getElem?_cons_zero, List.getElem?_cons_succ, List.getElem?_nil, List.set_cons_zero, List.set_cons_succ, List.length_cons, List.length_nil, Option.join_some, Option.join_none, List.replicate_succ, List.replicate_zero, List.cons_append, List.nil_append, Option.map_some, Nat.zero_add, Nat.reduceAdd, Nat.reduceSub, Bool.not_true, Bool.not_false, if_true, if_false, Bool.false_eq_true, true_and, and_true, decide_true, decide_false, Nat.reduceLeDiff, Nat.reduceEqDiff, reduceIte, reduceCtorEq, Bool.or_false, Bool.or_true, Bool.and_true, Bool.and_false, Bool.true_and, Bool.false_and, Bool.true_or, Bool.false_or, List.map_cons, List.map_nil, List.nodup_cons, List.nodup_nil, List.mem_cons, List.not_mem_nil, not_false_eq_true, or_false, false_or]
    refine ⟨sz3, hK3 _ _ ?_⟩
    simp only [dSeq, dIfS, dTst, dOp2, dVarO, dRes, dK, dOf, dVar, dFz, dAsg, gNm, dRet, dRetN, dExp, dCB, dOCons, dONil, dVCons, dVNil, dLst, dTup, dMove, dNext, dNot, dAnd, dOr, dIf, dAndV, dOrV, dNotV, dIsi, dNeg, dSl, dNoP, dPrt, dApp, dPop, dSetIx, dChain, dPar, dPar3, gTp, gCons', gNil', dCall, dFor, dSq, dRng1, dRng2, dEnm, dZip, dLc, dAll, dYes, dVK, dVKs, dNever, dNevE, dBreak, dCont, con, sl, frzS, isB, tuO, daO, sqO, lsO, lenO, ngO, consO, argO, varsO, wrB, untag, owL, tyS, tyD, entryE, tagA, finE, backA, wipeE, backE, keepS, seqD, gAdd, gSub, gI, gMul, gMod, gIc, gDiv, gPow, gEq, isNone, gIs, gLt, gLe, gGt, gGe, gIx, gLen, gIntC, gTupC, gLstC, gRepr, gSl, gII, need_some, atI_0, atI_1, atI_2, atI_3, ixN_30, ixN_31, ixN_32, List.getElem?_cons_zero, List.getElem?_cons_succ, List.getElem?_nil, List.set_cons_zero, List.set_cons_succ, List.length_cons, List.length_nil, Option.join_some, Option.join_none, List.replicate_succ, List.replicate_zero, List.cons_append, List.nil_append, Option.map_some, Nat.zero_add, Nat.reduceAdd, Nat.reduceSub, Bool.not_true, Bool.not_false, if_true, if_false, Bool.false_eq_true, true_and, and_true, decide_true, decide_false, Nat.reduceLeDiff, Nat.reduceEqDiff, reduceIte, reduceCtorEq, Bool.or_false, Bool.or_true, Bool.and_true, Bool.and_false, Bool.true_and, Bool.false_and, Bool.true_or, Bool.false_or, List.map_cons, List.map_nil, List.nodup_cons, List.nodup_nil, List.mem_cons, List.not_mem_nil, not_false_eq_true, or_false, false_or]
    refine sp_one _ _ _ _ _ _ hb (by omega) (by omega) (by simp) (by simp) fun d a7 c7 hd g4 g5 => ?_
    have hdi : ∃ n : Nat, d = PyData.int (n : Nat) ∧ n ≤ 600 := by
      simp only [List.mem_cons, List.not_mem_nil, or_false] at hd
      rcases hd with rfl | rfl | rfl
      · exact ⟨600, rfl, by omega⟩
      · exact ⟨599, rfl, by omega⟩
      · exact ⟨m.toNat, by rw [Int.toNat_of_nonneg g0], by omega⟩
    obtain ⟨n, rfl, hn⟩ := hdi
    have el : cutD (List.replicate (Int.toNat 600) (PyData.int r :: ws.map .int)).flatten none (some (n : Int)) = ((List.replicate 600 (r :: ws)).flatten.take n).map .int := by
      rw [cut_take, List.map_take, List.map_flatten, List.map_replicate, List.map_cons]
      rfl
    have hwd : WordD L 600 (.tuple (((List.replicate 600 (r :: ws)).flatten.take n).map .int)) := ⟨_, rfl, by rw [List.length_take]; omega, fun z hz => by
      obtain ⟨l, hl, hzl⟩ := List.mem_flatten.mp (List.mem_of_mem_take hz)
      rw [(List.mem_replicate.mp hl).2] at hzl
      rcases List.mem_cons.mp hzl with rfl | hzl
      · exact ⟨by assumption, by assumption⟩
      · exact w2 z hzl⟩
    simp only [dSeq, dIfS, dTst, dOp2, dVarO, dRes, dK, dOf, dVar, dFz, dAsg, gNm, dRet, dRetN, dExp, dCB, dOCons, dONil, dVCons, dVNil, dLst, dTup, dMove, dNext, dNot, dAnd, dOr, dIf, dAndV, dOrV, dNotV, dIsi, dNeg, dSl, dNoP, dPrt, dApp, dPop, dSetIx, dChain, dPar, dPar3, gTp, gCons', gNil', dCall, dFor, dSq, dRng1, dRng2, dEnm, dZip, dLc, dAll, dYes, dVK, dVKs, dNever, dNevE, dBreak, dCont, con, sl, frzS, isB, tuO, daO, sqO, lsO, lenO, ngO, consO, argO, varsO, wrB, untag, owL, tyS, tyD, entryE, tagA, finE, backA, wipeE, backE, keepS, seqD, gAdd, gSub, gI, gMul, gMod, gIc, gDiv, gPow, gEq, isNone, gIs, gLt, gLe, gGt, gGe, gIx, gLen, gIntC, gTupC, gLstC, gRepr, gSl, gII, need_some, atI_0, atI_1, atI_2, atI_3, ixN_30, ixN_31, ixN_32, List.getElem?_cons_zero, List.getElem?_cons_succ, List.getElem?_nil, List.set_cons_zero, List.set_cons_succ, List.length_cons, List.length_nil, Option.join_some, Option.join_none, List.replicate_succ, List.replicate_zero, List.cons_append, List.nil_append, Option.map_some, Nat.zero_add, Nat.reduceAdd, Nat.reduceSub, Bool.not_true, Bool.not_false, if_true, if_false, Bool.false_eq_true, true_and, and_true, decide_true, decide_false, Nat.reduceLeDiff, Nat.reduceEqDiff, reduceIte, reduceCtorEq, Bool.or_false, Bool.or_true, Bool.and_true, Bool.and_false, Bool.true_and, Bool.false_and, Bool.true_or, Bool.false_or, List.map_cons, List.map_nil, List.nodup_cons, List.nodup_nil, List.mem_cons, List.not_mem_nil, not_false_eq_true, or_false, false_or, el]
    refine hK _ _ ?_
    simp only [dSeq, dIfS, dTst, dOp2, dVarO, dRes, dK, dOf, dVar, dFz, dAsg, gNm, dRet, dRetN, dExp, dCB, dOCons, dONil, dVCons, dVNil, dLst, dTup, dMove, dNext, dNot, dAnd, dOr, dIf, dAndV, dOrV, dNotV, dIsi, dNeg, dSl, dNoP, dPrt, dApp, dPop, dSetIx, dChain, dPar, dPar3, gTp, gCons', gNil', dCall, dFor, dSq, dRng1, dRng2, dEnm, dZip, dLc, dAll, dYes, dVK, dVKs, dNever, dNevE, dBreak, dCont, con, sl, frzS, isB, tuO, daO, sqO, lsO, lenO, ngO, consO, argO, varsO, wrB, untag, owL, tyS, tyD, entryE, tagA, finE, backA, wipeE, backE, keepS, seqD, gAdd, gSub, gI, gMul, gMod, gIc, gDiv, gPow, gEq, isNone, gIs, gLt, gLe, gGt, gGe, gIx, gLen, gIntC, gTupC, gLstC, gRepr, gSl, gII, need_some, atI_0, atI_1, atI_2, atI_3, ixN_30, ixN_31, ixN_32, List.getElem?_cons_zero, List.getElem?_cons_succ, List.getElem?_nil, List.set_cons_zero, List.set_cons_succ, List.length_cons, List.length_nil, Option.join_some, Option.join_none, List.replicate_succ, List.replicate_zero, List.cons_append, List.nil_append, Option.map_some, Nat.zero_add, Nat.reduceAdd, Nat.reduceSub, Bool.not_true, Bool.not_false, if_true, if_false, Bool.false_eq_true, true_and, and_true, decide_true, decide_false, Nat.reduceLeDiff, Nat.reduceEqDiff, reduceIte, reduceCtorEq, Bool.or_false, Bool.or_true, Bool.and_true, Bool.and_false, Bool.true_and, Bool.false_and, Bool.true_or, Bool.false_or, List.map_cons, List.map_nil, List.nodup_cons, List.nodup_nil, List.mem_cons, List.not_mem_nil, not_false_eq_true, or_false, false_or]
    refine ⟨szlt (by omega), ?_⟩
    refine hU6 _ ?_
    refine ifI fun P R hP hR => ?_
    have fin : ∀ y3 y4 y5 y6 y7 y8 y9, R [x0, some (.val (.int k)), some (.val (.int cell)), y3, y4, y5, y6, y7, y8, y9] := fun y3 y4 y5 y6 y7 y8 y9 => by
      refine hR _ ?_
      simp only [dSeq, dIfS, dTst, dOp2, dVarO, dRes, dK, dOf, dVar, dFz, dAsg, gNm, dRet, dRetN, dExp, dCB, dOCons, dONil, dVCons, dVNil, dLst, dTup, dMove, dNext, dNot, dAnd, dOr, dIf, dAndV, dOrV, dNotV, dIsi, dNeg, dSl, dNoP, dPrt, dApp, dPop, dSetIx, dChain, dPar, dPar3, gTp, gCons', gNil', dCall, dFor, dSq, dRng1, dRng2, dEnm, dZip, dLc, dAll, dYes, dVK, dVKs, dNever, dNevE, dBreak, dCont, con, sl, frzS, isB, tuO, daO, sqO, lsO, lenO, ngO, consO, argO, varsO, wrB, untag, owL, tyS, tyD, entryE, tagA, finE, backA, wipeE, backE, keepS, seqD, gAdd, gSub, gI, gMul, gMod, gIc, gDiv, gPow, gEq, isNone, gIs, gLt, gLe, gGt, gGe, gIx, gLen, gIntC, gTupC, gLstC, gRepr, gSl, gII, need_some, atI_0, atI_1, atI_2, atI_3, ixN_30, ixN_31, ixN_32, List.getElem?_cons_zero, List.getElem?_cons_succ, List.getElem?_nil, List.set_cons_zero, List.set_cons_succ, List.length_cons, List.length_nil, Option.join_some, Option.join_none, List.replicate_succ, List.replicate_zero, List.cons_append, List.nil_append, Option.map_some, Nat.zero_add, Nat.reduceAdd, Nat.reduceSub, Bool.not_true, Bool.not_false, if_true, if_false, Bool.false_eq_true, true_and, and_true, decide_true, decide_false, Nat.reduceLeDiff, Nat.reduceEqDiff, reduceIte, reduceCtorEq, Bool.or_false, Bool.or_true, Bool.and_true, Bool.and_false, Bool.true_and, Bool.false_and, Bool.true_or, Bool.false_or, List.map_cons, List.map_nil, List.nodup_cons, List.nodup_nil, List.mem_cons, List.not_mem_nil, not_false_eq_true, or_false, false_or]
      exact h _ _ _ _ _ _ _
    simp only [dSeq, dIfS, dTst, dOp2, dVarO, dRes, dK, dOf, dVar, dFz, dAsg, gNm, dRet, dRetN, dExp, dCB, dOCons, dONil, dVCons, dVNil, dLst, dTup, dMove, dNext, dNot, dAnd, dOr, dIf, dAndV, dOrV, dNotV, dIsi, dNeg, dSl, dNoP, dPrt, dApp, dPop, dSetIx, dChain, dPar, dPar3, gTp, gCons', gNil', dCall, dFor, dSq, dRng1, dRng2, dEnm, dZip, dLc, dAll, dYes, dVK, dVKs, dNever, dNevE, dBreak, dCont, con, sl, frzS, isB, tuO, daO, sqO, lsO, lenO, ngO, consO, argO, varsO, wrB, untag, owL, tyS, tyD, entryE, tagA, finE, backA, wipeE, backE, keepS, seqD, gAdd, gSub, gI, gMul, gMod, gIc, gDiv, gPow, gEq, isNone, gIs, gLt, gLe, gGt, gGe, gIx, gLen, gIntC, gTupC, gLstC, gRepr, gSl, gII, need_some, atI_0, atI_1, atI_2, atI_3, ixN_30, ixN_31, ixN_32, List.getElem?_cons_zero, List.getElem?_cons_succ, List.getElem?_nil, List.set_cons_zero, List.set_cons_succ, List.length_cons, List.length_nil, Option.join_some, Option.join_none, List.replicate_succ, List.replicate_zero, List.cons_append, List.nil_append, Option.map_some, Nat.zero_add, Nat.reduceAdd, Nat.reduceSub, Bool.not_true, Bool.not_false, if_true, if_false, Bool.false_eq_true, true_and, and_true, decide_true, decide_false, Nat.reduceLeDiff, Nat.reduceEqDiff, reduceIte, reduceCtorEq, Bool.or_false, Bool.or_true, Bool.and_true, Bool.and_false, Bool.true_and, Bool.false_and, Bool.true_or, Bool.false_or, List.map_cons, List.map_nil, List.nodup_cons, List.nodup_nil, List.mem_cons, List.not_mem_nil, not_false_eq_true, or_false, false_or]
    refine ⟨Nat.le_of_lt (szlt (by simp; omega)), ?_⟩
    refine bad_in L A rows ⟨l1, l2, l3, l4, l5, l6, l7⟩ _ _ _ _ _ _ _ _ _ _ _ (fun d hd => ?_) fun x9' => ?_
    · rcases List.mem_cons.mp hd with rfl | hd
      · exact ⟨[], rfl, by simp, fun w hw => by simp at hw⟩
      · rcases List.mem_append.mp hd with hd | hd
        · exact (j2 d hd).le (by omega)
        · rw [List.mem_singleton.mp hd]; exact hwd
    simp only [dSeq, dIfS, dTst, dOp2, dVarO, dRes, dK, dOf, dVar, dFz, dAsg, gNm, dRet, dRetN, dExp, dCB, dOCons, dONil, dVCons, dVNil, dLst, dTup, dMove, dNext, dNot, dAnd, dOr, dIf, dAndV, dOrV, dNotV, dIsi, dNeg, dSl, dNoP, dPrt, dApp, dPop, dSetIx, dChain, dPar, dPar3, gTp, gCons', gNil', dCall, dFor, dSq, dRng1, dRng2, dEnm, dZip, dLc, dAll, dYes, dVK, dVKs, dNever, dNevE, dBreak, dCont, con, sl, frzS, isB, tuO, daO, sqO, lsO, lenO, ngO, consO, argO, varsO, wrB, untag, owL, tyS, tyD, entryE, tagA, finE, backA, wipeE, backE, keepS, seqD, gAdd, gSub, gI, gMul, gMod, gIc, gDiv, gPow, gEq, isNone, gIs, gLt, gLe, gGt, gGe, gIx, gLen, gIntC, gTupC, gLstC, gRepr, gSl, gII, need_some, atI_0, atI_1, atI_2, atI_3, ixN_30, ixN_31, ixN_32, List.getElem?_cons_zero, List.getElem?_cons_succ, List.getElem?_nil, List.set_cons_zero, List.set_cons_succ, List.length_cons, List.length_nil, Option.join_some, Option.join_none, List.replicate_succ, List.replicate_zero, List.cons_append, List.nil_append, Option.map_some, Nat.zero_add, Nat.reduceAdd, Nat.reduceSub, Bool.not_true, Bool.not_false, if_true, if_false, Bool.false_eq_true, true_and, and_true, decide_true, decide_false, Nat.reduceLeDiff, Nat.reduceEqDiff, reduceIte, reduceCtorEq, Bool.or_false, Bool.or_true, Bool.and_true, Bool.and_false, Bool.true_and, Bool.false_and, Bool.true_or, Bool.false_or, List.map_cons, List.map_nil, List.nodup_cons, List.nodup_nil, List.mem_cons, List.not_mem_nil, not_false_eq_true, or_false, false_or]
    refine ⟨Nat.zero_le _, .inl ⟨shaped_nil, shaped_nil⟩, ?_⟩
    rw [eqv_nil]
    exact fin _ _ _ _ _ _ _
  refine asgI (ifE fun P R hP hR => ?_)
  have pp : ∀ a2 c2, 0 ≤ c2 → c2 ≤ 900 → P [x0, some (.val (.int k)), some (.val (.int cell)), uN a2 b c2, some (.val (.tuple [.int L, .int A, .tuple rows0])), x5, x6, x7, x8, x9] := fun a2 c2 q1 q2 => by
    refine hP _ ?_
    simp only [dSeq, dIfS, dTst, dOp2, dVarO, dRes, dK, dOf, dVar, dFz, dAsg, gNm, dRet, dRetN, dExp, dCB, dOCons, dONil, dVCons, dVNil, dLst, dTup, dMove, dNext, dNot, dAnd, dOr, dIf, dAndV, dOrV, dNotV, dIsi, dNeg, dSl, dNoP, dPrt, dApp, dPop, dSetIx, dChain, dPar, dPar3, gTp, gCons', gNil', dCall, dFor, dSq, dRng1, dRng2, dEnm, dZip, dLc, dAll, dYes, dVK, dVKs, dNever, dNevE, dBreak, dCont, con, sl, frzS, isB, tuO, daO, sqO, lsO, lenO, ngO, consO, argO, varsO, wrB, untag, owL, tyS, tyD, entryE, tagA, finE, backA, wipeE, backE, keepS, seqD, gAdd, gSub, gI, gMul, gMod, gIc, gDiv, gPow, gEq, isNone, gIs, gLt, gLe, gGt, gGe, gIx, gLen, gIntC, gTupC, gLstC, gRepr, gSl, gII, need_some, atI_0, atI_1, atI_2, atI_3, ixN_30, ixN_31, ixN_32, List.getElem?_cons_zero, List.getElem?_cons_succ, List.getElem?_nil, List.set_cons_zero, List.set_cons_succ, List.length_cons, List.length_nil, Option.join_some, Option.join_none, List.replicate_succ, List.replicate_zero, List.cons_append, List.nil_append, Option.map_some, Nat.zero_add, Nat.reduceAdd, Nat.reduceSub, Bool.not_true, Bool.not_false, if_true, if_false, Bool.false_eq_true, true_and, and_true, decide_true, decide_false, Nat.reduceLeDiff, Nat.reduceEqDiff, reduceIte, reduceCtorEq, Bool.or_false, Bool.or_true, Bool.and_true, Bool.and_false, Bool.true_and, Bool.false_and, Bool.true_or, Bool.false_or, List.map_cons, List.map_nil, List.nodup_cons, List.nodup_nil, List.mem_cons, List.not_mem_nil, not_false_eq_true, or_false, false_or]
    exact rest _ _ _ q1 (by omega) hM.sk
  have rr : ∀ a2 c2, 0 ≤ c2 → c2 ≤ 900 → R [x0, some (.val (.int k)), some (.val (.int cell)), uN a2 b c2, some (.val (.tuple [.int L, .int A, .tuple rows0])), x5, x6, x7, x8, x9] := fun a2 c2 q1 q2 => by
    refine hR _ ?_
    refine callI fun K hK => ?_
    refine ocI fun K1 hK1 => need_in rfl (hK1 _ _ ?_)
    refine ocI fun K2 hK2 => need_in rfl (hK2 _ _ ?_)
    refine ocI fun K3 hK3 => ?_
    simp only [dSeq, dIfS, dTst, dOp2, dVarO, dRes, dK, dOf, dVar, dFz, dAsg, gNm, dRet, dRetN, dExp, dCB, dOCons, dONil, dVCons, dVNil, dLst, dTup, dMove, dNext, dNot, dAnd, dOr, dIf, dAndV, dOrV, dNotV, dIsi, dNeg, dSl, dNoP, dPrt, dApp, dPop, dSetIx, dChain, dPar, dPar3, gTp, gCons', gNil', dCall, dFor, dSq, dRng1, dRng2, dEnm, dZip, dLc, dAll, dYes, dVK, dVKs, dNever, dNevE, dBreak, dCont, con, sl, frzS, isB, tuO, daO, sqO, lsO, lenO, ngO, consO, argO, varsO, wrB, untag, owL, tyS, tyD, entryE, tagA, finE, backA, wipeE, backE, keepS, seqD, gAdd, gSub, gI, gMul, gMod, gIc, gDiv, gPow, gEq, isNone, gIs, gLt, gLe, gGt, gGe, gIx, gLen, gIntC, gTupC, gLstC, gRepr, gSl, gII, need_some, atI_0, atI_1, atI_2, atI_3, ixN_30, ixN_31, ixN_32, List.getElem?_cons_zero, List.getElem?_cons_succ, List.getElem?_nil, List.set_cons_zero, List.set_cons_succ, List.length_cons, List.length_nil, Option.join_some, Option.join_none, List.replicate_succ, List.replicate_zero, List.cons_append, List.nil_append, Option.map_some, Nat.zero_add, Nat.reduceAdd, Nat.reduceSub, Bool.not_true, Bool.not_false, if_true, if_false, Bool.false_eq_true, true_and, and_true, decide_true, decide_false, Nat.reduceLeDiff, Nat.reduceEqDiff, reduceIte, reduceCtorEq, Bool.or_false, Bool.or_true, Bool.and_true, Bool.and_false, Bool.true_and, Bool.false_and, Bool.true_or, Bool.false_or, List.map_cons, List.map_nil, List.nodup_cons, List.nodup_nil, List.mem_cons, List.not_mem_nil, not_false_eq_true, or_false, false_or]
    refine sp_roll _ _ _ _ _ _ hb (by omega) (by omega) (by omega) (by omega) fun r a3 c3 g0 g1 g2 g3 => ?_
    simp only [dSeq, dIfS, dTst, dOp2, dVarO, dRes, dK, dOf, dVar, dFz, dAsg, gNm, dRet, dRetN, dExp, dCB, dOCons, dONil, dVCons, dVNil, dLst, dTup, dMove, dNext, dNot, dAnd, dOr, dIf, dAndV, dOrV, dNotV, dIsi, dNeg, dSl, dNoP, dPrt, dApp, dPop, dSetIx, dChain, dPar, dPar3, gTp, gCons', gNil', dCall, dFor, dSq, dRng1, dRng2, dEnm, dZip, dLc, dAll, dYes, dVK, dVKs, dNever, dNevE, dBreak, dCont, con, sl, frzS, isB, tuO, daO, sqO, lsO, lenO, ngO, consO, argO, varsO, wrB, untag, owL, tyS, tyD, entryE, tagA, finE, backA, wipeE, backE, keepS, seqD, gAdd, gSub, gI, gMul, gMod, gIc, gDiv, gPow, gEq, isNone, gIs, gLt, gLe, gGt, gGe, gIx, gLen, gIntC, gTupC, gLstC, gRepr, gSl, gII, need_some, atI_0, atI_1, atI_2, atI_3, ixN_30, ixN_31, ixN_32, List.getElem?_cons_zero, List.getElem?_cons_succ, List.getElem?_nil, List.set_cons_zero, List.set_cons_succ, List.length_cons, List.length_nil, Option.join_some, Option.join_none, List.replicate_succ, List.replicate_zero, List.cons_append, List.nil_append, Option.map_some, Nat.zero_add, Nat.reduceAdd, Nat.reduceSub, Bool.not_true, Bool.not_false, if_true, if_false, Bool.false_eq_true, true_and, and_true, decide_true, decide_false, Nat.reduceLeDiff, Nat.reduceEqDiff, reduceIte, reduceCtorEq, Bool.or_false, Bool.or_true, Bool.and_true, Bool.and_false, Bool.true_and, Bool.false_and, Bool.true_or, Bool.false_or, List.map_cons, List.map_nil, List.nodup_cons, List.nodup_nil, List.mem_cons, List.not_mem_nil, not_false_eq_true, or_false, false_or]
    refine hK3 _ _ (hK _ _ ?_)
    simp only [dSeq, dIfS, dTst, dOp2, dVarO, dRes, dK, dOf, dVar, dFz, dAsg, gNm, dRet, dRetN, dExp, dCB, dOCons, dONil, dVCons, dVNil, dLst, dTup, dMove, dNext, dNot, dAnd, dOr, dIf, dAndV, dOrV, dNotV, dIsi, dNeg, dSl, dNoP, dPrt, dApp, dPop, dSetIx, dChain, dPar, dPar3, gTp, gCons', gNil', dCall, dFor, dSq, dRng1, dRng2, dEnm, dZip, dLc, dAll, dYes, dVK, dVKs, dNever, dNevE, dBreak, dCont, con, sl, frzS, isB, tuO, daO, sqO, lsO, lenO, ngO, consO, argO, varsO, wrB, untag, owL, tyS, tyD, entryE, tagA, finE, backA, wipeE, backE, keepS, seqD, gAdd, gSub, gI, gMul, gMod, gIc, gDiv, gPow, gEq, isNone, gIs, gLt, gLe, gGt, gGe, gIx, gLen, gIntC, gTupC, gLstC, gRepr, gSl, gII, need_some, atI_0, atI_1, atI_2, atI_3, ixN_30, ixN_31, ixN_32, List.getElem?_cons_zero, List.getElem?_cons_succ, List.getElem?_nil, List.set_cons_zero, List.set_cons_succ, List.length_cons, List.length_nil, Option.join_some, Option.join_none, List.replicate_succ, List.replicate_zero, List.cons_append, List.nil_append, Option.map_some, Nat.zero_add, Nat.reduceAdd, Nat.reduceSub, Bool.not_true, Bool.not_false, if_true, if_false, Bool.false_eq_true, true_and, and_true, decide_true, decide_false, Nat.reduceLeDiff, Nat.reduceEqDiff, reduceIte, reduceCtorEq, Bool.or_false, Bool.or_true, Bool.and_true, Bool.and_false, Bool.true_and, Bool.false_and, Bool.true_or, Bool.false_or, List.map_cons, List.map_nil, List.nodup_cons, List.nodup_nil, List.mem_cons, List.not_mem_nil, not_false_eq_true, or_false, false_or]
    refine sp_gaps _ _ _ _ _ _ _ _ _ hb (by omega) (by omega) hM (by omega) (by omega) fun a4 c4 rows i1 i2 i3 => ?_
    simp only [dSeq, dIfS, dTst, dOp2, dVarO, dRes, dK, dOf, dVar, dFz, dAsg, gNm, dRet, dRetN, dExp, dCB, dOCons, dONil, dVCons, dVNil, dLst, dTup, dMove, dNext, dNot, dAnd, dOr, dIf, dAndV, dOrV, dNotV, dIsi, dNeg, dSl, dNoP, dPrt, dApp, dPop, dSetIx, dChain, dPar, dPar3, gTp, gCons', gNil', dCall, dFor, dSq, dRng1, dRng2, dEnm, dZip, dLc, dAll, dYes, dVK, dVKs, dNever, dNevE, dBreak, dCont, con, sl, frzS, isB, tuO, daO, sqO, lsO, lenO, ngO, consO, argO, varsO, wrB, untag, owL, tyS, tyD, entryE, tagA, finE, backA, wipeE, backE, keepS, seqD, gAdd, gSub, gI, gMul, gMod, gIc, gDiv, gPow, gEq, isNone, gIs, gLt, gLe, gGt, gGe, gIx, gLen, gIntC, gTupC, gLstC, gRepr, gSl, gII, need_some, atI_0, atI_1, atI_2, atI_3, ixN_30, ixN_31, ixN_32, List.getElem?_cons_zero, List.getElem?_cons_succ, List.getElem?_nil, List.set_cons_zero, List.set_cons_succ, List.length_cons, List.length_nil, Option.join_some, Option.join_none, List.replicate_succ, List.replicate_zero, List.cons_append, List.nil_append, Option.map_some, Nat.zero_add, Nat.reduceAdd, Nat.reduceSub, Bool.not_true, Bool.not_false, if_true, if_false, Bool.false_eq_true, true_and, and_true, decide_true, decide_false, Nat.reduceLeDiff, Nat.reduceEqDiff, reduceIte, reduceCtorEq, Bool.or_false, Bool.or_true, Bool.and_true, Bool.and_false, Bool.true_and, Bool.false_and, Bool.true_or, Bool.false_or, List.map_cons, List.map_nil, List.nodup_cons, List.nodup_nil, List.mem_cons, List.not_mem_nil, not_false_eq_true, or_false, false_or]
    exact rest _ _ _ (by omega) (by omega) i3
  simp only [dSeq, dIfS, dTst, dOp2, dVarO, dRes, dK, dOf, dVar, dFz, dAsg, gNm, dRet, dRetN, dExp, dCB, dOCons, dONil, dVCons, dVNil, dLst, dTup, dMove, dNext, dNot, dAnd, dOr, dIf, dAndV, dOrV, dNotV, dIsi, dNeg, dSl, dNoP, dPrt, dApp, dPop, dSetIx, dChain, dPar, dPar3, gTp, gCons', gNil', dCall, dFor, dSq, dRng1, dRng2, dEnm, dZip, dLc, dAll, dYes, dVK, dVKs, dNever, dNevE, dBreak, dCont, con, sl, frzS, isB, tuO, daO, sqO, lsO, lenO, ngO, consO, argO, varsO, wrB, untag, owL, tyS, tyD, entryE, tagA, finE, backA, wipeE, backE, keepS, seqD, gAdd, gSub, gI, gMul, gMod, gIc, gDiv, gPow, gEq, isNone, gIs, gLt, gLe, gGt, gGe, gIx, gLen, gIntC, gTupC, gLstC, gRepr, gSl, gII, need_some, atI_0, atI_1, atI_2, atI_3, ixN_30, ixN_31, ixN_32, List.getElem?_cons_zero, List.getElem?_cons_succ, List.getElem?_nil, List.set_cons_zero, List.set_cons_succ, List.length_cons, List.length_nil, Option.join_some, Option.join_none, List.replicate_succ, List.replicate_zero, List.cons_append, List.nil_append, Option.map_some, Nat.zero_add, Nat.reduceAdd, Nat.reduceSub, Bool.not_true, Bool.not_false, if_true, if_false, Bool.false_eq_true, true_and, and_true, decide_true, decide_false, Nat.reduceLeDiff, Nat.reduceEqDiff, reduceIte, reduceCtorEq, Bool.or_false, Bool.or_true, Bool.and_true, Bool.and_false, Bool.true_and, Bool.false_and, Bool.true_or, Bool.false_or, List.map_cons, List.map_nil, List.nodup_cons, List.nodup_nil, List.mem_cons, List.not_mem_nil, not_false_eq_true, or_false, false_or]
  refine sp_roll _ _ _ _ _ _ hb (by omega) (by omega) (by omega) (by omega) fun r a2 c2 g0 g1 g2 g3 => ?_
  simp only [dSeq, dIfS, dTst, dOp2, dVarO, dRes, dK, dOf, dVar, dFz, dAsg, gNm, dRet, dRetN, dExp, dCB, dOCons, dONil, dVCons, dVNil, dLst, dTup, dMove, dNext, dNot, dAnd, dOr, dIf, dAndV, dOrV, dNotV, dIsi, dNeg, dSl, dNoP, dPrt, dApp, dPop, dSetIx, dChain, dPar, dPar3, gTp, gCons', gNil', dCall, dFor, dSq, dRng1, dRng2, dEnm, dZip, dLc, dAll, dYes, dVK, dVKs, dNever, dNevE, dBreak, dCont, con, sl, frzS, isB, tuO, daO, sqO, lsO, lenO, ngO, consO, argO, varsO, wrB, untag, owL, tyS, tyD, entryE, tagA, finE, backA, wipeE, backE, keepS, seqD, gAdd, gSub, gI, gMul, gMod, gIc, gDiv, gPow, gEq, isNone, gIs, gLt, gLe, gGt, gGe, gIx, gLen, gIntC, gTupC, gLstC, gRepr, gSl, gII, need_some, atI_0, atI_1, atI_2, atI_3, ixN_30, ixN_31, ixN_32, List.getElem?_cons_zero, List.getElem?_cons_succ, List.getElem?_nil, List.set_cons_zero, List.set_cons_succ, List.length_cons, List.length_nil, Option.join_some, Option.join_none, List.replicate_succ, List.replicate_zero, List.cons_append, List.nil_append, Option.map_some, Nat.zero_add, Nat.reduceAdd, Nat.reduceSub, Bool.not_true, Bool.not_false, if_true, if_false, Bool.false_eq_true, true_and, and_true, decide_true, decide_false, Nat.reduceLeDiff, Nat.reduceEqDiff, reduceIte, reduceCtorEq, Bool.or_false, Bool.or_true, Bool.and_true, Bool.and_false, Bool.true_and, Bool.false_and, Bool.true_or, Bool.false_or, List.map_cons, List.map_nil, List.nodup_cons, List.nodup_nil, List.mem_cons, List.not_mem_nil, not_false_eq_true, or_false, false_or]
  exact ⟨eqOk_int, br (fun _ => pp _ _ (by omega) (by omega)) fun _ => rr _ _ (by omega) (by omega)⟩
theorem law_b : ∀ (ds : List D) (x0 x1 x2 x3 x4 x5 x6 x7 x8 x9 : Option Slot) (D : DEnds), (∀ d ∈ ds, ∃ k cell, d = PyData.tuple [.int k, .int cell] ∧ 0 ≤ k ∧ k < 1000) → (∀ x1 x2 x3 x4 x5 x6 x7 x8 x9, D.nx [x0, x1, x2, x3, x4, x5, x6, x7, x8, x9]) →
    dForL (gTp 2 (gCons' (gNm 1) (gCons' (gNm 2) gNil'))) w_law_b1 ds [x0, x1, x2, x3, x4, x5, x6, x7, x8, x9] D := by
  intro ds
  induction ds with
  | nil =>
    intro x0 x1 x2 x3 x4 x5 x6 x7 x8 x9 D hd h
    simp only [dForL]
    exact h _ _ _ _ _ _ _ _ _
  | cons d ds ih =>
    intro x0 x1 x2 x3 x4 x5 x6 x7 x8 x9 D hd h
    obtain ⟨k, cell, rfl, k0, k1⟩ := hd d (by simp)
    simp only [dForL]
    simp only [dSeq, dIfS, dTst, dOp2, dVarO, dRes, dK, dOf, dVar, dFz, dAsg, gNm, dRet, dRetN, dExp, dCB, dOCons, dONil, dVCons, dVNil, dLst, dTup, dMove, dNext, dNot, dAnd, dOr, dIf, dAndV, dOrV, dNotV, dIsi, dNeg, dSl, dNoP, dPrt, dApp, dPop, dSetIx, dChain, dPar, dPar3, gTp, gCons', gNil', dCall, dFor, dSq, dRng1, dRng2, dEnm, dZip, dLc, dAll, dYes, dVK, dVKs, dNever, dNevE, dBreak, dCont, con, sl, frzS, isB, tuO, daO, sqO, lsO, lenO, ngO, consO, argO, varsO, wrB, untag, owL, tyS, tyD, entryE, tagA, finE, backA, wipeE, backE, keepS, seqD, gAdd, gSub, gI, gMul, gMod, gIc, gDiv, gPow, gEq, isNone, gIs, gLt, gLe, gGt, gGe, gIx, gLen, gIntC, gTupC, gLstC, gRepr, gSl, gII, need_some, atI_0, atI_1, atI_2, atI_3, ixN_30, ixN_31, ixN_32, List.getElem?_cons_zero, List.getElem?_cons_succ, List.getElem?_nil, List.set_cons_zero, List.set_cons_succ, List.length_cons, List.length_nil, Option.join_some, Option.join_none, List.replicate_succ, List.replicate_zero, List.cons_append, List.nil_append, Option.map_some, Nat.zero_add, Nat.reduceAdd, Nat.reduceSub, Bool.not_true, Bool.not_false, if_true, if_false, Bool.false_eq_true, true_and, and_true, decide_true, decide_false, Nat.reduceLeDiff, Nat.reduceEqDiff, reduceIte, reduceCtorEq, Bool.or_false, Bool.or_true, Bool.and_true, Bool.and_false, Bool.true_and, Bool.false_and, Bool.true_or, Bool.false_or, List.map_cons, List.map_nil, List.nodup_cons, List.nodup_nil, List.mem_cons, List.not_mem_nil, not_false_eq_true, or_false, false_or]
    refine body_b k cell k0 k1 _ _ _ _ _ _ _ _ _ fun y3 y4 y5 y6 y7 y8 y9 => ?_
    exact ih _ _ _ _ _ _ _ _ _ _ _ (fun e he => hd e (by simp [he])) h
theorem spec_law (ns : List Int) (h : ns.length ≤ 63) (hb : ∀ z ∈ ns, Builtin.Int.intBits z ≤ 1048576) : fs_law [.scr ns] (fun r _ => r = .val (.bool true)) fun _ => False := by
  refine ⟨rfl, ?_⟩
  unfold w_law
  refine seqI fun U hU => ?_
  simp only [dSeq, dIfS, dTst, dOp2, dVarO, dRes, dK, dOf, dVar, dFz, dAsg, gNm, dRet, dRetN, dExp, dCB, dOCons, dONil, dVCons, dVNil, dLst, dTup, dMove, dNext, dNot, dAnd, dOr, dIf, dAndV, dOrV, dNotV, dIsi, dNeg, dSl, dNoP, dPrt, dApp, dPop, dSetIx, dChain, dPar, dPar3, gTp, gCons', gNil', dCall, dFor, dSq, dRng1, dRng2, dEnm, dZip, dLc, dAll, dYes, dVK, dVKs, dNever, dNevE, dBreak, dCont, con, sl, frzS, isB, tuO, daO, sqO, lsO, lenO, ngO, consO, argO, varsO, wrB, untag, owL, tyS, tyD, entryE, tagA, finE, backA, wipeE, backE, keepS, seqD, gAdd, gSub, gI, gMul, gMod, gIc, gDiv, gPow, gEq, isNone, gIs, gLt, gLe, gGt, gGe, gIx, gLen, gIntC, gTupC, gLstC, gRepr, gSl, gII, need_some, atI_0, atI_1, atI_2, atI_3, ixN_30, ixN_31, ixN_32, List.getElem?_cons_zero, List.getElem?_cons_succ, List.getElem?_nil, List.set_cons_zero, List.set_cons_succ, List.length_cons, List.length_nil, Option.join_some, Option.join_none, List.replicate_succ, List.replicate_zero, List.cons_append, List.nil_append, Option.map_some, Nat.zero_add, Nat.reduceAdd, Nat.reduceSub, Bool.not_true, Bool.not_false, if_true, if_false, Bool.false_eq_true, true_and, and_true, decide_true, decide_false, Nat.reduceLeDiff, Nat.reduceEqDiff, reduceIte, reduceCtorEq, Bool.or_false, Bool.or_true, Bool.and_true, Bool.and_false, Bool.true_and, Bool.false_and, Bool.true_or, Bool.false_or, List.map_cons, List.map_nil, List.nodup_cons, List.nodup_nil, List.mem_cons, List.not_mem_nil, not_false_eq_true, or_false, false_or]
  refine sp_numbers ns 12 _ _ (by decide) fun cells hc => ?_
  simp only [dSeq, dIfS, dTst, dOp2, dVarO, dRes, dK, dOf, dVar, dFz, dAsg, gNm, dRet, dRetN, dExp, dCB, dOCons, dONil, dVCons, dVNil, dLst, dTup, dMove, dNext, dNot, dAnd, dOr, dIf, dAndV, dOrV, dNotV, dIsi, dNeg, dSl, dNoP, dPrt, dApp, dPop, dSetIx, dChain, dPar, dPar3, gTp, gCons', gNil', dCall, dFor, dSq, dRng1, dRng2, dEnm, dZip, dLc, dAll, dYes, dVK, dVKs, dNever, dNevE, dBreak, dCont, con, sl, frzS, isB, tuO, daO, sqO, lsO, lenO, ngO, consO, argO, varsO, wrB, untag, owL, tyS, tyD, entryE, tagA, finE, backA, wipeE, backE, keepS, seqD, gAdd, gSub, gI, gMul, gMod, gIc, gDiv, gPow, gEq, isNone, gIs, gLt, gLe, gGt, gGe, gIx, gLen, gIntC, gTupC, gLstC, gRepr, gSl, gII, need_some, atI_0, atI_1, atI_2, atI_3, ixN_30, ixN_31, ixN_32, List.getElem?_cons_zero, List.getElem?_cons_succ, List.getElem?_nil, List.set_cons_zero, List.set_cons_succ, List.length_cons, List.length_nil, Option.join_some, Option.join_none, List.replicate_succ, List.replicate_zero, List.cons_append, List.nil_append, Option.map_some, Nat.zero_add, Nat.reduceAdd, Nat.reduceSub, Bool.not_true, Bool.not_false, if_true, if_false, Bool.false_eq_true, true_and, and_true, decide_true, decide_false, Nat.reduceLeDiff, Nat.reduceEqDiff, reduceIte, reduceCtorEq, Bool.or_false, Bool.or_true, Bool.and_true, Bool.and_false, Bool.true_and, Bool.false_and, Bool.true_or, Bool.false_or, List.map_cons, List.map_nil, List.nodup_cons, List.nodup_nil, List.mem_cons, List.not_mem_nil, not_false_eq_true, or_false, false_or]
  refine law_b _ _ _ _ _ _ _ _ _ _ _ _ (fun d hd => ?_) fun y1 y2 y3 y4 y5 y6 y7 y8 y9 => ?_
  · obtain ⟨i, hi⟩ := List.getElem?_of_mem hd
    obtain ⟨x, hx, rfl⟩ := enD_get hi
    have hl := getElem?_lt' hx
    rw [List.length_map] at hl
    obtain ⟨z, _, rfl⟩ := List.mem_map.mp (List.mem_of_getElem? hx)
    exact ⟨_, _, rfl, by omega, by omega⟩
  · refine hU _ ?_
    simp only [dSeq, dIfS, dTst, dOp2, dVarO, dRes, dK, dOf, dVar, dFz, dAsg, gNm, dRet, dRetN, dExp, dCB, dOCons, dONil, dVCons, dVNil, dLst, dTup, dMove, dNext, dNot, dAnd, dOr, dIf, dAndV, dOrV, dNotV, dIsi, dNeg, dSl, dNoP, dPrt, dApp, dPop, dSetIx, dChain, dPar, dPar3, gTp, gCons', gNil', dCall, dFor, dSq, dRng1, dRng2, dEnm, dZip, dLc, dAll, dYes, dVK, dVKs, dNever, dNevE, dBreak, dCont, con, sl, frzS, isB, tuO, daO, sqO, lsO, lenO, ngO, consO, argO, varsO, wrB, untag, owL, tyS, tyD, entryE, tagA, finE, backA, wipeE, backE, keepS, seqD, gAdd, gSub, gI, gMul, gMod, gIc, gDiv, gPow, gEq, isNone, gIs, gLt, gLe, gGt, gGe, gIx, gLen, gIntC, gTupC, gLstC, gRepr, gSl, gII, need_some, atI_0, atI_1, atI_2, atI_3, ixN_30, ixN_31, ixN_32, List.getElem?_cons_zero, List.getElem?_cons_succ, List.getElem?_nil, List.set_cons_zero, List.set_cons_succ, List.length_cons, List.length_nil, Option.join_some, Option.join_none, List.replicate_succ, List.replicate_zero, List.cons_append, List.nil_append, Option.map_some, Nat.zero_add, Nat.reduceAdd, Nat.reduceSub, Bool.not_true, Bool.not_false, if_true, if_false, Bool.false_eq_true, true_and, and_true, decide_true, decide_false, Nat.reduceLeDiff, Nat.reduceEqDiff, reduceIte, reduceCtorEq, Bool.or_false, Bool.or_true, Bool.and_true, Bool.and_false, Bool.true_and, Bool.false_and, Bool.true_or, Bool.false_or, List.map_cons, List.map_nil, List.nodup_cons, List.nodup_nil, List.mem_cons, List.not_mem_nil, not_false_eq_true, or_false, false_or]
end DV


set_option Elab.async false
set_option linter.all false
set_option maxRecDepth 100000
set_option maxHeartbeats 0
namespace DV
open PySem PySem.Spec PyProof.Rows L2
theorem law_end {w : World} {mg : Str → Option Value} {fa : Addr} {h : Heap} {K : Frag} (KX : K.In h) (c : He.SaysX DV.fa fn [] tf (fun _ => true) w h K) (G : h.Ns mainGlobals mg) (hmg : mg ("law" : Str) = some (.ref fa)) :
      ∃ (fd : FuncData) (fs : FS), (∀ (s : Shared) (u : Value), BindsTo s fd ⟨[u], []⟩ [("script", u)]) ∧
        (∀ base : Heap, K.In base → base.Ns mainGlobals mg → (∀ p ∈ tf.map (He.cT K), GxR.TabB base mg p.1 p.2) → FnG (PySem.Challenge.rw_answertests_k00_answers_of_words).prog w K mg base CX0 ((tf.map (He.cT K)).map (·.2)) 10 fa fd ["script"] fs) ∧
        ∀ ns : List Int, ns.length ≤ 63 → (∀ z ∈ ns, Builtin.Int.intBits z ≤ 1048576) → fs [.scr ns] (fun r _ => r = .val (.bool true)) fun _ => False := by
  have cd : He.SaysD DV.fa fn K := congrArg (fun z : He.AlT => z.1) c.t
  obtain ⟨fd, F0⟩ := cd.def_ 29 rfl
  have F := fun_of (st := s_law) F0
  have e := hmg.symm.trans (He.glo_ok KX G (cd.fact 29 (f := .glo "law") rfl))
  cases e
  refine ⟨fd, fs_law, ?_, fun base hK hn TB => f_law (facts KX G c TB) F, spec_law⟩
  obtain ⟨oc, od, kV, doc, pm, an, cdv, ct, osl, efd, lk, hcd⟩ := F.ex
  subst efd
  exact fun s u => .of_eq rfl
end DV
open PySem PySem.W PySem.Calls PyProof.Rows
theorem PySem.Challenge.cw_answertests_k00_answers_of_words_holds : PySem.Challenge.rw_answertests_k00_answers_of_words.Holds := by
  w_on; o_law
  refine HandSHeadRun.head_any (r := OpenLaw.row PySem.Challenge.rw_answertests_k00_answers_of_words) (q := view (OpenLaw.row PySem.Challenge.rw_answertests_k00_answers_of_words).prog [44]) (H := DV.hk) (ob := DV.ob) (M := 6000) (loose := DV.loose) (d := HandSHeadRun.topDef (OpenLaw.row PySem.Challenge.rw_answertests_k00_answers_of_words).prog 44) (kwd := []) DV.ob_eq
    (by kernel_rfl) (fun s => by kernel_rfl) DV.run (by kernel_rfl) (by kernel_rfl) (by kernel_rfl) (by rfl) (by first | assumption | decide +kernel) (by decide +kernel) ⟨rfl, rfl, rfl, rfl, rfl, by decide +kernel⟩ ?hw ?hc
  case hw => w_witness2
  case hc =>
    refine DV.walk_ofG (l := PySem.Challenge.rw_answertests_k00_answers_of_words) (n := 63) (k := 10) (x := "script") (nf := 6) (fa0 := DV.fa) (fn := DV.fn) (ts := []) (tf := DV.tf) (ex := fun _ => true) rfl (by decide) (by kernel_rfl) (DV.room_top (by decide)) ?F
    intro w mg fa h K KX c G hmg0
    have hmg : mg ("law" : PySem.Str) = some (.ref fa) := by
      have e : (HandSHeadRun.topDef (OpenLaw.row PySem.Challenge.rw_answertests_k00_answers_of_words).prog 44).name = ("law" : PySem.Str) := by kernel_rfl
      rw [← e]
      exact hmg0
    exact DV.law_end KX c G hmg
