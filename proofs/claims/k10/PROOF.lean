import PyProof.Rows.All
import Wide.All
import OpenK.AllK
import Wide.FinOn
import HandS.ForMost
import HandS.AnyAll
import HandS.Lambda
import HandS.EndTab
import HandS.Wide
import HandS.TupAny
import HandS.TupMul
import HandS.Deep
import HandS.IsInst
import HandS.Style
import HandS.Small
import HandS.Zip
import HandS.Rev
import HandS.Comp
import HandS.TupLen
import HandS.WordsDict
import PyProof.ReprRoads
import HandS.GenOver
import HandS.HeadWalk
import HandS.HeadHook4
import HandS.NestedK
import HandS.HeadEnd
import KE.KDictDisplayH
import KE.GoesEnum
import KE.GoesMore
import PySem.Challenge.RW_answertests_k10_words_that_lead_to_state
import HandS.Head0
import HandS.Head1
import HandS.Head2
import KE.KStateDown
import PyProof.ReprLen
import PyProof.P3Eq
set_option Elab.async false
set_option linter.all false
set_option maxRecDepth 100000
set_option maxHeartbeats 4000000
/-! DV: values as trees, environments as lists of slots, readings without a heap. -/
namespace DV
open PySem PySem.Spec PyProof.Rows L2
abbrev Frag := PySem.W.Frag

/-- data that is never changed -/
abbrev D := PyData

/-- a list that is known to the object: the script -/
def SqS (K : Frag) (H : Hp) (a : Addr) (vs : List V) : Prop := (∃ o, H a = some (.frz o (.lst vs))) ∨ SqL K (fun _ => none) a vs

mutual
inductive Rp (K : Frag) (Z : Addr → Prop) (H : Hp) : V → D → Prop
  | non : Rp K Z H .non .none
  | bl (b : Bool) : Rp K Z H (.bl b) (.bool b)
  | int (i : Int) : Rp K Z H (.int i) (.int i)
  | str (x : Str) : Rp K Z H (.str x) (.str x)
  | tup {a : Addr} {vs : List V} {ds : List D} : H a = some (.tup vs) → Rps K Z H vs ds → Rp K Z H (.ref a) (.tuple ds)
  | lst {a : Addr} {vs : List V} {ds : List D} : Z a → H a = some (.lst vs) → Rps K Z H vs ds → Rp K Z H (.ref a) (.list ds)
  | dct {a : Addr} : Z a → H a = some (.dK []) → Rp K Z H (.ref a) (.dict [])
inductive Rps (K : Frag) (Z : Addr → Prop) (H : Hp) : List V → List D → Prop
  | nil : Rps K Z H [] []
  | cons {v : V} {d : D} {vs : List V} {ds : List D} : Rp K Z H v d → Rps K Z H vs ds → Rps K Z H (v :: vs) (d :: ds)
end

/-- the heap has gone on: what is frozen or a frame's stands as it stood -/
structure Step (Z Fr : Addr → Prop) (H : Hp) (Z' : Addr → Prop) (H' : Hp) : Prop where
  zz : ∀ a, Z a → Z' a
  keep : ∀ a, Z a ∨ Fr a → H' a = H a
  tup : ∀ a vs, H a = some (.tup vs) → H' a = some (.tup vs)
  frz : ∀ a o u, H a = some (.frz o u) → H' a = some (.frz o u)
  fr : ∀ a, Z' a → Fr a → Z a
  non : ∀ a, H a ≠ none → H' a ≠ none

theorem Step.refl {Z Fr : Addr → Prop} {H : Hp} : Step Z Fr H Z H := ⟨fun _ h => h, fun _ _ => rfl, fun _ _ h => h, fun _ _ _ h => h, fun _ h _ => h, fun _ h => h⟩
theorem Step.trans {Z Z1 Z2 Fr : Addr → Prop} {H H1 H2 : Hp} (x : Step Z Fr H Z1 H1) (y : Step Z1 Fr H1 Z2 H2) : Step Z Fr H Z2 H2 where
  zz := fun a h => y.zz a (x.zz a h)
  keep := fun a h => (y.keep a (h.elim (fun z => .inl (x.zz a z)) .inr)).trans (x.keep a h)
  tup := fun a vs h => y.tup a vs (x.tup a vs h)
  frz := fun a o u h => y.frz a o u (x.frz a o u h)
  fr := fun a h f => x.fr a (y.fr a h f) f
  non := fun a h => y.non a (x.non a h)
theorem Step.weak {Z Z' Fr Fr' : Addr → Prop} {H H' : Hp} (x : Step Z Fr H Z' H') (h : ∀ a, Fr' a → Fr a) : Step Z Fr' H Z' H' :=
  ⟨x.zz, fun a q => x.keep a (q.imp id (h a)), x.tup, x.frz, fun a z f => x.fr a z (h a f), x.non⟩

section
variable {K : Frag} {Z Z' Fr : Addr → Prop} {H H' : Hp}
theorem Step.sqt (x : Step Z Fr H Z' H') {a : Addr} {vs : List V} (h : SqT K H a vs) : SqT K H' a vs := by
  rcases h with (h | ⟨o, h⟩) | h
  · exact .inl (.inl (x.tup _ _ h))
  · exact .inl (.inr ⟨o, x.frz _ _ _ h⟩)
  · exact .inr h
theorem sqT {K : Frag} {H : Hp} {a : Addr} {vs : List V} (h : H a = some (.tup vs)) : SqT K H a vs := .inl (.inl h)
theorem Step.sqs (x : Step Z Fr H Z' H') {a : Addr} {vs : List V} (h : SqS K H a vs) : SqS K H' a vs := by
  rcases h with ⟨o, h⟩ | h
  · exact .inl ⟨o, x.frz _ _ _ h⟩
  · exact .inr h
theorem SqS.sql {a : Addr} {vs : List V} (h : SqS K H a vs) : SqL K H a vs := by
  rcases h with ⟨o, h⟩ | h
  · exact .inl (.inr ⟨o, h⟩)
  · rcases h with (h | ⟨o, h⟩) | h
    · cases h
    · cases h
    · exact .inr h
mutual
theorem Rp.step (x : Step Z Fr H Z' H') : ∀ {v : V} {d : D}, Rp K Z H v d → Rp K Z' H' v d
  | _, _, .non => .non
  | _, _, .bl b => .bl b
  | _, _, .int i => .int i
  | _, _, .str y => .str y
  | _, _, .tup h r => .tup (x.tup _ _ h) (Rps.step x r)
  | _, _, .lst z h r => .lst (x.zz _ z) ((x.keep _ (.inl z)).trans h) (Rps.step x r)
  | _, _, .dct z h => .dct (x.zz _ z) ((x.keep _ (.inl z)).trans h)
theorem Rps.step (x : Step Z Fr H Z' H') : ∀ {vs : List V} {ds : List D}, Rps K Z H vs ds → Rps K Z' H' vs ds
  | _, _, .nil => .nil
  | _, _, .cons h r => .cons (Rp.step x h) (Rps.step x r)
end
theorem Rps.length : ∀ {vs : List V} {ds : List D}, Rps K Z H vs ds → vs.length = ds.length
  | _, _, .nil => rfl
  | _, _, .cons _ r => congrArg (· + 1) (Rps.length r)
theorem Rps.get : ∀ {vs : List V} {ds : List D} {i : Nat} {d : D}, Rps K Z H vs ds → ds[i]? = some d → ∃ v, vs[i]? = some v ∧ Rp K Z H v d
  | _, _, _, _, .nil, e => by simp at e
  | _, _, 0, d, .cons r _, e => by simp at e; subst e; exact ⟨_, rfl, r⟩
  | _, _, i + 1, d, .cons _ t, e => by
    obtain ⟨u, h1, h2⟩ := Rps.get (i := i) (d := d) t (by simpa using e)
    exact ⟨u, by simpa using h1, h2⟩
theorem Rps.getv : ∀ {vs : List V} {ds : List D} {i : Nat} {v : V}, Rps K Z H vs ds → vs[i]? = some v → ∃ d, ds[i]? = some d ∧ Rp K Z H v d
  | _, _, _, _, .nil, e => by simp at e
  | _, _, 0, d, .cons r _, e => by simp at e; subst e; exact ⟨_, rfl, r⟩
  | _, _, i + 1, d, .cons _ t, e => by
    obtain ⟨u, h1, h2⟩ := Rps.getv (i := i) (v := d) t (by simpa using e)
    exact ⟨u, by simpa using h1, h2⟩
theorem Rps.app : ∀ {vs ws : List V} {ds es : List D}, Rps K Z H vs ds → Rps K Z H ws es → Rps K Z H (vs ++ ws) (ds ++ es)
  | _, _, _, _, .nil, s => s
  | _, _, _, _, .cons r t, s => .cons r (Rps.app t s)
theorem Rps.take : ∀ {vs : List V} {ds : List D} (n : Nat), Rps K Z H vs ds → Rps K Z H (vs.take n) (ds.take n)
  | _, _, 0, _ => .nil
  | _, _, _ + 1, .nil => .nil
  | _, _, n + 1, .cons r t => .cons r (Rps.take n t)
theorem Rps.drop : ∀ {vs : List V} {ds : List D} (n : Nat), Rps K Z H vs ds → Rps K Z H (vs.drop n) (ds.drop n)
  | _, _, 0, r => r
  | _, _, _ + 1, .nil => .nil
  | _, _, n + 1, .cons _ t => Rps.drop n t
theorem Rps.setAt {v : V} {d : D} (r : Rp K Z H v d) : ∀ {vs : List V} {ds : List D} (i : Nat), Rps K Z H vs ds → Rps K Z H (vs.set i v) (ds.set i d)
  | _, _, _, .nil => .nil
  | _, _, 0, .cons _ t => .cons r t
  | _, _, i + 1, .cons q t => .cons q (Rps.setAt r i t)
theorem Rps.rev {vs : List V} {ds : List D} (h : Rps K Z H vs ds) : Rps K Z H vs.reverse ds.reverse := by
  induction vs generalizing ds with
  | nil => cases h; exact .nil
  | cons v vs ih =>
    cases h with
    | cons r t =>
      rw [List.reverse_cons, List.reverse_cons]
      exact (ih t).app (.cons r .nil)
theorem Rps.dropLast : ∀ {vs : List V} {ds : List D}, Rps K Z H vs ds → Rps K Z H vs.dropLast ds.dropLast := fun {vs ds} h => by
  rw [List.dropLast_eq_take, List.dropLast_eq_take, h.length]
  exact h.take _
theorem Rps.eraseIdx : ∀ {vs : List V} {ds : List D} (i : Nat), Rps K Z H vs ds → Rps K Z H (vs.eraseIdx i) (ds.eraseIdx i)
  | _, _, _, .nil => .nil
  | _, _, 0, .cons _ t => t
  | _, _, i + 1, .cons q t => .cons q (Rps.eraseIdx i t)
end

/-! ### slots, environments -/
/-- what a variable owns: a list, a dict with int and text keys, a dict with tuple keys -/
inductive MO where
  | lst (ds : List D) | dK (kvs : List (Key × D)) | dT (kvs : List (List Key × D))
/-- a variable's content: a value, or an object of its own (t: it is the k-th argument's) -/
inductive Slot where
  | val (d : D) | own (t : Option Nat) (m : MO) | scr (ns : List Int)
abbrev En := List (Option Slot)

/-- dict entries -/
inductive KVR (K : Frag) (Z : Addr → Prop) (H : Hp) {κ : Type} : List (κ × V) → List (κ × D) → Prop
  | nil : KVR K Z H [] []
  | cons {k : κ} {v : V} {d : D} {l : List (κ × V)} {m : List (κ × D)} : Rp K Z H v d → KVR K Z H l m → KVR K Z H ((k, v) :: l) ((k, d) :: m)
theorem KVR.step {K : Frag} {Z Z' Fr : Addr → Prop} {H H' : Hp} (x : Step Z Fr H Z' H') {κ : Type} : ∀ {l : List (κ × V)} {m : List (κ × D)}, KVR K Z H l m → KVR K Z' H' l m
  | _, _, .nil => .nil
  | _, _, .cons r t => .cons (r.step x) (KVR.step x t)

def MOR (K : Frag) (Z : Addr → Prop) (H : Hp) (a : Addr) : MO → Prop
  | .lst ds => ∃ vs, H a = some (.lst vs) ∧ Rps K Z H vs ds
  | .dK kvs => ∃ l, H a = some (.dK l) ∧ KVR K Z H l kvs
  | .dT kvs => ∃ l, H a = some (.dT l) ∧ KVR K Z H l kvs
theorem MOR.non {K : Frag} {Z : Addr → Prop} {H : Hp} {a : Addr} : ∀ {m : MO}, MOR K Z H a m → H a ≠ none
  | .lst _, ⟨_, h, _⟩ => by rw [h]; exact fun z => by cases z
  | .dK _, ⟨_, h, _⟩ => by rw [h]; exact fun z => by cases z
  | .dT _, ⟨_, h, _⟩ => by rw [h]; exact fun z => by cases z
theorem MOR.mut {K : Frag} {Z : Addr → Prop} {H : Hp} {a : Addr} : ∀ {m : MO}, MOR K Z H a m → Mut (H a)
  | .lst _, ⟨_, h, _⟩ => by rw [h]; exact True.intro
  | .dK _, ⟨_, h, _⟩ => by rw [h]; exact True.intro
  | .dT _, ⟨_, h, _⟩ => by rw [h]; exact True.intro
/-- the object itself is kept -/
theorem MOR.step {K : Frag} {Z Z' Fr : Addr → Prop} {H H' : Hp} (x : Step Z Fr H Z' H') {a : Addr} (e : H' a = H a) : ∀ {m : MO}, MOR K Z H a m → MOR K Z' H' a m
  | .lst _, ⟨vs, h, r⟩ => ⟨vs, e.trans h, r.step x⟩
  | .dK _, ⟨l, h, r⟩ => ⟨l, e.trans h, r.step x⟩
  | .dT _, ⟨l, h, r⟩ => ⟨l, e.trans h, r.step x⟩

/-- what stands fixed: the written part, the tables of code objects -/
structure Cfg where
  K : Frag
  tb : List Addr

def TabG (H : Hp) (P : Addr) : Prop := ∃ ps : Array Value, H P = some (.tbl ps) ∧ TriplesOk ps.toList
structure Ok (C : Cfg) (Z Fr : Addr → Prop) (H : Hp) : Prop where
  z : ∀ a, Z a → H a ≠ none
  f : ∀ a, Fr a → H a ≠ none
  zf : ∀ a, Z a → ¬ Fr a
  tab : ∀ P ∈ C.tb, TabG H P
  nz : ∀ P ∈ C.tb, ¬ Z P ∧ ¬ Fr P

def SlotR (C : Cfg) (Z Fr : Addr → Prop) (As : Nat → Addr) (H : Hp) (v : Option V) : Option Slot → Prop
  | none => True
  | some (.val d) => ∃ u, v = some u ∧ Rp C.K Z H u d
  | some (.own t m) => ∃ a, v = some (.ref a) ∧ MOR C.K Z H a m ∧ ¬ Z a ∧ ¬ Fr a ∧ ∀ k, t = some k → a = As k
  | some (.scr ns) => ∃ a, v = some (.ref a) ∧ SqS C.K H a (ns.map V.int)
/-- the address that slot i owns -/
def OwnAt (σ : L2.St) (env : En) (a : Addr) (i : Nat) : Prop := σ[i]? = some (some (.ref a)) ∧ ∃ t m, env[i]? = some (some (.own t m))

structure EnvR (C : Cfg) (Z Fr : Addr → Prop) (As : Nat → Addr) (σ : L2.St) (H : Hp) (env : En) : Prop where
  ok : Ok C Z Fr H
  len : σ.length = env.length
  slot : ∀ (i : Nat) (v : Option V) (x : Option Slot), σ[i]? = some v → env[i]? = some x → SlotR C Z Fr As H v x
  apart : ∀ (a : Addr) (i j : Nat), OwnAt σ env a i → OwnAt σ env a j → i = j

/-- an expression's value: a value, or a new object that nobody holds -/
def ResR (C : Cfg) (Z Fr : Addr → Prop) (σ : L2.St) (env : En) (H : Hp) (v : V) : Slot → Prop
  | .val d => Rp C.K Z H v d
  | .own t m => t = none ∧ ∃ a, v = .ref a ∧ MOR C.K Z H a m ∧ ¬ Z a ∧ ¬ Fr a ∧ ∀ i, ¬ OwnAt σ env a i
  | .scr ns => ∃ a, v = .ref a ∧ SqS C.K H a (ns.map V.int)
end DV

set_option Elab.async false
set_option linter.all false
set_option maxRecDepth 100000
set_option maxHeartbeats 4000000
namespace DV
open PySem PySem.Spec PyProof.Rows L2
section
variable {C : Cfg} {Z Z' Fr Fr' : Addr → Prop} {As : Nat → Addr} {σ : L2.St} {H H' : Hp} {env env' : En}

theorem TabG.new {P p : Addr} {o : HO} (t : TabG H P) (n : H p = none) : TabG (upd H p o) P := by
  obtain ⟨ps, h, k⟩ := t
  exact ⟨ps, by rw [upd_ne (ne_of_none h n)]; exact h, k⟩
theorem Step.new {p : Addr} {o : HO} (ok : Ok C Z Fr H) (n : H p = none) : Step Z Fr H Z (upd H p o) where
  zz := fun _ h => h
  keep := fun a h => upd_ne fun e => (h.elim (ok.z a) (ok.f a)) (by rw [e]; exact n)
  tup := fun a vs h => by rw [upd_ne (ne_of_none h n)]; exact h
  frz := fun a o u h => by rw [upd_ne (ne_of_none h n)]; exact h
  fr := fun _ h _ => h
  non := fun a h => by rw [upd_ne (fun e => h (by rw [e]; exact n))]; exact h
theorem Ok.new {p : Addr} {o : HO} (ok : Ok C Z Fr H) (n : H p = none) : Ok C Z Fr (upd H p o) where
  z := fun a h => (Step.new (o := o) ok n).non a (ok.z a h)
  f := fun a h => (Step.new (o := o) ok n).non a (ok.f a h)
  zf := ok.zf
  tab := fun P h => (ok.tab P h).new n
  nz := ok.nz
theorem SlotR.keep (x : Step Z Fr H Z' H') (hz : ∀ a, Z' a → Z a) (e : ∀ a, H a ≠ none → H' a = H a) {v : Option V} : ∀ {s : Option Slot}, SlotR C Z Fr As H v s → SlotR C Z' Fr As H' v s
  | none, _ => True.intro
  | some (.val d), ⟨u, h, r⟩ => ⟨u, h, r.step x⟩
  | some (.own t m), ⟨a, h, r, z, f, k⟩ => ⟨a, h, r.step x (e a r.non), fun q => z (hz a q), f, k⟩
  | some (.scr ns), ⟨a, h, r⟩ => ⟨a, h, x.sqs r⟩
theorem EnvR.new {p : Addr} {o : HO} (I : EnvR C Z Fr As σ H env) (n : H p = none) : EnvR C Z Fr As σ (upd H p o) env where
  ok := I.ok.new n
  len := I.len
  slot := fun i v x h1 h2 => SlotR.keep (Step.new I.ok n) (fun _ h => h) (fun a h => upd_ne fun e => h (by rw [e]; exact n)) (I.slot i v x h1 h2)
  apart := I.apart
/-- a new address is nobody's -/
theorem EnvR.nobody {p : Addr} (I : EnvR C Z Fr As σ H env) (n : H p = none) : ¬ Z p ∧ ¬ Fr p ∧ ∀ i, ¬ OwnAt σ env p i := by
  refine ⟨fun z => I.ok.z p z n, fun z => I.ok.f p z n, fun i ⟨h1, t, m, h2⟩ => ?_⟩
  obtain ⟨a, e, r, _⟩ := I.slot i _ _ h1 h2
  have e' : a = p := by injection e with e; injection e with e; exact e.symm
  rw [e'] at r
  exact r.non n

theorem getElem?_set' {α : Type} {l : List α} {i j : Nat} {x y : α} (h : (l.set i x)[j]? = some y) : (i = j ∧ y = x ∧ i < l.length) ∨ (i ≠ j ∧ l[j]? = some y) := by
  by_cases e : i = j
  · subst e
    rw [List.getElem?_set] at h
    simp only [if_true] at h
    split at h
    · cases h
      exact .inl ⟨rfl, rfl, by assumption⟩
    · cases h
  · rw [List.getElem?_set_ne e] at h
    exact .inr ⟨e, h⟩
theorem OwnAt.of_set {i j : Nat} {v : Option V} {x : Option Slot} {a : Addr} (h : OwnAt (σ.set i v) (env.set i x) a j) : (i = j ∧ v = some (.ref a) ∧ ∃ t m, x = some (.own t m)) ∨ (i ≠ j ∧ OwnAt σ env a j) := by
  obtain ⟨h1, t, m, h2⟩ := h
  rcases getElem?_set' h1 with ⟨e, h1, _⟩ | ⟨e, h1⟩
  · rcases getElem?_set' h2 with ⟨_, h2, _⟩ | ⟨e2, _⟩
    · exact .inl ⟨e, h1.symm, t, m, h2.symm⟩
    · exact absurd e e2
  · rcases getElem?_set' h2 with ⟨e2, _⟩ | ⟨_, h2⟩
    · exact absurd e2 e
    · exact .inr ⟨e, h1, t, m, h2⟩
/-- a variable takes an expression's value -/
theorem EnvR.setRes {i : Nat} {v : V} {r : Slot} (I : EnvR C Z Fr As σ H env) (h : ResR C Z Fr σ env H v r) : EnvR C Z Fr As (σ.set i (some v)) H (env.set i (some r)) where
  ok := I.ok
  len := by rw [List.length_set, List.length_set]; exact I.len
  slot := fun j w x h1 h2 => by
    rcases getElem?_set' h1 with ⟨e, h1, _⟩ | ⟨e, h1⟩
    · rcases getElem?_set' h2 with ⟨_, h2, _⟩ | ⟨e2, _⟩
      · subst h1 h2
        cases r with
        | val d => exact ⟨v, rfl, h⟩
        | scr ns =>
          obtain ⟨a, e, q⟩ := h
          exact ⟨a, by rw [e], q⟩
        | own t m =>
          obtain ⟨et, a, e, k, z, f, _⟩ := h
          exact ⟨a, by rw [e], k, z, f, fun k q => by rw [et] at q; cases q⟩
      · exact absurd e e2
    · rcases getElem?_set' h2 with ⟨e2, _⟩ | ⟨_, h2⟩
      · exact absurd e2 e
      · exact I.slot j w x h1 h2
  apart := fun a j k h1 h2 => by
    rcases h1.of_set with ⟨e1, v1, t1, m1, x1⟩ | ⟨e1, g1⟩
    · rcases h2.of_set with ⟨e2, _⟩ | ⟨e2, g2⟩
      · exact e1.symm.trans e2
      · cases x1
        obtain ⟨_, b, eb, _, _, _, nb⟩ := h
        rw [eb] at v1
        cases v1
        exact absurd g2 (nb k)
    · rcases h2.of_set with ⟨e2, v2, t2, m2, x2⟩ | ⟨e2, g2⟩
      · cases x2
        obtain ⟨_, b, eb, _, _, _, nb⟩ := h
        rw [eb] at v2
        cases v2
        exact absurd g1 (nb j)
      · exact I.apart a j k g1 g2
/-- a variable's value is forgotten -/
theorem OwnAt.of_forget {i j : Nat} {a : Addr} (h : OwnAt σ (env.set i none) a j) : i ≠ j ∧ OwnAt σ env a j := by
  obtain ⟨h1, t, m, h2⟩ := h
  rcases getElem?_set' h2 with ⟨_, h2, _⟩ | ⟨e, h2⟩
  · cases h2
  · exact ⟨e, h1, t, m, h2⟩
theorem EnvR.forget {i : Nat} (I : EnvR C Z Fr As σ H env) : EnvR C Z Fr As σ H (env.set i none) where
  ok := I.ok
  len := by rw [List.length_set]; exact I.len
  slot := fun j w x h1 h2 => by
    rcases getElem?_set' h2 with ⟨_, h2, _⟩ | ⟨_, h2⟩
    · subst h2; exact True.intro
    · exact I.slot j w x h1 h2
  apart := fun a j k h1 h2 => I.apart a j k h1.of_forget.2 h2.of_forget.2
/-- a variable's value, by its slot -/
theorem EnvR.at {i : Nat} {s : Slot} (I : EnvR C Z Fr As σ H env) (h : env[i]? = some (some s)) : ∃ v, σ[i]? = some v ∧ SlotR C Z Fr As H v (some s) := by
  have hi : i < env.length := (List.getElem?_eq_some_iff.mp h).1
  have hl : i < σ.length := by rw [I.len]; exact hi
  have hs : σ[i]? = some σ[i] := List.getElem?_eq_getElem hl
  exact ⟨_, hs, I.slot i _ _ hs h⟩
theorem EnvR.atVal {i : Nat} {d : D} (I : EnvR C Z Fr As σ H env) (h : env[i]? = some (some (.val d))) : ∃ v, σ[i]? = some (some v) ∧ Rp C.K Z H v d := by
  obtain ⟨v, h1, u, rfl, r⟩ := I.at h
  exact ⟨u, h1, r⟩
theorem EnvR.atOwn {i : Nat} {t : Option Nat} {m : MO} (I : EnvR C Z Fr As σ H env) (h : env[i]? = some (some (.own t m))) :
    ∃ a, σ[i]? = some (some (.ref a)) ∧ MOR C.K Z H a m ∧ ¬ Z a ∧ ¬ Fr a ∧ (∀ k, t = some k → a = As k) ∧ OwnAt σ env a i := by
  obtain ⟨v, h1, a, rfl, r, z, f, k⟩ := I.at h
  exact ⟨a, h1, r, z, f, k, h1, t, m, h⟩
/-- it is moved out -/
theorem EnvR.move {i : Nat} {m : MO} {a : Addr} (I : EnvR C Z Fr As σ H env) (h : env[i]? = some (some (.own none m))) (e : σ[i]? = some (some (.ref a))) :
    EnvR C Z Fr As σ H (env.set i none) ∧ ResR C Z Fr σ (env.set i none) H (.ref a) (.own none m) := by
  obtain ⟨b, h1, r, z, f, _, ow⟩ := I.atOwn h
  rw [h1] at e
  cases e
  refine ⟨I.forget, rfl, a, rfl, r, z, f, fun j hj => ?_⟩
  obtain ⟨ne, hj⟩ := hj.of_forget
  exact ne (I.apart a i j ow hj)
/-- an object of a variable's own is changed -/
theorem EnvR.mutate {i : Nat} {t : Option Nat} {m m' : MO} {a : Addr} {o : HO} (I : EnvR C Z Fr As σ H env) (h : env[i]? = some (some (.own t m))) (e : σ[i]? = some (some (.ref a)))
    (new : ∀ {Z1 H1}, Step Z Fr H Z1 H1 → H1 a = some o → MOR C.K Z1 H1 a m') : EnvR C Z Fr As σ (upd H a o) (env.set i (some (.own t m'))) ∧ Step Z Fr H Z (upd H a o) := by
  obtain ⟨b, h1, r, z, f, k, ow⟩ := I.atOwn h
  rw [h1] at e
  cases e
  have mu := r.mut
  have hne : ∀ b u, H b = some u → ¬ Mut (some u) → b ≠ a := fun b u q nm y => by rw [y] at q; rw [q] at mu; exact nm mu
  have st : Step Z Fr H Z (upd H a o) := by
    refine ⟨fun _ q => q, fun b q => upd_ne fun y => ?_, fun b vs q => by rw [upd_ne (hne b _ q fun y => y)]; exact q, fun b o u q => by rw [upd_ne (hne b _ q fun y => y)]; exact q, fun _ q _ => q, fun b q => ?_⟩
    · rw [y] at q
      exact q.elim z f
    · by_cases y : b = a
      · rw [y, upd_same]; exact fun q => by cases q
      · rw [upd_ne y]; exact q
  refine ⟨⟨⟨fun b q => st.non b (I.ok.z b q), fun b q => st.non b (I.ok.f b q), I.ok.zf, fun P hP => ?_, I.ok.nz⟩, by rw [List.length_set]; exact I.len, fun j w x g1 g2 => ?_, fun b j l g1 g2 => ?_⟩, st⟩
  · obtain ⟨ps, q, y⟩ := I.ok.tab P hP
    exact ⟨ps, by rw [upd_ne (hne P _ q fun y => y)]; exact q, y⟩
  · rcases getElem?_set' g2 with ⟨ej, q2, _⟩ | ⟨ej, g2⟩
    · subst ej q2
      rw [h1] at g1
      cases g1
      exact ⟨a, rfl, new st upd_same, z, f, k⟩
    · have s := I.slot j w x g1 g2
      rcases x with _ | ⟨d | ⟨t2, m2⟩ | ns⟩
      · exact True.intro
      · obtain ⟨u, q, y⟩ := s
        exact ⟨u, q, y.step st⟩
      · obtain ⟨b, q, y, z2, f2, k2⟩ := s
        have nb : b ≠ a := fun y => by
          subst q
          exact ej (I.apart a i j ow (by rw [← y]; exact ⟨g1, t2, m2, g2⟩))
        exact ⟨b, q, y.step st (upd_ne nb), z2, f2, k2⟩
      · obtain ⟨u, q, y⟩ := s
        exact ⟨u, q, st.sqs y⟩
  · have back : ∀ {j}, OwnAt σ (env.set i (some (.own t m'))) b j → OwnAt σ env b j := fun {j} ⟨g1, t2, m2, g2⟩ => by
      rcases getElem?_set' g2 with ⟨ej, _, _⟩ | ⟨ej, g2⟩
      · subst ej
        exact ⟨g1, t, m, h⟩
      · exact ⟨g1, t2, m2, g2⟩
    exact I.apart b j l (back g1) (back g2)
/-- a list of a variable's own is frozen -/
theorem Step.freeze {a : Addr} (f : ¬ Fr a) : Step Z Fr H (fun b => Z b ∨ b = a) H :=
  ⟨fun _ h => .inl h, fun _ _ => rfl, fun _ _ h => h, fun _ _ _ h => h, fun b h g => h.elim id fun e => absurd (by rw [← e]; exact g) f, fun _ h => h⟩
theorem Ok.freeze {a : Addr} (ok : Ok C Z Fr H) (f : ¬ Fr a) (n : H a ≠ none) (nt : ∀ ps, H a ≠ some (.tbl ps)) : Ok C (fun b => Z b ∨ b = a) Fr H where
  z := fun b h => h.elim (ok.z b) fun e => by rw [e]; exact n
  f := ok.f
  zf := fun b h => h.elim (ok.zf b) fun e => by rw [e]; exact f
  tab := ok.tab
  nz := fun P h => ⟨fun q => q.elim (ok.nz P h).1 fun e => by
    obtain ⟨ps, q, _⟩ := ok.tab P h
    rw [e] at q
    exact nt ps q, (ok.nz P h).2⟩
theorem EnvR.freeze {i : Nat} {ds : List D} {a : Addr} (I : EnvR C Z Fr As σ H env) (h : env[i]? = some (some (.own none (.lst ds)))) (e : σ[i]? = some (some (.ref a))) :
    Step Z Fr H (fun b => Z b ∨ b = a) H ∧ EnvR C (fun b => Z b ∨ b = a) Fr As σ H (env.set i (some (.val (.list ds)))) ∧ Rp C.K (fun b => Z b ∨ b = a) H (.ref a) (.list ds) := by
  obtain ⟨b, h1, r, z, f, k, ow⟩ := I.atOwn h
  rw [h1] at e
  cases e
  obtain ⟨vs, q, r⟩ := r
  have st : Step Z Fr H (fun b => Z b ∨ b = a) H := Step.freeze f
  have rp : Rp C.K (fun b => Z b ∨ b = a) H (.ref a) (.list ds) := .lst (.inr rfl) q (r.step st)
  refine ⟨st, ⟨I.ok.freeze f (by rw [q]; exact fun y => by cases y) (fun ps y => by rw [q] at y; cases y), by rw [List.length_set]; exact I.len, fun j w x g1 g2 => ?_, fun b j l g1 g2 => ?_⟩, rp⟩
  · rcases getElem?_set' g2 with ⟨ej, q2, _⟩ | ⟨ej, g2⟩
    · subst ej q2
      rw [h1] at g1
      cases g1
      exact ⟨_, rfl, rp⟩
    · have s := I.slot j w x g1 g2
      rcases x with _ | ⟨d | ⟨t2, m2⟩ | ns⟩
      · exact True.intro
      · obtain ⟨u, q, y⟩ := s
        exact ⟨u, q, y.step st⟩
      · obtain ⟨b, q, y, z2, f2, k2⟩ := s
        refine ⟨b, q, y.step st rfl, fun y => y.elim z2 fun y => ?_, f2, k2⟩
        subst q
        exact ej (I.apart a i j ow (by rw [← y]; exact ⟨g1, t2, m2, g2⟩))
      · exact s
  · have back : ∀ {j}, OwnAt σ (env.set i (some (.val (.list ds)))) b j → OwnAt σ env b j := fun {j} ⟨g1, t2, m2, g2⟩ => by
      rcases getElem?_set' g2 with ⟨ej, q2, _⟩ | ⟨ej, g2⟩
      · cases q2
      · exact ⟨g1, t2, m2, g2⟩
    exact I.apart b j l (back g1) (back g2)
/-- a new list that nobody holds is frozen -/
theorem EnvR.freezeRes {ds : List D} {v : V} (I : EnvR C Z Fr As σ H env) (h : ResR C Z Fr σ env H v (.own none (.lst ds))) :
    ∃ Z', Step Z Fr H Z' H ∧ EnvR C Z' Fr As σ H env ∧ Rp C.K Z' H v (.list ds) := by
  obtain ⟨_, a, rfl, ⟨vs, q, r⟩, z, f, no⟩ := h
  have st : Step Z Fr H (fun b => Z b ∨ b = a) H := Step.freeze f
  refine ⟨_, st, ⟨I.ok.freeze f (by rw [q]; exact fun y => by cases y) (fun ps y => by rw [q] at y; cases y), I.len, fun j w x g1 g2 => ?_, I.apart⟩, .lst (.inr rfl) q (r.step st)⟩
  have s := I.slot j w x g1 g2
  rcases x with _ | ⟨d | ⟨t2, m2⟩ | ns⟩
  · exact True.intro
  · obtain ⟨u, q, y⟩ := s
    exact ⟨u, q, y.step st⟩
  · obtain ⟨b, q, y, z2, f2, k2⟩ := s
    refine ⟨b, q, y.step st rfl, fun y => y.elim z2 fun y => ?_, f2, k2⟩
    subst q
    exact no j ⟨by rw [← y]; exact g1, t2, m2, g2⟩
  · exact s

/-! ### frames -/
theorem EnvR.weak (I : EnvR C Z Fr As σ H env) (h : ∀ a, Fr' a → Fr a) : EnvR C Z Fr' As σ H env where
  ok := ⟨I.ok.z, fun a q => I.ok.f a (h a q), fun a z f => I.ok.zf a z (h a f), I.ok.tab, fun P hP => ⟨(I.ok.nz P hP).1, fun f => (I.ok.nz P hP).2 (h P f)⟩⟩
  len := I.len
  slot := fun j w x g1 g2 => by
    have s := I.slot j w x g1 g2
    rcases x with _ | ⟨d | ⟨t2, m2⟩ | ns⟩
    · exact True.intro
    · exact s
    · obtain ⟨b, q, y, z2, f2, k2⟩ := s
      exact ⟨b, q, y, z2, fun f => f2 (h b f), k2⟩
    · exact s
  apart := I.apart
/-- what a value owns -/
def Own1 (v : V) (r : Slot) (a : Addr) : Prop := v = .ref a ∧ ∃ t m, r = .own t m
theorem EnvR.prot {v : V} {r : Slot} (I : EnvR C Z Fr As σ H env) (h : ResR C Z Fr σ env H v r) : EnvR C Z (fun a => Fr a ∨ Own1 v r a) As σ H env := by
  have key : ∀ a, Own1 v r a → ¬ Z a ∧ H a ≠ none ∧ (∀ i, ¬ OwnAt σ env a i) ∧ ∀ ps, H a ≠ some (.tbl ps) := fun a ⟨e, t, m, er⟩ => by
    subst er
    obtain ⟨_, b, e2, r, z, _, no⟩ := h
    rw [e] at e2
    cases e2
    refine ⟨z, r.non, no, fun ps q => ?_⟩
    have mu := r.mut
    rw [q] at mu
    exact mu
  refine ⟨⟨I.ok.z, fun a q => q.elim (I.ok.f a) fun q => (key a q).2.1, fun a z f => f.elim (I.ok.zf a z) fun q => (key a q).1 z, I.ok.tab, fun P hP => ⟨(I.ok.nz P hP).1, fun f => f.elim (I.ok.nz P hP).2 fun q => ?_⟩⟩, I.len, fun j w x g1 g2 => ?_, I.apart⟩
  · obtain ⟨ps, y, _⟩ := I.ok.tab P hP
    exact (key P q).2.2.2 ps y
  · have s := I.slot j w x g1 g2
    rcases x with _ | ⟨d | ⟨t2, m2⟩ | ns⟩
    · exact True.intro
    · exact s
    · obtain ⟨b, q, y, z2, f2, k2⟩ := s
      subst q
      exact ⟨b, rfl, y, z2, fun f => f.elim f2 fun q => (key b q).2.2.1 j ⟨g1, t2, m2, g2⟩, k2⟩
    · exact s
theorem ResR.after {v : V} {r : Slot} (h : ResR C Z Fr σ env H v r) (x : Step Z (fun a => Fr a ∨ Own1 v r a) H Z' H') (I' : EnvR C Z' (fun a => Fr a ∨ Own1 v r a) As σ H' env') : ResR C Z' Fr σ env' H' v r := by
  cases r with
  | val d => exact Rp.step x h
  | scr ns =>
    obtain ⟨a, e, q⟩ := h
    exact ⟨a, e, x.sqs q⟩
  | own t m =>
    obtain ⟨e, a, rfl, r, z, f, _⟩ := h
    have own : Own1 (.ref a) (.own t m) a := ⟨rfl, t, m, rfl⟩
    refine ⟨e, a, rfl, r.step x (x.keep a (.inr (.inr own))), fun q => z (x.fr a q (.inr own)), f, fun i ⟨h1, t2, m2, h2⟩ => ?_⟩
    obtain ⟨b, e2, _, _, nf, _⟩ := I'.slot i _ _ h1 h2
    cases e2
    exact nf (.inr own)
theorem ResR.keep {v : V} {r : Slot} (h : ResR C Z Fr σ env H v r) (x : Step Z Fr H Z' H') (hz : ∀ a, Z' a → Z a) (e : ∀ a, H a ≠ none → H' a = H a) : ResR C Z' Fr σ env H' v r := by
  cases r with
  | val d => exact Rp.step x h
  | scr ns =>
    obtain ⟨a, e, q⟩ := h
    exact ⟨a, e, x.sqs q⟩
  | own t m =>
    obtain ⟨e1, a, rfl, r, z, f, no⟩ := h
    exact ⟨e1, a, rfl, r.step x (e a r.non), fun q => z (hz a q), f, no⟩
end
end DV

set_option Elab.async false
set_option linter.all false
set_option maxRecDepth 100000
set_option maxHeartbeats 4000000
namespace DV
open PySem PySem.Spec PyProof.Rows L2

/-! ### readings -/
def need {α : Type} (o : Option α) (k : α → Prop) : Prop := match o with
  | some a => k a
  | none => False
theorem need_out {α : Type} {o : Option α} {k : α → Prop} (h : need o k) : ∃ a, o = some a ∧ k a := by
  cases o with
  | none => exact h.elim
  | some a => exact ⟨a, rfl, h⟩
theorem need_in {α : Type} {o : Option α} {k : α → Prop} {a : α} (e : o = some a) (h : k a) : need o k := by
  subst e
  exact h
theorem need_some {α : Type} {a : α} {k : α → Prop} : need (some a) k = k a := rfl
abbrev DE := En → (Slot → En → Prop) → Prop
abbrev DT := En → (Bool → En → Prop) → Prop
abbrev DV := En → (D → En → Prop) → Prop
abbrev DVs := En → (List D → En → Prop) → Prop
/-- an operand: a value, or a variable that is looked at -/
inductive Opd where
  | res (r : Slot) | var (i : Nat)
abbrev DO := En → (Opd → En → Prop) → Prop
abbrev DOs := En → (List Opd → En → Prop) → Prop

def sl (env : En) (i : Nat) : Option Slot := (env[i]?).join
theorem sl_at {env : En} {i : Nat} {s : Slot} (h : sl env i = some s) : env[i]? = some (some s) := by
  unfold sl at h
  cases q : env[i]? with
  | none => rw [q] at h; cases h
  | some o => rw [q] at h; exact congrArg some h
def con (env : En) : Opd → Option Slot
  | .res r => some r
  | .var i => sl env i
/-- a value that is handed on: a list of nobody's is frozen -/
def frzS : Slot → Option D
  | .val d => some d
  | .own none (.lst ds) => some (.list ds)
  | .own none (.dK []) => some (.dict [])
  | _ => none

def CR (C : Cfg) (Z : Addr → Prop) (H : Hp) (x : V) : Slot → Prop
  | .val d => Rp C.K Z H x d
  | .own _ m => ∃ a, x = .ref a ∧ MOR C.K Z H a m
  | .scr ns => ∃ a, x = .ref a ∧ SqS C.K H a (ns.map V.int)
def OpdR (C : Cfg) (Z Fr : Addr → Prop) (σ : L2.St) (env : En) (H : Hp) (v : V) : Opd → Prop
  | .res r => ResR C Z Fr σ env H v r
  | .var i => σ[i]? = some (some v)
def OwnO (v : V) : Opd → Addr → Prop
  | .res r, a => Own1 v r a
  | .var _, _ => False

section
variable {C : Cfg} {Z Z' Fr Fr' : Addr → Prop} {As : Nat → Addr} {σ : L2.St} {H H' : Hp} {env env' : En}
theorem ResR.cr {v : V} : ∀ {r : Slot}, ResR C Z Fr σ env H v r → CR C Z H v r
  | .val _, h => h
  | .own _ _, ⟨_, a, e, m, _⟩ => ⟨a, e, m⟩
  | .scr _, h => h
theorem SlotR.cr {v : V} : ∀ {r : Slot}, SlotR C Z Fr As H (some v) (some r) → CR C Z H v r
  | .val _, ⟨u, e, h⟩ => by cases e; exact h
  | .own _ _, ⟨a, e, m, _⟩ => by cases e; exact ⟨a, rfl, m⟩
  | .scr _, ⟨a, e, m⟩ => by cases e; exact ⟨a, rfl, m⟩
theorem OpdR.cr {v : V} {o : Opd} {s : Slot} (I : EnvR C Z Fr As σ H env) (h : OpdR C Z Fr σ env H v o) (c : con env o = some s) : CR C Z H v s := by
  cases o with
  | res r => cases c; exact ResR.cr h
  | var i =>
    have h : σ[i]? = some (some v) := h
    exact SlotR.cr (I.slot i _ _ h (sl_at c))
theorem OpdR.prot {v : V} {o : Opd} (I : EnvR C Z Fr As σ H env) (h : OpdR C Z Fr σ env H v o) : EnvR C Z (fun a => Fr a ∨ OwnO v o a) As σ H env := by
  cases o with
  | res r => exact I.prot h
  | var i => exact I.weak fun a f => f.elim id fun z => z.elim
theorem OpdR.after {v : V} {o : Opd} (h : OpdR C Z Fr σ env H v o) (x : Step Z (fun a => Fr a ∨ OwnO v o a) H Z' H') (I' : EnvR C Z' (fun a => Fr a ∨ OwnO v o a) As σ H' env') : OpdR C Z' Fr σ env' H' v o := by
  cases o with
  | res r => exact ResR.after h x I'
  | var i => exact h
theorem ResR.weak {v : V} {r : Slot} (h : ResR C Z Fr σ env H v r) (hf : ∀ a, Fr' a → Fr a) : ResR C Z Fr' σ env H v r := by
  cases r with
  | val d => exact h
  | scr ns => exact h
  | own t m =>
    obtain ⟨e, a, ea, q, z, f, n⟩ := h
    exact ⟨e, a, ea, q, z, fun y => f (hf a y), n⟩
theorem OpdR.weak {v : V} {o : Opd} (h : OpdR C Z Fr σ env H v o) (hf : ∀ a, Fr' a → Fr a) : OpdR C Z Fr' σ env H v o := by
  cases o with
  | res r => exact ResR.weak h hf
  | var i => exact h
end

/-! ### judgements -/
def tE (C : Cfg) (w : DE) : TE := fun σ H Q => ∃ Z Fr As env, EnvR C Z Fr As σ H env ∧ w env fun r env' => ∀ v H' Z', Step Z Fr H Z' H' → EnvR C Z' Fr As σ H' env' → ResR C Z' Fr σ env' H' v r → Q v H'
def tV (C : Cfg) (w : DV) : TE := fun σ H Q => ∃ Z Fr As env, EnvR C Z Fr As σ H env ∧ w env fun d env' => ∀ v H' Z', Step Z Fr H Z' H' → EnvR C Z' Fr As σ H' env' → Rp C.K Z' H' v d → Q v H'
def tO (C : Cfg) (w : DO) : TE := fun σ H Q => ∃ Z Fr As env, EnvR C Z Fr As σ H env ∧ w env fun o env' => ∀ v H' Z', Step Z Fr H Z' H' → EnvR C Z' Fr As σ H' env' → OpdR C Z' Fr σ env' H' v o → Q v H'
def tVs (C : Cfg) (w : DVs) : TA := fun σ H Q => ∃ Z Fr As env, EnvR C Z Fr As σ H env ∧ w env fun ds env' => ∀ vs H' Z', Step Z Fr H Z' H' → EnvR C Z' Fr As σ H' env' → Rps C.K Z' H' vs ds → Q vs H'
def tT (C : Cfg) (w : DT) : TT := fun σ H Q => ∃ Z Fr As env, EnvR C Z Fr As σ H env ∧ w env fun b env' => ∀ H' Z', Step Z Fr H Z' H' → EnvR C Z' Fr As σ H' env' → Q b H'
/-- operands: those that are new objects stand apart -/
def OpdRs (C : Cfg) (Z : Addr → Prop) (σ : L2.St) (env : En) (H : Hp) : (Addr → Prop) → List V → List Opd → Prop
  | _, [], [] => True
  | Fr, v :: vs, o :: os => OpdR C Z Fr σ env H v o ∧ OpdRs C Z σ env H (fun a => Fr a ∨ OwnO v o a) vs os
  | _, _, _ => False
def tOs (C : Cfg) (w : DOs) : TA := fun σ H Q => ∃ Z Fr As env, EnvR C Z Fr As σ H env ∧ w env fun os env' => ∀ vs H' Z', Step Z Fr H Z' H' → EnvR C Z' Fr As σ H' env' → OpdRs C Z' σ env' H' Fr vs os → Q vs H'

def Mono {α β : Type} (w : α → (β → α → Prop) → Prop) : Prop := ∀ env Q Q', (∀ r e, Q r e → Q' r e) → w env Q → w env Q'
structure SE (tb : List Addr) (X : Cx) (e : Expr) (w : DE) : Prop where
  mono : Mono w
  pe : PE X e (tE ⟨X.K, tb⟩ w)
structure SV (tb : List Addr) (X : Cx) (e : Expr) (w : DV) : Prop where
  mono : Mono w
  pe : PE X e (tV ⟨X.K, tb⟩ w)
structure SO (tb : List Addr) (X : Cx) (e : Expr) (w : DO) : Prop where
  mono : Mono w
  pe : PE X e (tO ⟨X.K, tb⟩ w)
structure SVs (tb : List Addr) (X : Cx) (es : List Expr) (w : DVs) : Prop where
  mono : Mono w
  pe : PA X es (tVs ⟨X.K, tb⟩ w)
structure SOs (tb : List Addr) (X : Cx) (es : List Expr) (w : DOs) : Prop where
  mono : Mono w
  pe : PA X es (tOs ⟨X.K, tb⟩ w)
structure ST (tb : List Addr) (X : Cx) (e : Expr) (w : DT) : Prop where
  mono : Mono w
  pe : PT X e (tT ⟨X.K, tb⟩ w)
theorem _root_.L2.PE.imp {X : Cx} {e : Expr} {t t' : TE} (h : PE X e t) (i : ∀ σ H Q, t' σ H Q → t σ H Q) : PE X e t' := ⟨fun pins s σ H Q I q => h.run pins s σ H Q I (i σ H Q q)⟩
theorem _root_.L2.PT.imp {X : Cx} {e : Expr} {t t' : TT} (h : PT X e t) (i : ∀ σ H Q, t' σ H Q → t σ H Q) : PT X e t' := ⟨fun pins s σ H Q I q => h.run pins s σ H Q I (i σ H Q q)⟩
theorem _root_.L2.PA.imp {X : Cx} {e : List Expr} {t t' : TA} (h : PA X e t) (i : ∀ σ H Q, t' σ H Q → t σ H Q) : PA X e t' := ⟨fun pos pins s σ H Q I q => h.run pos pins s σ H Q I (i σ H Q q)⟩

section
variable {tb : List Addr} {X : Cx}
/-! ### constants and names -/
def dK (d : D) : DE := fun env Q => Q (.val d) env
theorem se_int {i j pos} : SE tb X (.Constant (.int i) j pos) (dK (.int i)) := ⟨fun _ _ _ h q => h _ _ q, pe_int.imp fun σ H Q ⟨Z, Fr, As, env, I, h⟩ => h _ _ _ Step.refl I (Rp.int i)⟩
theorem se_bool {b j pos} : SE tb X (.Constant (.bool b) j pos) (dK (.bool b)) := ⟨fun _ _ _ h q => h _ _ q, pe_bl.imp fun σ H Q ⟨Z, Fr, As, env, I, h⟩ => h _ _ _ Step.refl I (Rp.bl b)⟩
theorem se_none {j pos} : SE tb X (.Constant .none j pos) (dK .none) := ⟨fun _ _ _ h q => h _ _ q, pe_non.imp fun σ H Q ⟨Z, Fr, As, env, I, h⟩ => h _ _ _ Step.refl I Rp.non⟩
theorem se_str {x j pos} : SE tb X (.Constant (.str x) j pos) (dK (.str x)) := ⟨fun _ _ _ h q => h _ _ q, pe_str.imp fun σ H Q ⟨Z, Fr, As, env, I, h⟩ => h _ _ _ Step.refl I (Rp.str x)⟩
theorem se_globI {x : Str} {i : Int} {t : Tok} {pos : Pos} (hg : Gl X x) (hm : X.mg x = some (.int i t)) (hd : (x == ("__debug__" : Str)) = false := by decide) : SE tb X (.Name x pos) (dK (.int i)) :=
  ⟨fun _ _ _ h q => h _ _ q, (pe_glob (v := .int i) hg hm ⟨t, rfl⟩ hd).imp fun σ H Q ⟨Z, Fr, As, env, I, h⟩ => h _ _ _ Step.refl I (Rp.int i)⟩
theorem se_globS {x : Str} {y : Str} {t : Tok} {pos : Pos} (hg : Gl X x) (hm : X.mg x = some (.str y t)) (hd : (x == ("__debug__" : Str)) = false := by decide) : SE tb X (.Name x pos) (dK (.str y)) :=
  ⟨fun _ _ _ h q => h _ _ q, (pe_glob (v := .str y) hg hm ⟨t, rfl⟩ hd).imp fun σ H Q ⟨Z, Fr, As, env, I, h⟩ => h _ _ _ Step.refl I (Rp.str y)⟩
/-- a variable that is looked at -/
def dVarO (i : Nat) : DO := fun env Q => need (sl env i) fun _ => Q (.var i) env
theorem so_var (i : Nat) {x : Str} {pos : Pos} (hN : X.N[i]? = some x := by rfl) (hv : Vis X.env.scope x := by first | exact Or.inl rfl | exact Or.inr (Or.inl rfl) | exact Or.inr (Or.inr rfl)) (hd : (x == ("__debug__" : Str)) = false := by decide)
    (hcd : (x == ("__classdict__" : Str)) = false := by decide) : SO tb X (.Name x pos) (dVarO i) :=
  ⟨fun _ _ _ h q => let ⟨_, e, q⟩ := need_out q; need_in e (h _ _ q), (pe_var hN hv hd hcd).imp fun σ H Q ⟨Z, Fr, As, env, I, h⟩ => by
    obtain ⟨s, e, h⟩ := need_out h
    obtain ⟨v, h1, h2⟩ := I.at (sl_at e)
    have hv : ∃ u, v = some u := by
      cases s with
      | val d => obtain ⟨u, e, _⟩ := h2; exact ⟨u, e⟩
      | own t m => obtain ⟨a, e, _⟩ := h2; exact ⟨_, e⟩
      | scr ns => obtain ⟨a, e, _⟩ := h2; exact ⟨_, e⟩
    obtain ⟨u, rfl⟩ := hv
    exact ⟨u, h1, h u H Z Step.refl I h1⟩⟩
/-- a variable's value that is handed on; a list of its own is frozen -/
def dVar (i : Nat) : DV := fun env Q => need (sl env i) fun s => match s with
  | .val d => Q d env
  | .own none (.lst ds) => Q (.list ds) (env.set i (some (.val (.list ds))))
  | _ => False
theorem sv_var (i : Nat) {x : Str} {pos : Pos} (hN : X.N[i]? = some x := by rfl) (hv : Vis X.env.scope x := by first | exact Or.inl rfl | exact Or.inr (Or.inl rfl) | exact Or.inr (Or.inr rfl)) (hd : (x == ("__debug__" : Str)) = false := by decide)
    (hcd : (x == ("__classdict__" : Str)) = false := by decide) : SV tb X (.Name x pos) (dVar i) := by
  refine ⟨fun env Q Q' h q => ?_, (pe_var hN hv hd hcd).imp fun σ H Q ⟨Z, Fr, As, env, I, h⟩ => ?_⟩
  · obtain ⟨s, e, q⟩ := need_out q
    refine need_in e ?_
    revert q
    split
    · exact h _ _
    · exact h _ _
    · exact id
  · obtain ⟨s, e, h⟩ := need_out h
    have e' := sl_at e
    revert h
    split
    · intro h
      obtain ⟨v, h1, r⟩ := I.atVal e'
      exact ⟨v, h1, h v H Z Step.refl I r⟩
    · intro h
      obtain ⟨a, h1, _⟩ := I.atOwn e'
      obtain ⟨st, I', r⟩ := I.freeze e' h1
      exact ⟨_, h1, h _ _ _ st I' r⟩
    · exact fun h => h.elim
/-- .. as an expression -/
def dOf (w : DV) : DE := fun env Q => w env fun d e => Q (.val d) e
theorem se_sv {e : Expr} {w : DV} (h : SV tb X e w) : SE tb X e (dOf w) := ⟨fun env Q Q' k q => h.mono env _ _ (fun _ _ => k _ _) q, h.pe.imp fun _ _ _ q => q⟩
def dFz (w : DE) : DV := fun env Q => w env fun r e => need (frzS r) fun d => Q d e
/-- an expression's value handed on -/
theorem sv_se {e : Expr} {w : DE} (h : SE tb X e w) : SV tb X e (dFz w) := by
  refine ⟨fun env Q Q' k q => h.mono env _ _ (fun _ _ q => let ⟨_, e, q⟩ := need_out q; need_in e (k _ _ q)) q, h.pe.imp fun σ H Q ⟨Z, Fr, As, env, I, q⟩ => ⟨Z, Fr, As, env, I, h.mono env _ _ (fun r e q v H' Z' st I' R => ?_) q⟩⟩
  obtain ⟨d, ed, q⟩ := need_out q
  rcases r with d' | ⟨t, m⟩ | ns
  · cases ed
    exact q v H' Z' st I' R
  · rcases t with _ | t
    · rcases m with ds | kvs | kvs
      · cases ed
        obtain ⟨Z2, st2, I2, rp⟩ := I'.freezeRes R
        exact q v H' Z2 (st.trans st2) I2 rp
      · rcases kvs with _ | ⟨k, r⟩
        · cases ed
          obtain ⟨_, a, rfl, ⟨l, hl, kr⟩, z, f, no⟩ := R
          cases kr
          have st2 : Step Z' Fr H' (fun b => Z' b ∨ b = a) H' := Step.freeze f
          refine q _ H' _ (st.trans st2) ⟨I'.ok.freeze f (by rw [hl]; exact fun y => by cases y) (fun ps y => by rw [hl] at y; cases y), I'.len, fun j w x g1 g2 => ?_, I'.apart⟩ (.dct (.inr rfl) hl)
          have s := I'.slot j w x g1 g2
          rcases x with _ | ⟨d | ⟨t2, m2⟩ | ns⟩
          · exact True.intro
          · obtain ⟨u, q, y⟩ := s
            exact ⟨u, q, y.step st2⟩
          · obtain ⟨b, q, y, z2, f2, k2⟩ := s
            refine ⟨b, q, y.step st2 rfl, fun y => y.elim z2 fun y => ?_, f2, k2⟩
            subst q
            exact no j ⟨by rw [← y]; exact g1, t2, m2, g2⟩
          · exact s
        · cases ed
      · cases ed
    · cases ed
  · cases ed
def dRes (w : DE) : DO := fun env Q => w env fun r e => Q (.res r) e
theorem so_se {e : Expr} {w : DE} (h : SE tb X e w) : SO tb X e (dRes w) := ⟨fun env Q Q' k q => h.mono env _ _ (fun _ _ => k _ _) q, h.pe.imp fun _ _ _ q => q⟩
/-- a variable's object is moved out -/
def dMove (i : Nat) : DE := fun env Q => need (sl env i) fun s => match s with
  | .own none m => Q (.own none m) (env.set i none)
  | .own (some _) _ => False
  | s => Q s env
theorem se_move (i : Nat) {x : Str} {pos : Pos} (hN : X.N[i]? = some x := by rfl) (hv : Vis X.env.scope x := by first | exact Or.inl rfl | exact Or.inr (Or.inl rfl) | exact Or.inr (Or.inr rfl)) (hd : (x == ("__debug__" : Str)) = false := by decide)
    (hcd : (x == ("__classdict__" : Str)) = false := by decide) : SE tb X (.Name x pos) (dMove i) := by
  refine ⟨fun env Q Q' h q => ?_, (pe_var hN hv hd hcd).imp fun σ H Q ⟨Z, Fr, As, env, I, h⟩ => ?_⟩
  · obtain ⟨s, e, q⟩ := need_out q
    refine need_in e ?_
    revert q
    split
    · exact h _ _
    · exact id
    · exact h _ _
  · obtain ⟨s, e, h⟩ := need_out h
    have e' := sl_at e
    rcases s with d | ⟨t, m⟩ | ns
    · obtain ⟨v, h1, r⟩ := I.atVal e'
      exact ⟨v, h1, h v H Z Step.refl I r⟩
    · rcases t with _ | t
      · obtain ⟨a, h1, _⟩ := I.atOwn e'
        obtain ⟨I', r⟩ := I.move e' h1
        exact ⟨_, h1, h _ _ _ Step.refl I' r⟩
      · exact h.elim
    · obtain ⟨v, h1, a, ev, q⟩ := I.at e'
      subst ev
      exact ⟨_, h1, h _ H Z Step.refl I ⟨a, rfl, q⟩⟩

/-! ### displays -/
def dVNil : DVs := fun env Q => Q [] env
def dVCons (w : DV) (ws : DVs) : DVs := fun env Q => w env fun d e1 => ws e1 fun ds e2 => Q (d :: ds) e2
theorem svs_nil : SVs tb X [] dVNil := ⟨fun _ _ _ h q => h _ _ q, pa_nil.imp fun σ H Q ⟨Z, Fr, As, env, I, h⟩ => h _ _ _ Step.refl I .nil⟩
theorem svs_cons {e : Expr} {es : List Expr} {w : DV} {ws : DVs} (h : SV tb X e w) (hs : SVs tb X es ws) (hst : starEach (e :: es) X.env = (false, eval e X.env) :: starEach es X.env := by rfl) : SVs tb X (e :: es) (dVCons w ws) :=
  ⟨fun env Q Q' k q => h.mono env _ _ (fun _ e1 q => hs.mono e1 _ _ (fun _ _ => k _ _) q) q, (pa_cons h.pe hs.pe hst).imp fun σ H Q ⟨Z, Fr, As, env, I, q⟩ => by
    refine ⟨Z, Fr, As, env, I, h.mono env _ _ (fun d e1 q v H1 Z1 st1 I1 r1 => ?_) q⟩
    refine ⟨Z1, Fr, As, e1, I1, hs.mono e1 _ _ (fun ds e2 q vs H2 Z2 st2 I2 r2 => ?_) q⟩
    exact q _ _ _ (st1.trans st2) I2 (.cons (r1.step st2) r2)⟩
def dTup (ws : DVs) : DE := fun env Q => ws env fun ds e => ds.length ≤ sizeLine ∧ Q (.val (.tuple ds)) e
theorem se_tup {es : List Expr} {k : Nat} {pos : Pos} {ws : DVs} (h : SVs tb X es ws) : SE tb X (.Tuple es k pos) (dTup ws) :=
  ⟨fun env Q Q' k q => h.mono env _ _ (fun _ _ ⟨a, q⟩ => ⟨a, k _ _ q⟩) q, (pe_tup h.pe).imp fun σ H Q ⟨Z, Fr, As, env, I, q⟩ =>
    ⟨Z, Fr, As, env, I, h.mono env _ _ (fun ds e ⟨hz, q⟩ vs H1 Z1 st I1 r => ⟨by rw [r.length]; exact hz, fun p np =>
      q _ _ _ (st.trans (Step.new I1.ok np)) (I1.new np) (.tup upd_same (r.step (Step.new I1.ok np)))⟩) q⟩⟩
def dLst (ws : DVs) : DE := fun env Q => ws env fun ds e => ds.length ≤ sizeLine ∧ Q (.own none (.lst ds)) e
theorem resNew {C : Cfg} {Z Fr : Addr → Prop} {As : Nat → Addr} {σ : L2.St} {H : Hp} {env : En} {p : Addr} {o : HO} {m : MO} (I : EnvR C Z Fr As σ H env) (np : H p = none)
    (h : ∀ {Z' H'}, Step Z Fr H Z' H' → H' p = some o → MOR C.K Z' H' p m) : ResR C Z Fr σ env (upd H p o) (.ref p) (.own none m) :=
  let ⟨z, f, no⟩ := I.nobody np
  ⟨rfl, p, rfl, h (Step.new I.ok np) upd_same, z, f, no⟩
theorem se_lst {es : List Expr} {pos : Pos} {ws : DVs} (h : SVs tb X es ws) : SE tb X (.List es pos) (dLst ws) :=
  ⟨fun env Q Q' k q => h.mono env _ _ (fun _ _ ⟨a, q⟩ => ⟨a, k _ _ q⟩) q, (pe_lst h.pe).imp fun σ H Q ⟨Z, Fr, As, env, I, q⟩ =>
    ⟨Z, Fr, As, env, I, h.mono env _ _ (fun ds e ⟨hz, q⟩ vs H1 Z1 st I1 r => ⟨by rw [r.length]; exact hz, fun p np =>
      q _ _ _ (st.trans (Step.new I1.ok np)) (I1.new np) (resNew I1 np fun st2 e => ⟨vs, e, r.step st2⟩)⟩) q⟩⟩

/-! ### operators, by what the operands are -/
abbrev G2 := Slot → Slot → (Slot → Prop) → Prop
def MonoG (G : G2) : Prop := ∀ s1 s2 R R', (∀ r, R r → R' r) → G s1 s2 R → G s1 s2 R'
def Sem2 (C : Cfg) (r : R2) (G : G2) : Prop := ∀ (Z Fr : Addr → Prop) (As : Nat → Addr) (σ : L2.St) (env : En) (H : Hp) (x y : V) (s1 s2 : Slot) (R : Slot → Prop) (Q : VK), EnvR C Z Fr As σ H env → CR C Z H x s1 → CR C Z H y s2 → G s1 s2 R →
  (∀ v H' Z' r', R r' → Step Z Fr H Z' H' → EnvR C Z' Fr As σ H' env → ResR C Z' Fr σ env H' v r' → Q v H') → r x y H Q
def dOp2 (G : G2) (wa wb : DO) : DE := fun env Q => wa env fun o1 e1 => wb e1 fun o2 e2 => need (con e2 o1) fun s1 => need (con e2 o2) fun s2 => G s1 s2 fun r => Q r e2
theorem dOp2_mono {G : G2} {wa wb : DO} (hG : MonoG G) (ha : Mono wa) (hb : Mono wb) : Mono (dOp2 G wa wb) := fun env Q Q' k q =>
  ha env _ _ (fun _ e1 q => hb e1 _ _ (fun _ e2 q => let ⟨_, c1, q⟩ := need_out q; let ⟨_, c2, q⟩ := need_out q; need_in c1 (need_in c2 (hG _ _ _ _ (fun _ => k _ _) q))) q) q
theorem op2_lift {C : Cfg} {r : R2} {G : G2} {wa wb : DO} (ma : Mono wa) (mb : Mono wb) (hs : Sem2 C r G) : ∀ σ H Q, tE C (dOp2 G wa wb) σ H Q → tOp r (tO C wa) (tO C wb) σ H Q := fun σ H Q ⟨Z, Fr, As, env, I, q⟩ => by
  refine ⟨Z, Fr, As, env, I, ma env _ _ (fun o1 e1 q v1 H1 Z1 st1 I1 r1 => ?_) q⟩
  refine ⟨Z1, _, As, e1, r1.prot I1, mb e1 _ _ (fun o2 e2 q v2 H2 Z2 st2 I2 r2 => ?_) q⟩
  obtain ⟨s1, c1, q⟩ := need_out q
  obtain ⟨s2, c2, q⟩ := need_out q
  have wk : ∀ a, Fr a → Fr a ∨ OwnO v1 o1 a := fun a => .inl
  have I2' := I2.weak wk
  have r1' := r1.after st2 I2
  have r2' := r2.weak wk
  exact hs Z2 Fr As σ e2 H2 v1 v2 s1 s2 _ _ I2' (r1'.cr I2' c1) (r2'.cr I2' c2) q fun v H' Z' r' q st I' R => q v H' Z' ((st1.trans (st2.weak wk)).trans st) I' R
theorem se_bin {a b : Expr} {op : Operator} {pos : Pos} {r : R2} {G : G2} {wa wb : DO} (ho : OpR X (binaryOp op) r) (hs : Sem2 ⟨X.K, tb⟩ r G) (hG : MonoG G) (ha : SO tb X a wa) (hb : SO tb X b wb) : SE tb X (.BinOp a op b pos) (dOp2 G wa wb) :=
  ⟨dOp2_mono hG ha.mono hb.mono, (pe_op ho ha.pe hb.pe).imp (op2_lift ha.mono hb.mono hs)⟩
theorem se_cmp {a b : Expr} {op : CmpOp} {pos : Pos} {r : R2} {G : G2} {wa wb : DO} (ho : OpR X (compareOp op) r) (hs : Sem2 ⟨X.K, tb⟩ r G) (hG : MonoG G) (ha : SO tb X a wa) (hb : SO tb X b wb) (hm : behindInMarks op b = false) : SE tb X (.Compare a [op] [b] pos) (dOp2 G wa wb) :=
  ⟨dOp2_mono hG ha.mono hb.mono, (pe_cmpR ho ha.pe hb.pe hm).imp (op2_lift ha.mono hb.mono hs)⟩
/-- a value that is a truth value, as a test -/
def isB : Slot → Option Bool
  | .val (.bool b) => some b
  | _ => none
theorem isB_eq {r : Slot} {b : Bool} (h : isB r = some b) : r = .val (.bool b) := by
  unfold isB at h
  split at h
  · cases h; rfl
  · cases h
def dTst (w : DE) : DT := fun env Q => w env fun r e => need (isB r) fun b => Q b e
theorem tst_lift {C : Cfg} {w : DE} (m : Mono w) : ∀ σ H Q, tT C (dTst w) σ H Q → tE C w σ H fun x H' => ∃ k, x = .bl k ∧ Q k H' := fun σ H Q ⟨Z, Fr, As, env, I, q⟩ =>
  ⟨Z, Fr, As, env, I, m env _ _ (fun r e q v H' Z' st I' R => by
    obtain ⟨b, er, q⟩ := need_out q
    have er := isB_eq er
    subst er
    cases R
    exact ⟨b, rfl, q H' Z' st I'⟩) q⟩
theorem dTst_mono {w : DE} (m : Mono w) : Mono (dTst w) := fun env Q Q' k q => m env _ _ (fun _ _ q => let ⟨_, e, q⟩ := need_out q; need_in e (k _ _ q)) q
theorem st_cmp {a b : Expr} {op : CmpOp} {pos : Pos} {r : R2} {G : G2} {wa wb : DO} (ho : OpR X (compareOp op) r) (hs : Sem2 ⟨X.K, tb⟩ r G) (hG : MonoG G) (ha : SO tb X a wa) (hb : SO tb X b wb) (hm : behindInMarks op b = false) : ST tb X (.Compare a [op] [b] pos) (dTst (dOp2 G wa wb)) :=
  have M := dOp2_mono hG ha.mono hb.mono
  ⟨dTst_mono M, (pt_cmpR ho ha.pe hb.pe hm).imp fun σ H Q q => op2_lift ha.mono hb.mono hs σ H _ (tst_lift M σ H Q q)⟩
theorem st_val {e : Expr} {w : DE} (h : SE tb X e w) (he : ∀ whole, isTrue e X.env whole = (do let v ← whole; standAt e.pos; holding [v] (truthy v)) := by intro _; rfl) : ST tb X e (dTst w) :=
  ⟨dTst_mono h.mono, (pt_val h.pe he).imp fun σ H Q q => tst_lift h.mono σ H Q q⟩
def dNot (w : DT) : DT := fun env Q => w env fun b e => Q (!b) e
theorem st_not {a : Expr} {pos : Pos} {w : DT} (h : ST tb X a w) : ST tb X (.UnaryOp .Not a pos) (dNot w) :=
  ⟨fun env Q Q' k q => h.mono env _ _ (fun _ _ => k _ _) q, (pt_not h.pe).imp fun _ _ _ q => q⟩
end
end DV

set_option Elab.async false
set_option linter.all false
set_option maxRecDepth 100000
set_option maxHeartbeats 4000000
namespace DV
open PySem PySem.Spec PyProof.Rows L2

/-! ### what a slot holds -/
/-- a list -/
def lsO : Slot → Option (List D)
  | .val (.list ds) => some ds
  | .own _ (.lst ds) => some ds
  | _ => none
/-- a list or a tuple -/
def sqO : Slot → Option (List D)
  | .val (.list ds) => some ds
  | .val (.tuple ds) => some ds
  | .own _ (.lst ds) => some ds
  | .scr ns => some (ns.map .int)
  | _ => none
/-- as data -/
def daO : Slot → Option D
  | .val d => some d
  | .own _ (.lst ds) => some (.list ds)
  | .scr ns => some (.list (ns.map .int))
  | _ => none
section
variable {C : Cfg} {Z Z' Fr : Addr → Prop} {H H' : Hp} {K : Frag}
theorem CR.ls {x : V} {s : Slot} {ds : List D} (h : CR C Z H x s) (e : lsO s = some ds) : ∃ a vs, x = .ref a ∧ H a = some (.lst vs) ∧ Rps C.K Z H vs ds := by
  unfold lsO at e
  split at e
  · cases e
    cases h with
    | lst z q r => exact ⟨_, _, rfl, q, r⟩
  · cases e
    obtain ⟨a, ea, vs, q, r⟩ := h
    exact ⟨a, vs, ea, q, r⟩
  · cases e
theorem rps_ints : ∀ ns : List Int, Rps K Z H (ns.map V.int) (ns.map PyData.int)
  | [] => .nil
  | n :: r => .cons (.int n) (rps_ints r)
theorem CR.sq {x : V} {s : Slot} {ds : List D} (h : CR C Z H x s) (e : sqO s = some ds) : ∃ a vs, x = .ref a ∧ (SqL C.K H a vs ∨ H a = some (.tup vs)) ∧ Rps C.K Z H vs ds := by
  unfold sqO at e
  split at e
  · cases e
    cases h with
    | lst z q r => exact ⟨_, _, rfl, .inl (.inl (.inl q)), r⟩
  · cases e
    cases h with
    | tup q r => exact ⟨_, _, rfl, .inr q, r⟩
  · cases e
    obtain ⟨a, ea, vs, q, r⟩ := h
    exact ⟨a, vs, ea, .inl (.inl (.inl q)), r⟩
  · cases e
    obtain ⟨a, ea, q⟩ := h
    exact ⟨a, _, ea, .inl q.sql, rps_ints _⟩
  · cases e
mutual
theorem Rp.dp : ∀ {v : V} {d : D}, Rp K Z H v d → d.canLay0 = true → Dp K H v d
  | _, _, .non, _ => .non
  | _, _, .bl b, _ => .bl b
  | _, _, .int i, _ => .int i
  | _, _, .str x, _ => .str x
  | _, _, .tup q r, c => .tup (sqT q) (Rps.dp r (by simpa [PyData.canLay0] using c))
  | _, _, .lst _ q r, c => .lst (.inl (.inl q)) (Rps.dp r (by simpa [PyData.canLay0] using c))
  | _, _, .dct _ _, c => by simp [PyData.canLay0] at c
theorem Rps.dp : ∀ {vs : List V} {ds : List D}, Rps K Z H vs ds → PyData.canLayAll0 ds = true → DpAll K H vs ds
  | _, _, .nil, _ => .nil
  | _, _, .cons (d := d) (ds := ds) h r, c => by
    have c' : d.canLay0 = true ∧ PyData.canLayAll0 ds = true := by simpa [PyData.canLayAll0] using c
    exact .cons (Rp.dp h c'.1) (Rps.dp r c'.2)
end
theorem CR.dp {x : V} {s : Slot} {d : D} (h : CR C Z H x s) (e : daO s = some d) (c : d.canLay0 = true) : Dp C.K H x d := by
  unfold daO at e
  split at e
  · cases e
    exact Rp.dp h c
  · cases e
    obtain ⟨a, rfl, vs, q, r⟩ := h
    exact .lst (.inl (.inl q)) (r.dp (by simpa [PyData.canLay0] using c))
  · cases e
    obtain ⟨a, rfl, q⟩ := h
    exact .lst q.sql (Rps.dp (Z := Z) (rps_ints _) (by simpa [PyData.canLay0] using c))
  · cases e
end

/-! ### keys, tables -/
def keyD : D → Option Key
  | .int i => some (.inl i)
  | .str x => some (.inr x)
  | _ => none
def keysD : List D → Option (List Key)
  | [] => some []
  | d :: ds => match keyD d, keysD ds with
    | some k, some ks => some (k :: ks)
    | _, _ => none
section
variable {κ : Type} [DecidableEq κ]
def valD (kvs : List (κ × D)) (k : κ) : Option D := (kvs.find? fun kv => decide (kv.1 = k)).map (·.2)
def putD (kvs : List (κ × D)) (k : κ) (v : D) : List (κ × D) := if (kvs.any fun kv => decide (kv.1 = k)) = true then kvs.map (fun kv => if kv.1 = k then (kv.1, v) else kv) else kvs ++ [(k, v)]
variable {K : Frag} {Z : Addr → Prop} {H : Hp}
theorem KVR.val {l : List (κ × V)} {m : List (κ × D)} (h : KVR K Z H l m) (k : κ) : (valD m k = none ∧ valV l k = none) ∨ ∃ d v, valD m k = some d ∧ valV l k = some v ∧ Rp K Z H v d := by
  induction h with
  | nil => exact .inl ⟨rfl, rfl⟩
  | @cons k' v d l m r _ ih =>
    by_cases e : k' = k
    · exact .inr ⟨d, v, by simp [valD, List.find?_cons, e], by simp [valV, List.find?_cons, e], r⟩
    · have e1 : valD ((k', d) :: m) k = valD m k := by simp [valD, List.find?_cons, e]
      have e2 : valV ((k', v) :: l) k = valV l k := by simp [valV, List.find?_cons, e]
      rw [e1, e2]; exact ih
theorem KVR.any {l : List (κ × V)} {m : List (κ × D)} (h : KVR K Z H l m) (k : κ) : (l.any fun kv => decide (kv.1 = k)) = m.any fun kv => decide (kv.1 = k) := by
  induction h with
  | nil => rfl
  | cons _ _ ih => simp only [List.any_cons, ih]
theorem KVR.snoc {l : List (κ × V)} {m : List (κ × D)} (h : KVR K Z H l m) {k : κ} {v : V} {d : D} (r : Rp K Z H v d) : KVR K Z H (l ++ [(k, v)]) (m ++ [(k, d)]) := by
  induction h with
  | nil => exact .cons r .nil
  | cons r' _ ih => exact .cons r' ih
theorem KVR.repl {l : List (κ × V)} {m : List (κ × D)} (h : KVR K Z H l m) {k : κ} {v : V} {d : D} (r : Rp K Z H v d) : KVR K Z H (l.map fun kv => if kv.1 = k then (kv.1, v) else kv) (m.map fun kv => if kv.1 = k then (kv.1, d) else kv) := by
  induction h with
  | nil => exact .nil
  | @cons k' v' d' l m r' _ ih =>
    by_cases e : k' = k
    · simp only [List.map_cons, e, if_true]; exact .cons r ih
    · simp only [List.map_cons, e, if_false]; exact .cons r' ih
theorem KVR.put {l : List (κ × V)} {m : List (κ × D)} (h : KVR K Z H l m) (k : κ) {v : V} {d : D} (r : Rp K Z H v d) : KVR K Z H (putK l k v) (putD m k d) := by
  unfold putK putD
  rw [h.any k]
  split
  · exact h.repl r
  · exact h.snoc r
theorem KVR.len {l : List (κ × V)} {m : List (κ × D)} (h : KVR K Z H l m) : l.length = m.length := by
  induction h with
  | nil => rfl
  | cons _ _ ih => exact congrArg (· + 1) ih
end
def kyS : Slot → Option Key
  | .val d => keyD d
  | _ => none
def ksS : Slot → Option (List Key)
  | .val (.tuple ds) => keysD ds
  | _ => none
section
variable {C : Cfg} {Z : Addr → Prop} {H : Hp} {K : Frag}
theorem Rp.key {v : V} {d : D} {k : Key} (h : Rp K Z H v d) (e : keyD d = some k) : v = kV k := by
  unfold keyD at e
  split at e
  · cases e; cases h; rfl
  · cases e; cases h; rfl
  · cases e
theorem Rps.keys : ∀ {vs : List V} {ds : List D} {ks : List Key}, Rps K Z H vs ds → keysD ds = some ks → vs = ks.map kV
  | _, [], _, .nil, e => by cases e; rfl
  | _, d :: ds, ks, .cons r t, e => by
    unfold keysD at e
    split at e
    · rename_i k ks' e1 e2
      cases e
      rw [r.key e1, Rps.keys t e2]; rfl
    · cases e
theorem CR.key {x : V} {s : Slot} {k : Key} (h : CR C Z H x s) (e : kyS s = some k) : x = kV k := by
  unfold kyS at e
  split at e
  · exact Rp.key h e
  · cases e
theorem CR.keyT {x : V} {s : Slot} {ks : List Key} (h : CR C Z H x s) (e : ksS s = some ks) : ∃ b, x = .ref b ∧ H b = some (.tup (ks.map kV)) := by
  unfold ksS at e
  split at e
  · cases h with
    | tup q r => exact ⟨_, rfl, by rw [← r.keys e]; exact q⟩
  · cases e
end

/-! ### operators -/
def gI (g : Int → Int → D) : G2 := fun s1 s2 R => match s1, s2 with
  | .val (.int i), .val (.int j) => R (.val (g i j))
  | _, _ => False
theorem gI_mono (g : Int → Int → D) : MonoG (gI g) := fun s1 s2 R R' k h => by
  revert h
  unfold gI
  split
  · exact k _
  · exact id
theorem sem_I {C : Cfg} {g : Int → Int → V} {g' : Int → Int → D} (hg : ∀ K Z H i j, Rp K Z H (g i j) (g' i j)) : Sem2 C (rI0 g) (gI g') := fun Z Fr As σ env H x y s1 s2 R Q I c1 c2 q k => by
  revert q
  unfold gI
  split
  · intro q
    cases c1
    cases c2
    exact ⟨_, _, rfl, rfl, k _ _ _ _ q Step.refl I (hg _ _ _ _ _)⟩
  · exact fun h => h.elim
/-- with a condition -/
def gIc (c : Int → Int → Prop) (g : Int → Int → D) : G2 := fun s1 s2 R => match s1, s2 with
  | .val (.int i), .val (.int j) => c i j ∧ R (.val (g i j))
  | _, _ => False
theorem gIc_mono (c : Int → Int → Prop) (g : Int → Int → D) : MonoG (gIc c g) := fun s1 s2 R R' k h => by
  revert h
  unfold gIc
  split
  · exact fun ⟨a, q⟩ => ⟨a, k _ q⟩
  · exact id
theorem sem_Ic {C : Cfg} {c : Int → Int → Prop} {g : Int → Int → V} {g' : Int → Int → D} (hg : ∀ K Z H i j, Rp K Z H (g i j) (g' i j)) : Sem2 C (rI c g) (gIc c g') := fun Z Fr As σ env H x y s1 s2 R Q I c1 c2 q k => by
  revert q
  unfold gIc
  split
  · intro ⟨a, q⟩
    cases c1
    cases c2
    exact ⟨_, _, rfl, rfl, a, k _ _ _ _ q Step.refl I (hg _ _ _ _ _)⟩
  · exact fun h => h.elim
def gAdd : G2 := fun s1 s2 R => match s1, s2 with
  | .val (.int i), .val (.int j) => R (.val (.int (i + j)))
  | .val (.tuple xs), .val (.tuple ys) => xs.length + ys.length ≤ sizeLine ∧ R (.val (.tuple (xs ++ ys)))
  | .val (.str x), .val (.str y) => x.length + y.length ≤ sizeLine ∧ R (.val (.str (x ++ y)))
  | s1, s2 => need (lsO s1) fun xs => need (lsO s2) fun ys => xs.length + ys.length ≤ sizeLine ∧ R (.own none (.lst (xs ++ ys)))
theorem gAdd_mono : MonoG gAdd := fun s1 s2 R R' k h => by
  revert h
  unfold gAdd
  split
  · exact k _
  · exact fun ⟨a, q⟩ => ⟨a, k _ q⟩
  · exact fun ⟨a, q⟩ => ⟨a, k _ q⟩
  · intro h
    obtain ⟨xs, e1, h⟩ := need_out h
    obtain ⟨ys, e2, a, q⟩ := need_out h
    exact need_in e1 (need_in e2 ⟨a, k _ q⟩)
def rAddU (K : Frag) : R2 := fun x y H Q => ((rI0 (fun i j => .int (i + j)) x y H Q ∨ rCatA K x y H Q) ∨ (∃ i j, x = .str i ∧ y = .str j ∧ i.length + j.length ≤ sizeLine ∧ Q (.str (i ++ j)) H)) ∨ rCat x y H Q
theorem op_addU {X : Cx} : OpR X (binaryOp .Add) (rAddU X.K) := ((op_add.or op_catA).or op_add_str).or op_cat
theorem sem_add {C : Cfg} : Sem2 C (rAddU C.K) gAdd := fun Z Fr As σ env H x y s1 s2 R Q I c1 c2 q k => by
  revert q
  unfold gAdd
  split
  · intro q
    cases c1
    cases c2
    exact .inl (.inl (.inl ⟨_, _, rfl, rfl, k _ _ _ _ q Step.refl I (Rp.int _)⟩))
  · intro ⟨hz, q⟩
    cases c1 with
    | tup h1 r1 =>
      cases c2 with
      | @tup b ws _ h2 r2 =>
        refine .inl (.inl (.inr ⟨_, _, _, _, rfl, rfl, sqT h1, sqT h2, by rw [r1.length, r2.length]; exact hz, fun e => ?_, fun _ e => ?_, fun _ _ p np => ?_⟩))
        · subst e
          cases r1
          exact k _ _ _ _ q Step.refl I (Rp.tup h2 r2)
        · subst e
          cases r2
          rw [List.append_nil] at q
          exact k _ _ _ _ q Step.refl I (Rp.tup h1 r1)
        · exact k _ _ _ _ q (Step.new I.ok np) (I.new np) (Rp.tup upd_same ((r1.app r2).step (Step.new I.ok np)))
  · intro ⟨hz, q⟩
    cases c1
    cases c2
    exact .inl (.inr ⟨_, _, rfl, rfl, hz, k _ _ _ _ q Step.refl I (Rp.str _)⟩)
  · intro h
    obtain ⟨xs, e1, h⟩ := need_out h
    obtain ⟨ys, e2, hz, q⟩ := need_out h
    obtain ⟨a, vs, rfl, h1, r1⟩ := c1.ls e1
    obtain ⟨b, ws, rfl, h2, r2⟩ := c2.ls e2
    exact .inr ⟨a, b, vs, ws, rfl, rfl, h1, h2, by rw [r1.length, r2.length]; exact hz, fun p np =>
      k _ _ _ _ q (Step.new I.ok np) (I.new np) (resNew I np fun st e => ⟨_, e, (r1.app r2).step st⟩)⟩
/-- * : ints, a list times an int, a tuple times an int -/
def gMul : G2 := fun s1 s2 R => match s1, s2 with
  | .val (.int i), .val (.int j) => (CMul i j ∨ CMulW i j) ∧ R (.val (.int (i * j)))
  | .val (.tuple xs), .val (.int k) => (xs ≠ [] ∧ 2 ≤ k ∧ k ≤ 1000 ∧ xs.length ≤ 1000) ∧ R (.val (.tuple (List.replicate k.toNat xs).flatten))
  | _, _ => False
theorem gMul_mono : MonoG gMul := fun s1 s2 R R' k h => by
  revert h
  unfold gMul
  split
  · exact fun ⟨a, q⟩ => ⟨a, k _ q⟩
  · exact fun ⟨a, q⟩ => ⟨a, k _ q⟩
  · exact id
def rMulU (K : Frag) : R2 := fun x y H Q => (rI CMul (fun i j => .int (i * j)) x y H Q ∨ rI CMulW (fun i j => .int (i * j)) x y H Q) ∨ rRepT K x y H Q
theorem op_mulU {X : Cx} : OpR X (binaryOp .Mult) (rMulU X.K) := (op_mul.or op_mulW).or op_repT
theorem Rps.rep {K : Frag} {Z : Addr → Prop} {H : Hp} {vs : List V} {ds : List D} (h : Rps K Z H vs ds) : ∀ n : Nat, Rps K Z H (List.replicate n vs).flatten (List.replicate n ds).flatten
  | 0 => .nil
  | n + 1 => by
    rw [List.replicate_succ, List.replicate_succ, List.flatten_cons, List.flatten_cons]
    exact h.app (h.rep n)
theorem sem_mul {C : Cfg} : Sem2 C (rMulU C.K) gMul := fun Z Fr As σ env H x y s1 s2 R Q I c1 c2 q k => by
  revert q
  unfold gMul
  split
  · intro ⟨a, q⟩
    cases c1
    cases c2
    exact .inl (a.imp (fun a => ⟨_, _, rfl, rfl, a, k _ _ _ _ q Step.refl I (Rp.int _)⟩) fun a => ⟨_, _, rfl, rfl, a, k _ _ _ _ q Step.refl I (Rp.int _)⟩)
  · intro ⟨⟨a1, a2, a3, a4⟩, q⟩
    cases c1 with
    | @tup a vs _ h1 r1 =>
      cases c2
      refine .inr ⟨_, _, _, rfl, rfl, sqT h1, fun e => a1 (by subst e; cases r1; rfl), a2, a3, by rw [r1.length]; exact a4, fun p np => ?_⟩
      exact k _ _ _ _ q (Step.new I.ok np) (I.new np) (Rp.tup upd_same ((r1.rep _).step (Step.new I.ok np)))
  · exact fun h => h.elim
/-- comparison of data -/
def EqOk (d e : D) : Prop := (SeqAt.shaped d = true ∧ SeqAt.shaped e = true) ∨ ∃ x y, d = .str x ∧ e = .str y
def gEq (neg : Bool) : G2 := fun s1 s2 R => need (daO s1) fun d => need (daO s2) fun e => EqOk d e ∧ R (.val (.bool (if neg then !PyData.eqv d e else PyData.eqv d e)))
theorem gEq_mono (neg : Bool) : MonoG (gEq neg) := fun s1 s2 R R' k h => by
  obtain ⟨d, e1, h⟩ := need_out h
  obtain ⟨e, e2, a, q⟩ := need_out h
  exact need_in e1 (need_in e2 ⟨a, k _ q⟩)
def rEqU (K : Frag) : R2 := fun x y H Q => rEqD K x y H Q ∨ rEq x y H Q
def rNeU (K : Frag) : R2 := fun x y H Q => rNeD K x y H Q ∨ rNe x y H Q
theorem CR.strD {C : Cfg} {Z : Addr → Prop} {H : Hp} {x : V} {s : Slot} {y : Str} (h : CR C Z H x s) (e : daO s = some (.str y)) : x = .str y := by
  unfold daO at e
  split at e
  · cases e; cases h; rfl
  · cases e
  · cases e
  · cases e
theorem sem_eq {C : Cfg} : Sem2 C (rEqU C.K) (gEq false) := fun Z Fr As σ env H x y s1 s2 R Q I c1 c2 q k => by
  obtain ⟨d, e1, h⟩ := need_out q
  obtain ⟨e, e2, a, q⟩ := need_out h
  rcases a with ⟨a1, a2⟩ | ⟨z1, z2, rfl, rfl⟩
  · exact .inl ⟨d, e, c1.dp e1 (SeqAt.canLay_of_shaped a1), c2.dp e2 (SeqAt.canLay_of_shaped a2), a1, a2, k _ _ _ _ q Step.refl I (Rp.bl _)⟩
  · have h1 := c1.strD e1
    have h2 := c2.strD e2
    subst h1 h2
    refine .inr ⟨rfl, ?_⟩
    rw [dec_str]
    refine k _ _ _ _ q Step.refl I ?_
    simp only [PyData.eqv, Bool.false_eq_true, if_false]
    exact Rp.bl _
theorem sem_ne {C : Cfg} : Sem2 C (rNeU C.K) (gEq true) := fun Z Fr As σ env H x y s1 s2 R Q I c1 c2 q k => by
  obtain ⟨d, e1, h⟩ := need_out q
  obtain ⟨e, e2, a, q⟩ := need_out h
  rcases a with ⟨a1, a2⟩ | ⟨z1, z2, rfl, rfl⟩
  · exact .inl ⟨d, e, c1.dp e1 (SeqAt.canLay_of_shaped a1), c2.dp e2 (SeqAt.canLay_of_shaped a2), a1, a2, k _ _ _ _ q Step.refl I (Rp.bl _)⟩
  · have h1 := c1.strD e1
    have h2 := c2.strD e2
    subst h1 h2
    refine .inr ⟨rfl, ?_⟩
    rw [dec_str]
    refine k _ _ _ _ q Step.refl I ?_
    simp only [PyData.eqv, if_true]
    exact Rp.bl _
/-- x in a list of data, in a dict -/
def gInL (neg : Bool) (s1 : Slot) (ds : List D) (R : Slot → Prop) : Prop := need (daO s1) fun d => (SeqAt.shaped d = true ∧ SeqAt.shaped (.list ds) = true) ∧ R (.val (.bool (if neg then !(ds.any fun z => PyData.eqv z d) else ds.any fun z => PyData.eqv z d)))
def gInK (neg : Bool) (s1 : Slot) (kvs : List (Key × D)) (R : Slot → Prop) : Prop := need (kyS s1) fun k => R (.val (.bool (if neg then !(valD kvs k).isSome else (valD kvs k).isSome)))
def gInT (neg : Bool) (s1 : Slot) (kvs : List (List Key × D)) (R : Slot → Prop) : Prop := need (ksS s1) fun k => R (.val (.bool (if neg then !(valD kvs k).isSome else (valD kvs k).isSome)))
def liD : D → Option (List D)
  | .list ds => some ds
  | _ => none
def gIn (neg : Bool) : G2 := fun s1 s2 R => match s2 with
  | .own _ (.lst ds) => gInL neg s1 ds R
  | .own _ (.dK kvs) => gInK neg s1 kvs R
  | .own _ (.dT kvs) => gInT neg s1 kvs R
  | .val d => need (liD d) fun ds => gInL neg s1 ds R
  | .scr _ => False
theorem gInL_mono {neg : Bool} {s1 : Slot} {ds : List D} {R R' : Slot → Prop} (k : ∀ r, R r → R' r) (h : gInL neg s1 ds R) : gInL neg s1 ds R' := by
  obtain ⟨d, e1, a, q⟩ := need_out h
  exact need_in e1 ⟨a, k _ q⟩
theorem gIn_mono (neg : Bool) : MonoG (gIn neg) := fun s1 s2 R R' k h => by
  revert h
  unfold gIn
  split
  · exact gInL_mono k
  · intro h
    obtain ⟨d, e1, q⟩ := need_out h
    exact need_in e1 (k _ q)
  · intro h
    obtain ⟨d, e1, q⟩ := need_out h
    exact need_in e1 (k _ q)
  · intro h
    obtain ⟨d, e1, q⟩ := need_out h
    exact need_in e1 (gInL_mono k q)
  · exact id
theorem CR.dpl {C : Cfg} {Z : Addr → Prop} {H : Hp} {x : V} {s : Slot} {ds : List D} (h : CR C Z H x s) (e : lsO s = some ds) (c : (PyData.list ds).canLay0 = true) : Dp C.K H x (.list ds) := by
  obtain ⟨a, vs, rfl, q, r⟩ := h.ls e
  exact .lst (.inl (.inl q)) (r.dp (by simpa [PyData.canLay0] using c))
def rInU (K : Frag) : R2 := fun x y H Q => rInD K x y H Q ∨ ∃ a o, y = .ref a ∧ DGet H a x o ∧ Q (.bl o.isSome) H
def rNotInU (K : Frag) : R2 := fun x y H Q => rNotInD K x y H Q ∨ ∃ a o, y = .ref a ∧ DGet H a x o ∧ Q (.bl (!o.isSome)) H
theorem op_inU {X : Cx} (hu : X.A.units + 65 < cLine) : OpR X (compareOp .In) (rInU X.K) := (op_inD hu).or fun pins s σ H x y v u Q I rx ry ⟨a, o, e, g, q⟩ => by
  subst e
  cases (show u = Value.ref a from ry)
  exact d_in (by omega) I g rx fun s' I' => ⟨.bl o.isSome, H, I', rfl, q⟩
theorem op_notInU {X : Cx} (hu : X.A.units + 65 < cLine) : OpR X (compareOp .NotIn) (rNotInU X.K) := (op_notInD hu).or fun pins s σ H x y v u Q I rx ry ⟨a, o, e, g, q⟩ => by
  subst e
  cases (show u = Value.ref a from ry)
  exact d_notIn (by omega) I g rx fun s' I' => ⟨.bl (!o.isSome), H, I', rfl, q⟩
/-- what a dict of one's own holds -/
theorem CR.getK {C : Cfg} {Z : Addr → Prop} {H : Hp} {x y : V} {s : Slot} {t : Option Nat} {kvs : List (Key × D)} {k : Key} (h : CR C Z H x (.own t (.dK kvs))) (c : CR C Z H y s) (e : kyS s = some k) :
    ∃ a, x = .ref a ∧ ((valD kvs k = none ∧ DGet H a y none) ∨ ∃ d v, valD kvs k = some d ∧ DGet H a y (some v) ∧ Rp C.K Z H v d) := by
  obtain ⟨a, rfl, l, hl, r⟩ := h
  rw [c.key e]
  refine ⟨a, rfl, (r.val k).imp (fun ⟨e1, e2⟩ => ⟨e1, ?_⟩) fun ⟨d, v, e1, e2, q⟩ => ⟨d, v, e1, ?_, q⟩⟩
  · rw [← e2]; exact DGet.k hl
  · rw [← e2]; exact DGet.k hl
theorem CR.getT {C : Cfg} {Z : Addr → Prop} {H : Hp} {x y : V} {s : Slot} {t : Option Nat} {kvs : List (List Key × D)} {k : List Key} (h : CR C Z H x (.own t (.dT kvs))) (c : CR C Z H y s) (e : ksS s = some k) :
    ∃ a, x = .ref a ∧ ((valD kvs k = none ∧ DGet H a y none) ∨ ∃ d v, valD kvs k = some d ∧ DGet H a y (some v) ∧ Rp C.K Z H v d) := by
  obtain ⟨a, rfl, l, hl, r⟩ := h
  obtain ⟨b, rfl, hb⟩ := c.keyT e
  refine ⟨a, rfl, (r.val k).imp (fun ⟨e1, e2⟩ => ⟨e1, ?_⟩) fun ⟨d, v, e1, e2, q⟩ => ⟨d, v, e1, ?_, q⟩⟩
  · rw [← e2]; exact DGet.t hl hb
  · rw [← e2]; exact DGet.t hl hb
theorem sem_in {C : Cfg} : Sem2 C (rInU C.K) (gIn false) := fun Z Fr As σ env H x y s1 s2 R Q I c1 c2 q k => by
  have lst : ∀ {ds}, lsO s2 = some ds → gInL false s1 ds R → rInU C.K x y H Q := fun {ds} e2 q => by
    obtain ⟨d, e1, ⟨a1, a2⟩, q⟩ := need_out q
    exact .inl ⟨d, ds, c1.dp e1 (SeqAt.canLay_of_shaped a1), c2.dpl e2 (SeqAt.canLay_of_shaped a2), a1, a2, k _ _ _ _ q Step.refl I (Rp.bl _)⟩
  unfold gIn at q
  split at q
  · exact lst rfl q
  · obtain ⟨kk, e, q⟩ := need_out q
    obtain ⟨a, rfl, h⟩ := c2.getK c1 e
    rcases h with ⟨e1, g⟩ | ⟨d, v, e1, g, _⟩
    · rw [e1] at q; exact .inr ⟨a, _, rfl, g, k _ _ _ _ q Step.refl I (Rp.bl _)⟩
    · rw [e1] at q; exact .inr ⟨a, _, rfl, g, k _ _ _ _ q Step.refl I (Rp.bl _)⟩
  · obtain ⟨kk, e, q⟩ := need_out q
    obtain ⟨a, rfl, h⟩ := c2.getT c1 e
    rcases h with ⟨e1, g⟩ | ⟨d, v, e1, g, _⟩
    · rw [e1] at q; exact .inr ⟨a, _, rfl, g, k _ _ _ _ q Step.refl I (Rp.bl _)⟩
    · rw [e1] at q; exact .inr ⟨a, _, rfl, g, k _ _ _ _ q Step.refl I (Rp.bl _)⟩
  · obtain ⟨ds, e, q⟩ := need_out q
    unfold liD at e
    split at e
    · cases e; exact lst rfl q
    · cases e
  · exact q.elim
theorem sem_notIn {C : Cfg} : Sem2 C (rNotInU C.K) (gIn true) := fun Z Fr As σ env H x y s1 s2 R Q I c1 c2 q k => by
  have lst : ∀ {ds}, lsO s2 = some ds → gInL true s1 ds R → rNotInU C.K x y H Q := fun {ds} e2 q => by
    obtain ⟨d, e1, ⟨a1, a2⟩, q⟩ := need_out q
    exact .inl ⟨d, ds, c1.dp e1 (SeqAt.canLay_of_shaped a1), c2.dpl e2 (SeqAt.canLay_of_shaped a2), a1, a2, k _ _ _ _ q Step.refl I (Rp.bl _)⟩
  unfold gIn at q
  split at q
  · exact lst rfl q
  · obtain ⟨kk, e, q⟩ := need_out q
    obtain ⟨a, rfl, h⟩ := c2.getK c1 e
    rcases h with ⟨e1, g⟩ | ⟨d, v, e1, g, _⟩
    · rw [e1] at q; exact .inr ⟨a, _, rfl, g, k _ _ _ _ q Step.refl I (Rp.bl _)⟩
    · rw [e1] at q; exact .inr ⟨a, _, rfl, g, k _ _ _ _ q Step.refl I (Rp.bl _)⟩
  · obtain ⟨kk, e, q⟩ := need_out q
    obtain ⟨a, rfl, h⟩ := c2.getT c1 e
    rcases h with ⟨e1, g⟩ | ⟨d, v, e1, g, _⟩
    · rw [e1] at q; exact .inr ⟨a, _, rfl, g, k _ _ _ _ q Step.refl I (Rp.bl _)⟩
    · rw [e1] at q; exact .inr ⟨a, _, rfl, g, k _ _ _ _ q Step.refl I (Rp.bl _)⟩
  · obtain ⟨ds, e, q⟩ := need_out q
    unfold liD at e
    split at e
    · cases e; exact lst rfl q
    · cases e
  · exact q.elim
/-- is None -/
def isNone : Slot → Bool
  | .val .none => true
  | _ => false
def gIs (neg : Bool) : G2 := fun s1 s2 R => match s2 with
  | .val .none => R (.val (.bool (if neg then !isNone s1 else isNone s1)))
  | _ => False
theorem gIs_mono (neg : Bool) : MonoG (gIs neg) := fun s1 s2 R R' k h => by
  revert h
  unfold gIs
  split
  · exact k _
  · exact id
theorem CR.none {C : Cfg} {Z : Addr → Prop} {H : Hp} {x : V} {s : Slot} (h : CR C Z H x s) : decide (x = .non) = isNone s := by
  rcases s with d | ⟨t, m⟩ | ns
  · cases h <;> rfl
  · obtain ⟨a, rfl, _⟩ := h; rfl
  · obtain ⟨a, rfl, _⟩ := h; rfl
theorem sem_is {C : Cfg} : Sem2 C (fun x y H Q => y = .non ∧ Q (.bl (decide (x = .non))) H) (gIs false) := fun Z Fr As σ env H x y s1 s2 R Q I c1 c2 q k => by
  revert q
  unfold gIs
  split
  · intro q
    cases c2
    exact ⟨rfl, k _ _ _ _ q Step.refl I (by rw [c1.none]; exact Rp.bl _)⟩
  · exact fun h => h.elim
theorem sem_isNot {C : Cfg} : Sem2 C (fun x y H Q => y = .non ∧ Q (.bl (!decide (x = .non))) H) (gIs true) := fun Z Fr As σ env H x y s1 s2 R Q I c1 c2 q k => by
  revert q
  unfold gIs
  split
  · intro q
    cases c2
    exact ⟨rfl, k _ _ _ _ q Step.refl I (by rw [c1.none]; exact Rp.bl _)⟩
  · exact fun h => h.elim
/-- < : ints, tuples of ints -/
def intsD : List D → Option (List Int)
  | [] => some []
  | .int i :: r => (intsD r).map (i :: ·)
  | _ => none
def gLt : G2 := fun s1 s2 R => match s1, s2 with
  | .val (.int i), .val (.int j) => R (.val (.bool (decide (i < j))))
  | .val (.tuple xs), .val (.tuple ys) => need (intsD xs) fun ns => need (intsD ys) fun ms => R (.val (.bool (HT.lexLt ns ms)))
  | _, _ => False
theorem gLt_mono : MonoG gLt := fun s1 s2 R R' k h => by
  revert h
  unfold gLt
  split
  · exact k _
  · intro h
    obtain ⟨d, e1, h⟩ := need_out h
    obtain ⟨e, e2, q⟩ := need_out h
    exact need_in e1 (need_in e2 (k _ q))
  · exact id
theorem Rps.intsV {K : Frag} {Z : Addr → Prop} {H : Hp} : ∀ {ds : List D} {vs : List V} {ns : List Int}, Rps K Z H vs ds → intsD ds = some ns → vs = ns.map V.int
  | [], _, _, h, e => by cases h; cases e; rfl
  | d :: ds, _, ns, h, e => by
    cases h with
    | cons h1 h2 =>
      cases h1 with
      | int i =>
        simp only [intsD, Option.map_eq_some_iff] at e
        obtain ⟨m, e1, rfl⟩ := e
        rw [Rps.intsV h2 e1]
        rfl
      | _ => cases e
def rLtU (K : Frag) : R2 := fun x y H Q => rI0 (fun i j => .bl (decide (i < j))) x y H Q ∨ rLtT K x y H Q
theorem op_ltU {X : Cx} (hu : X.A.units < cLine) : OpR X (compareOp .Lt) (rLtU X.K) := op_lt.or (op_ltT hu)
theorem sem_lt {C : Cfg} : Sem2 C (rLtU C.K) gLt := fun Z Fr As σ env H x y s1 s2 R Q I c1 c2 q k => by
  revert q
  unfold gLt
  split
  · intro q
    cases c1
    cases c2
    exact .inl ⟨_, _, rfl, rfl, k _ _ _ _ q Step.refl I (Rp.bl _)⟩
  · intro h
    obtain ⟨ns, e1, h⟩ := need_out h
    obtain ⟨ms, e2, q⟩ := need_out h
    cases c1 with
    | tup h1 r1 =>
      cases c2 with
      | tup h2 r2 =>
        have g1 := r1.intsV e1
        have g2 := r2.intsV e2
        subst g1 g2
        exact .inr ⟨_, _, _, _, rfl, rfl, sqT h1, sqT h2, k _ _ _ _ q Step.refl I (Rp.bl _)⟩
  · exact fun h => h.elim
/-- an item -/
def gIxS (xs : List D) (s2 : Slot) (R : Slot → Prop) : Prop := match s2 with
  | .val (.int i) => need (atI xs i) fun d => R (.val d)
  | _ => False
def seqV : D → Option (List D)
  | .list ds => some ds
  | .tuple ds => some ds
  | _ => none
def gIx : G2 := fun s1 s2 R => match s1 with
  | .own _ (.lst ds) => gIxS ds s2 R
  | .own _ (.dK kvs) => need (kyS s2) fun k => need (valD kvs k) fun d => R (.val d)
  | .own _ (.dT kvs) => need (ksS s2) fun k => need (valD kvs k) fun d => R (.val d)
  | .val d => need (seqV d) fun ds => gIxS ds s2 R
  | .scr ns => gIxS (ns.map .int) s2 R
theorem gIxS_mono {xs : List D} {s2 : Slot} {R R' : Slot → Prop} (k : ∀ r, R r → R' r) : gIxS xs s2 R → gIxS xs s2 R' := by
  unfold gIxS
  split
  · intro h
    obtain ⟨d, e1, q⟩ := need_out h
    exact need_in e1 (k _ q)
  · exact id
theorem gIx_mono : MonoG gIx := fun s1 s2 R R' k h => by
  revert h
  unfold gIx
  split
  · exact gIxS_mono k
  · intro h
    obtain ⟨d, e1, h⟩ := need_out h
    obtain ⟨e, e2, q⟩ := need_out h
    exact need_in e1 (need_in e2 (k _ q))
  · intro h
    obtain ⟨d, e1, h⟩ := need_out h
    obtain ⟨e, e2, q⟩ := need_out h
    exact need_in e1 (need_in e2 (k _ q))
  · intro h
    obtain ⟨d, e1, h⟩ := need_out h
    exact need_in e1 (gIxS_mono k h)
  · exact gIxS_mono k
theorem Rps.atI {K : Frag} {Z : Addr → Prop} {H : Hp} {vs : List V} {ds : List D} {i : Int} {d : D} (h : Rps K Z H vs ds) (e : L2.atI ds i = some d) : ∃ v, L2.atI vs i = some v ∧ Rp K Z H v d := by
  unfold L2.atI at e ⊢
  obtain ⟨j, e1, e2⟩ := Option.bind_eq_some_iff.mp e
  obtain ⟨v, h1, h2⟩ := h.get e2
  exact ⟨v, by rw [h.length, e1]; exact h1, h2⟩
def rIxU (K : Frag) : R2 := fun x y H Q => rIx K x y H Q ∨ ∃ a v, x = .ref a ∧ DGet H a y (some v) ∧ Q v H
theorem ix_dict {X : Cx} (hu : X.A.units + 1 < cLine) : IxR X (fun x y H Q => ∃ a v, x = .ref a ∧ DGet H a y (some v) ∧ Q v H) := by
  intro value slice pins s σ H x y u iv Q I rx ry ⟨a, v, e, g, q⟩ hs
  subst e
  cases (show u = Value.ref a from rx)
  have hT := dict_typeIs I g
  unfold subscriptTail
  refine wpAny_bind ?_
  rw [getitemInPython_of_ne hT.not_modules]
  refine wpAny_bind (wpAny_specialOf hT PySem.F.slot_dict_getitem.lookup ?_)
  have fin : wpAny (model X.prog X.w) X.A (subscripted slice false (.ref a) iv) (fun r s₃ => wpAny (model X.prog X.w) X.A (letTemporaryGo value (.ref a) r >>= fun _ => pure r) (EP X pins σ Q) X.xe s₃) X.xe s := by
    rw [hs]
    exact wpAny_operating (d_getItem hu I g ry fun w' s3 I3 rw' => wpAny_bind (wpAny_letTemporaryGo (wpAny_pure ⟨v, H, I3, rw', q⟩)))
  first
    | exact wpAny_pure (wpAny_bind fin)
    | exact wpAny_bind (wpAny_pure (wpAny_bind fin))
    | exact wpAny_bind fin
theorem sem_ix {C : Cfg} : Sem2 C (rIxU C.K) gIx := fun Z Fr As σ env H x y s1 s2 R Q I c1 c2 q k => by
  have sq : ∀ {ds}, sqO s1 = some ds → gIxS ds s2 R → rIxU C.K x y H Q := fun {ds} e1 q => by
    revert q
    unfold gIxS
    split
    · intro h
      obtain ⟨d, e2, q⟩ := need_out h
      obtain ⟨a, vs, rfl, hq, r⟩ := c1.sq e1
      obtain ⟨v, h1, h2⟩ := r.atI e2
      cases c2
      rcases hq with hq | hq
      · exact .inl (.inl ⟨a, vs, _, v, rfl, rfl, hq, h1, k _ _ _ _ q Step.refl I h2⟩)
      · exact .inl (.inr (.inl ⟨a, vs, _, v, rfl, rfl, sqT hq, h1, k _ _ _ _ q Step.refl I h2⟩))
    · exact fun h => h.elim
  unfold gIx at q
  split at q
  · exact sq rfl q
  · obtain ⟨kk, e, q⟩ := need_out q
    obtain ⟨d, e2, q⟩ := need_out q
    obtain ⟨a, rfl, h⟩ := c1.getK c2 e
    rcases h with ⟨e1, g⟩ | ⟨d', v, e1, g, r⟩
    · rw [e1] at e2; cases e2
    · rw [e1] at e2; cases e2; exact .inr ⟨a, v, rfl, g, k _ _ _ _ q Step.refl I r⟩
  · obtain ⟨kk, e, q⟩ := need_out q
    obtain ⟨d, e2, q⟩ := need_out q
    obtain ⟨a, rfl, h⟩ := c1.getT c2 e
    rcases h with ⟨e1, g⟩ | ⟨d', v, e1, g, r⟩
    · rw [e1] at e2; cases e2
    · rw [e1] at e2; cases e2; exact .inr ⟨a, v, rfl, g, k _ _ _ _ q Step.refl I r⟩
  · obtain ⟨ds, e, q⟩ := need_out q
    unfold seqV at e
    split at e
    · cases e; exact sq rfl q
    · cases e; exact sq rfl q
    · cases e
  · exact sq rfl q
section
variable {tb : List Addr} {X : Cx}
theorem se_ix {a b : Expr} {pos : Pos} {wa wb : DO} (hu : X.A.units + 1 < cLine) (ha : SO tb X a wa) (hb : SO tb X b wb) (hs : PlainIx b := by exact fun _ _ => rfl) : SE tb X (.Subscript a b pos) (dOp2 gIx wa wb) :=
  ⟨dOp2_mono gIx_mono ha.mono hb.mono, (pe_ix (ix_seq.or (ix_dict hu)) ha.pe hb.pe hs).imp (op2_lift ha.mono hb.mono sem_ix)⟩
theorem se_add {a b : Expr} {pos : Pos} {wa wb : DO} (ha : SO tb X a wa) (hb : SO tb X b wb) : SE tb X (.BinOp a .Add b pos) (dOp2 gAdd wa wb) := se_bin op_addU sem_add gAdd_mono ha hb
def gSub : G2 := gI fun i j => .int (i - j)
theorem se_sub {a b : Expr} {pos : Pos} {wa wb : DO} (ha : SO tb X a wa) (hb : SO tb X b wb) : SE tb X (.BinOp a .Sub b pos) (dOp2 gSub wa wb) := se_bin op_sub (sem_I fun _ _ _ _ _ => .int _) (gI_mono _) ha hb
theorem se_mul {a b : Expr} {pos : Pos} {wa wb : DO} (ha : SO tb X a wa) (hb : SO tb X b wb) : SE tb X (.BinOp a .Mult b pos) (dOp2 gMul wa wb) := se_bin op_mulU sem_mul gMul_mono ha hb
def gMod : G2 := gIc (fun _ j => 0 < j) fun i j => .int (i % j)
theorem se_mod {a b : Expr} {pos : Pos} {wa wb : DO} (ha : SO tb X a wa) (hb : SO tb X b wb) : SE tb X (.BinOp a .Mod b pos) (dOp2 gMod wa wb) := se_bin op_mod (sem_Ic fun _ _ _ _ _ => .int _) (gIc_mono _ _) ha hb
def gDiv : G2 := gIc CDivW fun i j => .int (i / j)
theorem se_fdiv {a b : Expr} {pos : Pos} {wa wb : DO} (ha : SO tb X a wa) (hb : SO tb X b wb) : SE tb X (.BinOp a .FloorDiv b pos) (dOp2 gDiv wa wb) := se_bin op_fdivW (sem_Ic fun _ _ _ _ _ => .int _) (gIc_mono _ _) ha hb
def gPow : G2 := gIc CPow fun i j => .int (i ^ j.toNat)
theorem se_pow {a b : Expr} {pos : Pos} {wa wb : DO} (ha : SO tb X a wa) (hb : SO tb X b wb) : SE tb X (.BinOp a .Pow b pos) (dOp2 gPow wa wb) := se_bin op_pow (sem_Ic fun _ _ _ _ _ => .int _) (gIc_mono _ _) ha hb
def gLe : G2 := gI fun i j => .bool (decide (i ≤ j))
def gGt : G2 := gI fun i j => .bool (decide (j < i))
def gGe : G2 := gI fun i j => .bool (decide (j ≤ i))
theorem sem_le {C : Cfg} : Sem2 C (rI0 fun i j => .bl (decide (i ≤ j))) gLe := sem_I fun _ _ _ _ _ => .bl _
theorem sem_gt {C : Cfg} : Sem2 C (rI0 fun i j => .bl (decide (j < i))) gGt := sem_I fun _ _ _ _ _ => .bl _
theorem sem_ge {C : Cfg} : Sem2 C (rI0 fun i j => .bl (decide (j ≤ i))) gGe := sem_I fun _ _ _ _ _ => .bl _

/-! ### a chain of two comparisons -/
def dChain (G G' : G2) (wa wb wc : DO) : DE := fun env Q => wa env fun o1 e1 => wb e1 fun o2 e2 => need (con e2 o1) fun s1 => need (con e2 o2) fun s2 => G s1 s2 fun r => need (isB r) fun b =>
  if b = true then wc e2 fun o3 e3 => need (con e3 o2) fun s2' => need (con e3 o3) fun s3 => G' s2' s3 fun r' => Q r' e3 else Q (.val (.bool false)) e2
theorem dChain_mono {G G' : G2} {wa wb wc : DO} (hG : MonoG G) (hG' : MonoG G') (ha : Mono wa) (hb : Mono wb) (hc : Mono wc) : Mono (dChain G G' wa wb wc) := fun env Q Q' k q =>
  ha env _ _ (fun _ e1 q => hb e1 _ _ (fun _ e2 q => by
    obtain ⟨s1, c1, q⟩ := need_out q
    obtain ⟨s2, c2, q⟩ := need_out q
    refine need_in c1 (need_in c2 (hG _ _ _ _ (fun r q => ?_) q))
    obtain ⟨b, eb, q⟩ := need_out q
    refine need_in eb ?_
    cases b with
    | true =>
      rw [if_pos rfl] at q ⊢
      refine hc e2 _ _ (fun o3 e3 q => ?_) q
      obtain ⟨s1, c1, q⟩ := need_out q
      obtain ⟨s2, c2, q⟩ := need_out q
      exact need_in c1 (need_in c2 (hG' _ _ _ _ (fun _ => k _ _) q))
    | false => exact k _ _ q) q) q
theorem chain_lift {C : Cfg} {r r' : R2} {G G' : G2} {wa wb wc : DO} (ma : Mono wa) (mb : Mono wb) (mc : Mono wc) (hs : Sem2 C r G) (hs' : Sem2 C r' G') : ∀ σ H Q, tE C (dChain G G' wa wb wc) σ H Q → tChain r r' (tO C wa) (tO C wb) (tO C wc) σ H Q := fun σ H Q ⟨Z, Fr, As, env, I, q⟩ => by
  refine ⟨Z, Fr, As, env, I, ma env _ _ (fun o1 e1 q v1 H1 Z1 st1 I1 r1 => ?_) q⟩
  refine ⟨Z1, _, As, e1, r1.prot I1, mb e1 _ _ (fun o2 e2 q v2 H2 Z2 st2 I2 r2 => ?_) q⟩
  obtain ⟨s1, c1, q⟩ := need_out q
  obtain ⟨s2, c2, q⟩ := need_out q
  have wk : ∀ a, Fr a → Fr a ∨ OwnO v1 o1 a := fun a => .inl
  have I2' := I2.weak wk
  have r1' := r1.after st2 I2
  have r2' := r2.weak wk
  have I2p := r2'.prot I2'
  refine hs Z2 _ As σ e2 H2 v1 v2 s1 s2 _ _ I2p (r1'.cr I2' c1) (r2'.cr I2' c2) q fun v H3 Z3 r3 q st3 I3 R3 => ?_
  obtain ⟨b, eb, p⟩ := need_out q
  clear q
  have eb := isB_eq eb
  subst eb
  cases R3
  refine ⟨b, rfl, ?_⟩
  have wk2 : ∀ a, Fr a → Fr a ∨ OwnO v2 o2 a := fun a => .inl
  cases b with
  | true =>
    have q := p
    rw [if_pos rfl] at q ⊢
    refine ⟨Z3, _, As, e2, I3, mc e2 _ _ (fun o3 e3 q v3 H4 Z4 st4 I4 r4 => ?_) q⟩
    obtain ⟨s2', c2', q⟩ := need_out q
    obtain ⟨s3, c3, q⟩ := need_out q
    have r2'' := r2'.after (st3.trans st4) I4
    have I4' := I4.weak wk2
    have r4' := r4.weak wk2
    exact hs' Z4 Fr As σ e3 H4 v2 v3 s2' s3 _ _ I4' (r2''.cr I4' c2') (r4'.cr I4' c3) q fun v H' Z' r' q st I' R => q v H' Z' ((st1.trans (st2.weak wk)).trans (((st3.trans st4).weak wk2).trans st)) I' R
  | false =>
    have q := p
    rw [if_neg Bool.false_ne_true] at q ⊢
    exact q _ _ _ ((st1.trans (st2.weak wk)).trans (st3.weak wk2)) (I3.weak wk2) (Rp.bl false)
theorem se_chain {a b c : Expr} {op op' : CmpOp} {pos : Pos} {r r' : R2} {G G' : G2} {wa wb wc : DO} (ho : OpR X (compareOp op) r) (ho' : OpR X (compareOp op') r') (hs : Sem2 ⟨X.K, tb⟩ r G) (hs' : Sem2 ⟨X.K, tb⟩ r' G') (hG : MonoG G) (hG' : MonoG G')
    (ha : SO tb X a wa) (hb : SO tb X b wb) (hc : SO tb X c wc) (hm : lastMarks [op, op'] [b, c] = false := by with_unfolding_all rfl) : SE tb X (.Compare a [op, op'] [b, c] pos) (dChain G G' wa wb wc) :=
  ⟨dChain_mono hG hG' ha.mono hb.mono hc.mono, (pe_chain ho ho' ha.pe hb.pe hc.pe hm).imp (chain_lift ha.mono hb.mono hc.mono hs hs')⟩
theorem st_chain {a b c : Expr} {op op' : CmpOp} {pos : Pos} {r r' : R2} {G G' : G2} {wa wb wc : DO} (ho : OpR X (compareOp op) r) (ho' : OpR X (compareOp op') r') (hs : Sem2 ⟨X.K, tb⟩ r G) (hs' : Sem2 ⟨X.K, tb⟩ r' G') (hG : MonoG G) (hG' : MonoG G')
    (ha : SO tb X a wa) (hb : SO tb X b wb) (hc : SO tb X c wc) (hm : lastMarks [op, op'] [b, c] = false := by with_unfolding_all rfl) : ST tb X (.Compare a [op, op'] [b, c] pos) (dTst (dChain G G' wa wb wc)) :=
  have M := dChain_mono hG hG' ha.mono hb.mono hc.mono
  ⟨dTst_mono M, (pt_chain ho ho' ha.pe hb.pe hc.pe hm).imp fun σ H Q q => chain_lift ha.mono hb.mono hc.mono hs hs' σ H _ (tst_lift M σ H Q q)⟩

/-! ### and, or, if as values and tests -/
def dAndV (wa wb : DE) : DE := fun env Q => wa env fun r e => need (isB r) fun b => if b = true then wb e Q else Q (.val (.bool false)) e
def dOrV (wa wb : DE) : DE := fun env Q => wa env fun r e => need (isB r) fun b => if b = true then Q (.val (.bool true)) e else wb e Q
theorem dAndV_mono {wa wb : DE} (ha : Mono wa) (hb : Mono wb) : Mono (dAndV wa wb) := fun env Q Q' k q => ha env _ _ (fun r e q => by
  obtain ⟨b, eb, q⟩ := need_out q
  refine need_in eb ?_
  cases b with
  | true => exact hb e _ _ k q
  | false => exact k _ _ q) q
theorem dOrV_mono {wa wb : DE} (ha : Mono wa) (hb : Mono wb) : Mono (dOrV wa wb) := fun env Q Q' k q => ha env _ _ (fun r e q => by
  obtain ⟨b, eb, q⟩ := need_out q
  refine need_in eb ?_
  cases b with
  | true => exact k _ _ q
  | false => exact hb e _ _ k q) q
theorem se_one {a : Expr} {op} {pos : Pos} {w : DE} (h : SE tb X a w) : SE tb X (.BoolOp op [a] pos) w := ⟨h.mono, pe_one h.pe⟩
theorem se_and {a b : Expr} {rest : List Expr} {pos : Pos} {wa wb : DE} (ha : SE tb X a wa) (hb : SE tb X (.BoolOp .And (b :: rest) pos) wb) : SE tb X (.BoolOp .And (a :: b :: rest) pos) (dAndV wa wb) :=
  ⟨dAndV_mono ha.mono hb.mono, (pe_and ha.pe hb.pe).imp fun σ H Q ⟨Z, Fr, As, env, I, q⟩ => ⟨Z, Fr, As, env, I, ha.mono env _ _ (fun r e q v H1 Z1 st I1 R => by
    obtain ⟨b, eb, p⟩ := need_out q
    clear q
    have eb := isB_eq eb
    subst eb
    cases R
    have q := p
    refine ⟨b, rfl, ?_⟩
    cases b with
    | true => exact ⟨Z1, Fr, As, e, I1, hb.mono e _ _ (fun r e q v H2 Z2 st2 I2 R => q v H2 Z2 (st.trans st2) I2 R) q⟩
    | false => exact q _ H1 Z1 st I1 (Rp.bl false)) q⟩⟩
theorem se_or {a b : Expr} {rest : List Expr} {pos : Pos} {wa wb : DE} (ha : SE tb X a wa) (hb : SE tb X (.BoolOp .Or (b :: rest) pos) wb) : SE tb X (.BoolOp .Or (a :: b :: rest) pos) (dOrV wa wb) :=
  ⟨dOrV_mono ha.mono hb.mono, (pe_or ha.pe hb.pe).imp fun σ H Q ⟨Z, Fr, As, env, I, q⟩ => ⟨Z, Fr, As, env, I, ha.mono env _ _ (fun r e q v H1 Z1 st I1 R => by
    obtain ⟨b, eb, p⟩ := need_out q
    clear q
    have eb := isB_eq eb
    subst eb
    cases R
    have q := p
    refine ⟨b, rfl, ?_⟩
    cases b with
    | true => exact q _ H1 Z1 st I1 (Rp.bl true)
    | false => exact ⟨Z1, Fr, As, e, I1, hb.mono e _ _ (fun r e q v H2 Z2 st2 I2 R => q v H2 Z2 (st.trans st2) I2 R) q⟩) q⟩⟩
def dNotV (w : DE) : DE := fun env Q => w env fun r e => need (isB r) fun b => Q (.val (.bool (!b))) e
theorem se_not {a : Expr} {pos : Pos} {w : DE} (h : SE tb X a w) : SE tb X (.UnaryOp .Not a pos) (dNotV w) :=
  ⟨fun env Q Q' k q => h.mono env _ _ (fun r e q => let ⟨_, eb, q⟩ := need_out q; need_in eb (k _ _ q)) q, (pe_not h.pe).imp fun σ H Q ⟨Z, Fr, As, env, I, q⟩ => ⟨Z, Fr, As, env, I, h.mono env _ _ (fun r e q v H1 Z1 st I1 R => by
    obtain ⟨b, eb, p⟩ := need_out q
    clear q
    have eb := isB_eq eb
    subst eb
    cases R
    have q := p
    exact ⟨b, rfl, q _ H1 Z1 st I1 (Rp.bl _)⟩) q⟩⟩
structure SW (tb : List Addr) (X : Cx) (e : Expr) (w : DT) : Prop where
  mono : Mono w
  pe : PW X e (tT ⟨X.K, tb⟩ w)
theorem _root_.L2.PW.imp {X : Cx} {e : Expr} {t t' : TT} (h : PW X e t) (i : ∀ σ H Q, t' σ H Q → t σ H Q) : PW X e t' := ⟨fun wh pins s σ H Q I q => h.run wh pins s σ H Q I (i σ H Q q)⟩
theorem SW.st {e : Expr} {w : DT} (h : SW tb X e w) : ST tb X e w := ⟨h.mono, h.pe.pt⟩
def dAnd (wa wb : DT) : DT := fun env Q => wa env fun b e => if b = true then wb e Q else Q false e
def dOr (wa wb : DT) : DT := fun env Q => wa env fun b e => if b = true then Q true e else wb e Q
theorem sw_and1 {a : Expr} {pos : Pos} {w : DT} (h : ST tb X a w) : SW tb X (.BoolOp .And [a] pos) w := ⟨h.mono, pw_and1 h.pe⟩
theorem sw_or1 {a : Expr} {pos : Pos} {w : DT} (h : ST tb X a w) : SW tb X (.BoolOp .Or [a] pos) w := ⟨h.mono, pw_or1 h.pe⟩
theorem sw_and {a b : Expr} {rest : List Expr} {pos : Pos} {wa wb : DT} (ha : ST tb X a wa) (hb : SW tb X (.BoolOp .And (b :: rest) pos) wb) : SW tb X (.BoolOp .And (a :: b :: rest) pos) (dAnd wa wb) :=
  ⟨fun env Q Q' k q => ha.mono env _ _ (fun b e q => by
    cases b with
    | true => exact hb.mono e _ _ k q
    | false => exact k _ _ q) q, (pw_and ha.pe hb.pe).imp fun σ H Q ⟨Z, Fr, As, env, I, q⟩ => ⟨Z, Fr, As, env, I, ha.mono env _ _ (fun b e q H1 Z1 st I1 => by
    cases b with
    | true => exact ⟨Z1, Fr, As, e, I1, hb.mono e _ _ (fun r e q H2 Z2 st2 I2 => q H2 Z2 (st.trans st2) I2) q⟩
    | false => exact q H1 Z1 st I1) q⟩⟩
theorem sw_or {a b : Expr} {rest : List Expr} {pos : Pos} {wa wb : DT} (ha : ST tb X a wa) (hb : SW tb X (.BoolOp .Or (b :: rest) pos) wb) : SW tb X (.BoolOp .Or (a :: b :: rest) pos) (dOr wa wb) :=
  ⟨fun env Q Q' k q => ha.mono env _ _ (fun b e q => by
    cases b with
    | true => exact k _ _ q
    | false => exact hb.mono e _ _ k q) q, (pw_or ha.pe hb.pe).imp fun σ H Q ⟨Z, Fr, As, env, I, q⟩ => ⟨Z, Fr, As, env, I, ha.mono env _ _ (fun b e q H1 Z1 st I1 => by
    cases b with
    | true => exact q H1 Z1 st I1
    | false => exact ⟨Z1, Fr, As, e, I1, hb.mono e _ _ (fun r e q H2 Z2 st2 I2 => q H2 Z2 (st.trans st2) I2) q⟩) q⟩⟩
def dIf (w : DT) (wa wb : DE) : DE := fun env Q => w env fun b e => if b = true then wa e Q else wb e Q
theorem se_if {c a b : Expr} {pos : Pos} {w : DT} {wa wb : DE} (hc : ST tb X c w) (ha : SE tb X a wa) (hb : SE tb X b wb) : SE tb X (.IfExp c a b pos) (dIf w wa wb) :=
  ⟨fun env Q Q' k q => hc.mono env _ _ (fun b e q => by
    cases b with
    | true => exact ha.mono e _ _ k q
    | false => exact hb.mono e _ _ k q) q, (pe_ifExp hc.pe ha.pe hb.pe).imp fun σ H Q ⟨Z, Fr, As, env, I, q⟩ => ⟨Z, Fr, As, env, I, hc.mono env _ _ (fun b e q H1 Z1 st I1 => by
    cases b with
    | true => exact ⟨Z1, Fr, As, e, I1, ha.mono e _ _ (fun r e q v H2 Z2 st2 I2 R => q v H2 Z2 (st.trans st2) I2 R) q⟩
    | false => exact ⟨Z1, Fr, As, e, I1, hb.mono e _ _ (fun r e q v H2 Z2 st2 I2 R => q v H2 Z2 (st.trans st2) I2 R) q⟩) q⟩⟩
end
end DV

set_option Elab.async false
set_option linter.all false
set_option maxRecDepth 100000
set_option maxHeartbeats 4000000
namespace DV
open PySem PySem.Spec PyProof.Rows L2

/-! ### statements -/
structure DEnds where
  nx : En → Prop
  rt : Slot → En → Prop
  bk : En → Prop := fun _ => False
  ct : En → Prop := fun _ => False
structure LeE (A B : DEnds) : Prop where
  nx : ∀ e, A.nx e → B.nx e
  rt : ∀ r e, A.rt r e → B.rt r e
  bk : ∀ e, A.bk e → B.bk e
  ct : ∀ e, A.ct e → B.ct e
abbrev DS := En → DEnds → Prop
def MonoS (w : DS) : Prop := ∀ env A B, LeE A B → w env A → w env B
/-- what is wanted behind a statement, from the state (Z, H) on -/
def upE (C : Cfg) (Z Fr : Addr → Prop) (As : Nat → Addr) (H : Hp) (D : Ends) : DEnds where
  nx := fun e => ∀ σ' H' Z', Step Z Fr H Z' H' → EnvR C Z' Fr As σ' H' e → D.nx σ' H'
  rt := fun r e => ∀ v σ' H' Z', Step Z Fr H Z' H' → EnvR C Z' Fr As σ' H' e → ResR C Z' Fr σ' e H' v r → D.rt v H'
  bk := fun e => ∀ σ' H' Z', Step Z Fr H Z' H' → EnvR C Z' Fr As σ' H' e → D.bk σ' H'
  ct := fun e => ∀ σ' H' Z', Step Z Fr H Z' H' → EnvR C Z' Fr As σ' H' e → D.ct σ' H'
theorem upE_le {C : Cfg} {Z Z1 Fr : Addr → Prop} {As : Nat → Addr} {H H1 : Hp} {D : Ends} (st : Step Z Fr H Z1 H1) : LeE (upE C Z Fr As H D) (upE C Z1 Fr As H1 D) :=
  ⟨fun e q σ' H' Z' s I => q σ' H' Z' (st.trans s) I, fun r e q v σ' H' Z' s I R => q v σ' H' Z' (st.trans s) I R, fun e q σ' H' Z' s I => q σ' H' Z' (st.trans s) I, fun e q σ' H' Z' s I => q σ' H' Z' (st.trans s) I⟩
def tS (C : Cfg) (w : DS) : TS := fun D σ H => ∃ Z Fr As env, EnvR C Z Fr As σ H env ∧ w env (upE C Z Fr As H D)
structure SS (tb : List Addr) (X : Cx) (st : Stmt) (w : DS) : Prop where
  mono : MonoS w
  ps : PS X st (tS ⟨X.K, tb⟩ w)
structure SSs (tb : List Addr) (X : Cx) (sts : List Stmt) (w : DS) : Prop where
  mono : MonoS w
  ps : PSs X sts (tS ⟨X.K, tb⟩ w)
theorem _root_.L2.PS.imp {X : Cx} {e : Stmt} {t t' : TS} (h : PS X e t) (i : ∀ D σ H, t' D σ H → t D σ H) : PS X e t' := ⟨fun pins s σ H D I q => h.run pins s σ H D I (i D σ H q)⟩
theorem _root_.L2.PSs.imp {X : Cx} {e : List Stmt} {t t' : TS} (h : PSs X e t) (i : ∀ D σ H, t' D σ H → t D σ H) : PSs X e t' := ⟨fun pins s σ H D I q => h.run pins s σ H D I (i D σ H q)⟩
theorem LeE.refl {A : DEnds} : LeE A A := ⟨fun _ q => q, fun _ _ q => q, fun _ q => q, fun _ q => q⟩

section
variable {tb : List Addr} {X : Cx}
def dNext : DS := fun env D => D.nx env
theorem sss_nil : SSs tb X [] dNext := ⟨fun _ _ _ l q => l.nx _ q, pss_nil.imp fun D σ H ⟨Z, Fr, As, env, I, q⟩ => q σ H Z Step.refl I⟩
def dSeq (w u : DS) : DS := fun env D => w env { D with nx := fun e => u e D }
theorem sss_cons {st : Stmt} {rest : List Stmt} {w u : DS} (h : SS tb X st w) (hs : SSs tb X rest u) : SSs tb X (st :: rest) (dSeq w u) :=
  ⟨fun env A B l q => h.mono env { A with nx := fun e => u e A } { B with nx := fun e => u e B } ⟨fun e q => hs.mono e _ _ l q, l.rt, l.bk, l.ct⟩ q, (pss_cons h.ps hs.ps).imp fun D σ H ⟨Z, Fr, As, env, I, q⟩ =>
    ⟨Z, Fr, As, env, I, h.mono env { upE ⟨X.K, tb⟩ Z Fr As H D with nx := fun e => u e (upE ⟨X.K, tb⟩ Z Fr As H D) } _ ⟨fun e q σ' H' Z' st I' => ⟨Z', Fr, As, e, I', hs.mono e _ _ (upE_le st) q⟩, fun _ _ q => q, fun _ q => q, fun _ q => q⟩ q⟩⟩
theorem sss_one {st : Stmt} {w : DS} (h : SS tb X st w) : SSs tb X [st] w := ⟨h.mono, pss_one h.ps⟩
def dNever : DS := fun _ _ => False
theorem ss_never {st : Stmt} : SS tb X st dNever := ⟨fun _ _ _ _ q => q, ps_never.imp fun _ _ _ ⟨_, _, _, _, _, q⟩ => q⟩
theorem sss_never {sts : List Stmt} : SSs tb X sts dNever := ⟨fun _ _ _ _ q => q, pss_never.imp fun _ _ _ ⟨_, _, _, _, _, q⟩ => q⟩
def dNevE : DE := fun _ _ => False
/-- an expression that is never reached -/
theorem se_never {e : Expr} : SE tb X e dNevE := ⟨fun _ _ _ _ q => q, ⟨fun _ _ _ _ _ _ ⟨_, _, _, _, _, q⟩ => q.elim⟩⟩
theorem ss_pass {pos : Pos} : SS tb X (.Pass pos) dNext := ⟨fun _ _ _ l q => l.nx _ q, ps_pass.imp fun D σ H ⟨Z, Fr, As, env, I, q⟩ => q σ H Z Step.refl I⟩
def dBreak : DS := fun env D => D.bk env
theorem ss_break {pos : Pos} : SS tb X (.Break pos) dBreak := ⟨fun _ _ _ l q => l.bk _ q, ps_break.imp fun D σ H ⟨Z, Fr, As, env, I, q⟩ => q σ H Z Step.refl I⟩
def dCont : DS := fun env D => D.ct env
theorem ss_cont {pos : Pos} : SS tb X (.Continue pos) dCont := ⟨fun _ _ _ l q => l.ct _ q, ps_continue.imp fun D σ H ⟨Z, Fr, As, env, I, q⟩ => q σ H Z Step.refl I⟩
theorem ss_doc {x j pos pos'} : SS tb X (.Expr (.Constant (.str x) j pos) pos') dNext := ⟨fun _ _ _ l q => l.nx _ q, ps_doc.imp fun D σ H ⟨Z, Fr, As, env, I, q⟩ => q σ H Z Step.refl I⟩
def dExp (w : DE) : DS := fun env D => w env fun _ e => D.nx e
theorem ss_expr {e : Expr} {pos : Pos} {w : DE} (h : SE tb X e w) (hs : swapsWith e none pos.line X.env = pure false := by rfl) : SS tb X (.Expr e pos) (dExp w) :=
  ⟨fun env A B l q => h.mono env _ _ (fun _ _ => l.nx _) q, (ps_expr h.pe hs).imp fun D σ H ⟨Z, Fr, As, env, I, q⟩ => ⟨Z, Fr, As, env, I, h.mono env _ _ (fun r e q v H' Z' st I' R => q σ H' Z' st I') q⟩⟩
def dRet (w : DE) : DS := fun env D => w env fun r e => D.rt r e
theorem ss_ret {e : Expr} {pos : Pos} {w : DE} (h : SE tb X e w) : SS tb X (.Return (some e) pos) (dRet w) :=
  ⟨fun env A B l q => h.mono env _ _ (fun _ _ => l.rt _ _) q, (ps_ret h.pe).imp fun D σ H ⟨Z, Fr, As, env, I, q⟩ => ⟨Z, Fr, As, env, I, h.mono env _ _ (fun r e q v H' Z' st I' R => q v σ H' Z' st I' R) q⟩⟩
def dRetN : DS := fun env D => D.rt (.val .none) env
theorem ss_retN {pos : Pos} : SS tb X (.Return none pos) dRetN := ⟨fun _ _ _ l q => l.rt _ _ q, ps_retN.imp fun D σ H ⟨Z, Fr, As, env, I, q⟩ => q _ σ H Z Step.refl I Rp.non⟩
def dIfS (w : DT) (a b : DS) : DS := fun env D => w env fun c e => if c = true then a e D else b e D
theorem ss_if {c : Expr} {a b : List Stmt} {pos : Pos} {w : DT} {wa wb : DS} (hc : ST tb X c w) (ha : SSs tb X a wa) (hb : SSs tb X b wb) : SS tb X (.If c a b pos) (dIfS w wa wb) :=
  ⟨fun env A B l q => hc.mono env _ _ (fun c e q => by
    cases c with
    | true => exact ha.mono e _ _ l q
    | false => exact hb.mono e _ _ l q) q, (ps_if hc.pe ha.ps hb.ps).imp fun D σ H ⟨Z, Fr, As, env, I, q⟩ => ⟨Z, Fr, As, env, I, hc.mono env _ _ (fun c e q H' Z' st I' => by
    cases c with
    | true => exact ⟨Z', Fr, As, e, I', ha.mono e _ _ (upE_le st) q⟩
    | false => exact ⟨Z', Fr, As, e, I', hb.mono e _ _ (upE_le st) q⟩) q⟩⟩

/-! ### targets -/
abbrev DG := Slot → En → (En → Prop) → Prop
def MonoT (g : DG) : Prop := ∀ r env Q Q', (∀ e, Q e → Q' e) → g r env Q → g r env Q'
def tG (C : Cfg) (g : DG) : TG := fun v σ H Q => ∃ Z Fr As env r, EnvR C Z Fr As σ H env ∧ ResR C Z Fr σ env H v r ∧ g r env fun e => ∀ σ' H' Z', Step Z Fr H Z' H' → EnvR C Z' Fr As σ' H' e → Q σ' H'
structure SG (tb : List Addr) (X : Cx) (e : Expr) (g : DG) : Prop where
  mono : MonoT g
  pg : PG X e (tG ⟨X.K, tb⟩ g)
theorem _root_.L2.PG.imp {X : Cx} {e : Expr} {t t' : TG} (h : PG X e t) (i : ∀ v σ H Q, t' v σ H Q → t v σ H Q) : PG X e t' := ⟨fun pins s σ H v u Q I r q => h.run pins s σ H v u Q I r (i v σ H Q q)⟩
def gNm (i : Nat) : DG := fun r env Q => Q (env.set i (some r))
theorem sg_name (i : Nat) {x : Str} {pos : Pos} (hN : X.N.Nodup) (hi : X.N[i]? = some x := by rfl) (hx : Loc X.env.scope x := by first | exact Or.inl rfl | exact Or.inr rfl) (hf : X.fn x = true ∨ X.env.scope.names.lookup x = some .local := by first | exact .inl rfl | exact .inr rfl) : SG tb X (.Name x pos) (gNm i) :=
  ⟨fun _ _ _ _ k q => k _ q, (pg_name hN hi hx hf).imp fun v σ H Q ⟨Z, Fr, As, env, r, I, R, q⟩ => q _ H Z Step.refl (I.setRes R)⟩
abbrev DGs := List D → En → (En → Prop) → Prop
def MonoTs (g : DGs) : Prop := ∀ r env Q Q', (∀ e, Q e → Q' e) → g r env Q → g r env Q'
def tGs (C : Cfg) (g : DGs) : TGs := fun vs σ H Q => ∃ Z Fr As env ds, EnvR C Z Fr As σ H env ∧ Rps C.K Z H vs ds ∧ g ds env fun e => ∀ σ' H' Z', Step Z Fr H Z' H' → EnvR C Z' Fr As σ' H' e → Q σ' H'
structure SGs (tb : List Addr) (X : Cx) (es : List Expr) (g : DGs) : Prop where
  mono : MonoTs g
  pg : PGs X es (tGs ⟨X.K, tb⟩ g)
theorem _root_.L2.PGs.imp {X : Cx} {e : List Expr} {t t' : TGs} (h : PGs X e t) (i : ∀ v σ H Q, t' v σ H Q → t v σ H Q) : PGs X e t' := ⟨fun pins s σ H v u Q I r q => h.run pins s σ H v u Q I r (i v σ H Q q)⟩
def gNil' : DGs := fun ds env Q => match ds with
  | [] => Q env
  | _ => False
def gCons' (g : DG) (gs : DGs) : DGs := fun ds env Q => match ds with
  | d :: ds => g (.val d) env fun e => gs ds e Q
  | [] => False
theorem sgs_nil : SGs tb X [] gNil' := ⟨fun ds _ _ _ k q => by
    cases ds with
    | nil => exact k _ q
    | cons _ _ => exact q, pgs_nil.imp fun vs σ H Q ⟨Z, Fr, As, env, ds, I, R, q⟩ => by
    cases R with
    | nil => exact ⟨rfl, q σ H Z Step.refl I⟩
    | cons _ _ => exact q.elim⟩
theorem sgs_cons {e : Expr} {es : List Expr} {g : DG} {gs : DGs} (h : SG tb X e g) (hs : SGs tb X es gs) (ha : (assignEach (e :: es) X.env).map (·.2) = assign e X.env :: (assignEach es X.env).map (·.2) := by rfl) : SGs tb X (e :: es) (gCons' g gs) :=
  ⟨fun ds env Q Q' k q => by
    cases ds with
    | nil => exact q
    | cons d ds => exact h.mono _ env _ _ (fun e q => hs.mono _ e _ _ k q) q, (pgs_cons h.pg hs.pg ha).imp fun vs σ H Q ⟨Z, Fr, As, env, ds, I, R, q⟩ => by
    cases R with
    | nil => exact q.elim
    | cons r rs =>
      exact ⟨_, _, rfl, Z, Fr, As, env, .val _, I, r, h.mono _ env _ _ (fun e q σ' H' Z' st I' => ⟨Z', Fr, As, e, _, I', rs.step st, hs.mono _ e _ _ (fun e q σ2 H2 Z2 st2 I2 => q σ2 H2 Z2 (st.trans st2) I2) q⟩) q⟩⟩
def tuO : Slot → Option (List D)
  | .val (.tuple ds) => some ds
  | _ => none
def gTp (n : Nat) (gs : DGs) : DG := fun r env Q => need (tuO r) fun ds => ds.length = n ∧ gs ds env Q
theorem sg_tup {es : List Expr} {k : Nat} {pos : Pos} {gs : DGs} {n : Nat} (hc : X.calm = true) (h : SGs tb X es gs) (hn : (assignEach es X.env).length = n := by rfl) (hst : (assignEach es X.env).findIdx? (·.1) = none := by rfl) : SG tb X (.Tuple es k pos) (gTp n gs) :=
  ⟨fun r env Q Q' k q => let ⟨_, e, l, q⟩ := need_out q; need_in e ⟨l, h.mono _ env _ _ k q⟩, (pg_tup hc h.pg hn hst).imp fun v σ H Q ⟨Z, Fr, As, env, r, I, R, q⟩ => by
    obtain ⟨ds, e, l, p⟩ := need_out q
    clear q
    unfold tuO at e
    split at e
    · cases e
      cases R with
      | tup hq rs => exact ⟨_, _, rfl, sqT hq, by rw [rs.length]; exact l, Z, Fr, As, env, _, I, rs, p⟩
    · cases e⟩

/-! ### assignments -/
def dAsg (w : DE) (g : DG) : DS := fun env D => w env fun r e => g r e D.nx
theorem dAsg_mono {w : DE} {g : DG} (mw : Mono w) (mg : MonoT g) : MonoS (dAsg w g) := fun env A B l q => mw env _ _ (fun r e q => mg r e _ _ l.nx q) q
theorem asg_lift {C : Cfg} {w : DE} {g : DG} (mw : Mono w) (mg : MonoT g) : ∀ D σ H, tS C (dAsg w g) D σ H → tAsg (tE C w) (tG C g) D σ H := fun D σ H ⟨Z, Fr, As, env, I, q⟩ =>
  ⟨Z, Fr, As, env, I, mw env _ _ (fun r e q v H' Z' st I' R => ⟨Z', Fr, As, e, r, I', R, mg r e _ _ (fun e q σ2 H2 Z2 st2 I2 => q σ2 H2 Z2 (st.trans st2) I2) q⟩) q⟩
theorem ss_asg {tg e : Expr} {pos : Pos} {w : DE} {g : DG} (he : SE tb X e w) (hg : SG tb X tg g) (hs : swapsWithSole [tg] e pos.line X.env = pure false := by rfl) (hw : swappedStores [tg] e X.env = pure none := by rfl)
    (h1 : (assignEach [tg] X.env).map (·.2) = [assign tg X.env] := by rfl) : SS tb X (.Assign [tg] e pos) (dAsg w g) :=
  ⟨dAsg_mono he.mono hg.mono, (ps_asg he.pe hg.pg hs hw h1).imp (asg_lift he.mono hg.mono)⟩
theorem ss_set (i : Nat) {x : Str} {e : Expr} {pos pos' : Pos} {w : DE} (hN : X.N.Nodup) (he : SE tb X e w) (hi : X.N[i]? = some x := by rfl) (hx : Loc X.env.scope x := by first | exact Or.inl rfl | exact Or.inr rfl) (hs : swapsWith e (some (.Name x pos')) pos.line X.env = pure false := by rfl)
    (hf : X.fn x = true ∨ X.env.scope.names.lookup x = some .local := by first | exact .inl rfl | exact .inr rfl) : SS tb X (.Assign [.Name x pos'] e pos) (dAsg w (gNm i)) :=
  ⟨dAsg_mono he.mono fun _ _ _ _ k q => k _ q, (ps_set hN hi hx he.pe hs hf).imp fun D σ H q => by
    obtain ⟨Z, Fr, As, env, I, q⟩ := q
    exact ⟨Z, Fr, As, env, I, he.mono env _ _ (fun r e q v H' Z' st I' R => q _ _ _ st (I'.setRes R)) q⟩⟩
/-! operands -/
def dONil : DOs := fun env Q => Q [] env
def dOCons (w : DO) (ws : DOs) : DOs := fun env Q => w env fun o e1 => ws e1 fun os e2 => Q (o :: os) e2
theorem sos_nil : SOs tb X [] dONil := ⟨fun _ _ _ h q => h _ _ q, pa_nil.imp fun σ H Q ⟨Z, Fr, As, env, I, h⟩ => h _ _ _ Step.refl I True.intro⟩
theorem sos_cons {e : Expr} {es : List Expr} {w : DO} {ws : DOs} (h : SO tb X e w) (hs : SOs tb X es ws) (hst : starEach (e :: es) X.env = (false, eval e X.env) :: starEach es X.env := by rfl) : SOs tb X (e :: es) (dOCons w ws) :=
  ⟨fun env Q Q' k q => h.mono env _ _ (fun _ e1 q => hs.mono e1 _ _ (fun _ _ => k _ _) q) q, (pa_cons h.pe hs.pe hst).imp fun σ H Q ⟨Z, Fr, As, env, I, q⟩ => by
    refine ⟨Z, Fr, As, env, I, h.mono env _ _ (fun o e1 q v H1 Z1 st1 I1 r1 => ?_) q⟩
    refine ⟨Z1, _, As, e1, r1.prot I1, hs.mono e1 _ _ (fun os e2 q vs H2 Z2 st2 I2 r2 => ?_) q⟩
    have wk : ∀ a, Fr a → Fr a ∨ OwnO v o a := fun a => .inl
    exact q _ _ _ (st1.trans (st2.weak wk)) (I2.weak wk) ⟨r1.after st2 I2, r2⟩⟩
/-- a, b = e1, e2 -/
def dPar (i j : Nat) (ws : DOs) : DS := fun env D => ws env fun os e => match os with
  | [.res r1, .res r2] => D.nx ((e.set i (some r1)).set j (some r2))
  | _ => False
theorem dPar_mono {i j : Nat} {ws : DOs} (m : Mono ws) : MonoS (dPar i j ws) := fun env A B l q => m env _ _ (fun os e q => by
  revert q
  split
  · exact l.nx _
  · exact id) q
theorem ResR.setOther {C : Cfg} {Z Fr : Addr → Prop} {σ : L2.St} {H : Hp} {env : En} {i : Nat} {v1 v2 : V} {r1 r2 : Slot} (h : ResR C Z (fun a => Fr a ∨ Own1 v1 r1 a) σ env H v2 r2) : ResR C Z Fr (σ.set i (some v1)) (env.set i (some r1)) H v2 r2 := by
  cases r2 with
  | val d => exact h
  | scr ns => exact h
  | own t m =>
    obtain ⟨e, a, rfl, q, z, f, no⟩ := h
    refine ⟨e, a, rfl, q, z, fun y => f (.inl y), fun k hk => ?_⟩
    rcases hk.of_set with ⟨_, e1, t1, m1, e2⟩ | ⟨_, hk⟩
    · cases e1
      cases e2
      exact f (.inr ⟨rfl, t1, m1, rfl⟩)
    · exact no k hk
theorem par_env {C : Cfg} {Z Fr : Addr → Prop} {As : Nat → Addr} {σ : L2.St} {H : Hp} {env : En} {i j : Nat} {v1 v2 : V} {r1 r2 : Slot} (I : EnvR C Z Fr As σ H env) (h : OpdRs C Z σ env H Fr [v1, v2] [.res r1, .res r2]) :
    EnvR C Z Fr As ((σ.set i (some v1)).set j (some v2)) H ((env.set i (some r1)).set j (some r2)) := (I.setRes h.1).setRes (ResR.setOther h.2.1)
theorem ss_par (i j : Nat) {x y : Str} {a b : Expr} {px py pt pos : Pos} {kt k2 pt2} {ws : DOs} (hc : X.calm = true) (hN : X.N.Nodup) (ha : SOs tb X [a, b] ws) (hi : X.N[i]? = some x := by rfl) (hj : X.N[j]? = some y := by rfl) (hij : i ≠ j := by decide)
    (hx : X.env.scope.names.lookup x = some .local := by rfl) (hy : X.env.scope.names.lookup y = some .local := by rfl)
    (hw : swappedStores [.Tuple [.Name x px, .Name y py] kt pt] (.Tuple [a, b] k2 pt2) X.env = pure (some [x, y]) := by rfl)
    (hs : swapsWithSole [.Tuple [.Name x px, .Name y py] kt pt] (.Tuple [a, b] k2 pt2) pos.line X.env = pure false := by rfl) :
    SS tb X (.Assign [.Tuple [.Name x px, .Name y py] kt pt] (.Tuple [a, b] k2 pt2) pos) (dPar i j ws) :=
  ⟨dPar_mono ha.mono, (ps_par hc hN hi hj hij hx hy ha.pe hw hs).imp fun D σ H ⟨Z, Fr, As, env, I, q⟩ => ⟨Z, Fr, As, env, I, ha.mono env _ _ (fun os e q vs H' Z' st I' R => by
    revert q
    split
    · intro q
      match vs, R with
      | [v1, v2], R => exact ⟨v1, v2, rfl, q _ _ _ st (par_env I' R)⟩
    · exact fun q => q.elim) q⟩⟩
/-- the same by a pair -/
theorem ss_parT (i j : Nat) {x y : Str} {a b : Expr} {px py pt pos : Pos} {kt k2 pt2} {ws : DOs} (hc : X.calm = true) (hN : X.N.Nodup) (ha : SOs tb X [a, b] ws) (hi : X.N[i]? = some x := by rfl) (hj : X.N[j]? = some y := by rfl)
    (hx : Loc X.env.scope x := by first | exact Or.inl rfl | exact Or.inr rfl) (hy : Loc X.env.scope y := by first | exact Or.inl rfl | exact Or.inr rfl)
    (hfx : X.fn x = true ∨ X.env.scope.names.lookup x = some .local := by first | exact .inl rfl | exact .inr rfl) (hfy : X.fn y = true ∨ X.env.scope.names.lookup y = some .local := by first | exact .inl rfl | exact .inr rfl)
    (hw : swappedStores [.Tuple [.Name x px, .Name y py] kt pt] (.Tuple [a, b] k2 pt2) X.env = pure none := by rfl)
    (hs : swapsWithSole [.Tuple [.Name x px, .Name y py] kt pt] (.Tuple [a, b] k2 pt2) pos.line X.env = pure false := by rfl)
    (h1 : (assignEach [Expr.Tuple [.Name x px, .Name y py] kt pt] X.env).map (·.2) = [assign (Expr.Tuple [.Name x px, .Name y py] kt pt) X.env] := by rfl)
    (hn : (assignEach [Expr.Name x px, .Name y py] X.env).length = 2 := by rfl) (hst : (assignEach [Expr.Name x px, .Name y py] X.env).findIdx? (·.1) = none := by rfl)
    (g1 : (assignEach [Expr.Name x px, .Name y py] X.env).map (·.2) = assign (.Name x px) X.env :: (assignEach [Expr.Name y py] X.env).map (·.2) := by rfl)
    (g2 : (assignEach [Expr.Name y py] X.env).map (·.2) = assign (.Name y py) X.env :: (assignEach [] X.env).map (·.2) := by rfl) :
    SS tb X (.Assign [.Tuple [.Name x px, .Name y py] kt pt] (.Tuple [a, b] k2 pt2) pos) (dPar i j ws) :=
  ⟨dPar_mono ha.mono, (ps_asg (pe_tup ha.pe) (pg_tup hc (pgs_cons (pg_name hN hi hx hfx) (pgs_cons (pg_name hN hj hy hfy) pgs_nil g2) g1) hn hst) hs hw h1).imp fun D σ H ⟨Z, Fr, As, env, I, q⟩ => ⟨Z, Fr, As, env, I, ha.mono env _ _ (fun os e q vs H' Z' st I' R => by
    revert q
    split
    · intro q
      match vs, R with
      | [v1, v2], R =>
        refine ⟨by show 2 ≤ sizeLine; decide, fun p np => ⟨p, _, rfl, .inl (.inl upd_same), rfl, v1, [v2], rfl, v2, [], rfl, rfl, q _ _ _ (st.trans (Step.new I'.ok np)) ?_⟩⟩
        exact (par_env I' R).new np
    · exact fun q => q.elim) q⟩⟩
/-! x[i] = e -/
def ixS : Slot → Option Int
  | .val (.int k) => some k
  | _ => none
def putS (x s : Slot) (d : D) (R : Slot → Prop) : Prop := match x with
  | .own t (.lst ds) => need (ixS s) fun k => need (ixN ds.length k) fun j => R (.own t (.lst (ds.set j d)))
  | .own t (.dK kvs) => need (kyS s) fun k => kvs.length < sizeLine ∧ R (.own t (.dK (putD kvs k d)))
  | .own t (.dT kvs) => need (ksS s) fun k => kvs.length < sizeLine ∧ R (.own t (.dT (putD kvs k d)))
  | .val _ => False
  | .scr _ => False
theorem putS_mono {x s : Slot} {d : D} {R R' : Slot → Prop} (k : ∀ r, R r → R' r) : putS x s d R → putS x s d R' := by
  unfold putS
  split
  · intro q
    obtain ⟨i, e, q⟩ := need_out q
    obtain ⟨j, e2, q⟩ := need_out q
    exact need_in e (need_in e2 (k _ q))
  · intro q
    obtain ⟨i, e, l, q⟩ := need_out q
    exact need_in e ⟨l, k _ q⟩
  · intro q
    obtain ⟨i, e, l, q⟩ := need_out q
    exact need_in e ⟨l, k _ q⟩
  · exact id
  · exact id
def dSetIx (i : Nat) (wi : DO) (we : DV) : DS := fun env D => we env fun d e1 => need (sl e1 i) fun _ => wi e1 fun o e2 => need (con e2 o) fun s => need (sl e2 i) fun x => putS x s d fun r => D.nx (e2.set i (some r))
theorem dSetIx_mono {i : Nat} {wi : DO} {we : DV} (mi : Mono wi) (me : Mono we) : MonoS (dSetIx i wi we) := fun env A B l q => me env _ _ (fun d e1 q => by
  obtain ⟨s0, c0, q⟩ := need_out q
  refine need_in c0 (mi e1 _ _ (fun o e2 q => ?_) q)
  obtain ⟨s, c, q⟩ := need_out q
  obtain ⟨x, cx, q⟩ := need_out q
  exact need_in c (need_in cx (putS_mono (fun _ => l.nx _) q))) q
theorem _root_.L2.PSet.or {X : Cx} {t t' : TSet} (h : PSet X t) (h' : PSet X t') : PSet X fun o i v H Q => t o i v H Q ∨ t' o i v H Q := fun pins s σ H o i v ov iv u Q I ro ri rv q =>
  q.elim (h pins s σ H o i v ov iv u Q I ro ri rv) (h' pins s σ H o i v ov iv u Q I ro ri rv)
/-- a store into what variable i owns -/
theorem putS_ok {C : Cfg} {Z Fr : Addr → Prop} {As : Nat → Addr} {σ : L2.St} {H : Hp} {env : En} {i : Nat} {x s : Slot} {d : D} {u0 v2 v : V} {R : Slot → Prop} {Q : Hp → Prop} (I : EnvR C Z Fr As σ H env) (cx : sl env i = some x) (h0 : σ[i]? = some (some u0)) (cr : CR C Z H v2 s) (r : Rp C.K Z H v d)
    (q : putS x s d R) (k : ∀ r' H', R r' → Step Z Fr H Z H' → EnvR C Z Fr As σ H' (env.set i (some r')) → Q H') : rSetL u0 v2 v H Q ∨ rSetD u0 v2 v H Q := by
  have e' := sl_at cx
  unfold putS at q
  split at q
  · obtain ⟨n, en, q1⟩ := need_out q
    obtain ⟨j, ej, q2⟩ := need_out q1
    obtain ⟨a, g1, ⟨vs, g2, g3⟩, _⟩ := I.atOwn e'
    rw [h0] at g1
    cases g1
    have es : s = .val (.int n) := by
      unfold ixS at en
      split at en
      · cases en; rfl
      · cases en
    subst es
    cases cr
    obtain ⟨I3, st3⟩ := I.mutate (m' := .lst _) e' h0 (o := .lst (vs.set j v)) fun st e => ⟨_, e, Rps.setAt (r.step st) j (g3.step st)⟩
    exact .inl ⟨a, vs, _, j, rfl, rfl, g2, by rw [g3.length]; exact ej, k _ _ q2 st3 I3⟩
  · obtain ⟨n, en, l, q⟩ := need_out q
    obtain ⟨a, g1, ⟨vs, g2, g3⟩, _⟩ := I.atOwn e'
    rw [h0] at g1
    cases g1
    rw [cr.key en]
    obtain ⟨I3, st3⟩ := I.mutate (m' := .dK _) e' h0 (o := .dK (putK vs n v)) fun st e => ⟨_, e, (g3.step st).put n (r.step st)⟩
    exact .inr ⟨a, _, rfl, DPut.k g2 (by rw [g3.len]; exact l), k _ _ q st3 I3⟩
  · obtain ⟨n, en, l, q⟩ := need_out q
    obtain ⟨a, g1, ⟨vs, g2, g3⟩, _⟩ := I.atOwn e'
    rw [h0] at g1
    cases g1
    obtain ⟨b, rfl, hb⟩ := cr.keyT en
    obtain ⟨I3, st3⟩ := I.mutate (m' := .dT _) e' h0 (o := .dT (putK vs n v)) fun st e => ⟨_, e, (g3.step st).put n (r.step st)⟩
    exact .inr ⟨a, _, rfl, DPut.t g2 hb (by rw [g3.len]; exact l), k _ _ q st3 I3⟩
  · exact q.elim
  · exact q.elim
theorem ss_setIx (i : Nat) {x : Str} {px : Pos} {b e : Expr} {pos pos' : Pos} {wi : DO} {we : DV} (hu : X.A.units + 1 < cLine) (he : SV tb X e we) (hb : SO tb X b wi) (hi : X.N[i]? = some x := by rfl) (hv : Vis X.env.scope x := by first | exact Or.inl rfl | exact Or.inr (Or.inl rfl) | exact Or.inr (Or.inr rfl))
    (ha : ∀ v, assign (.Subscript (.Name x px) b pos') X.env v = (do
      let ov ← holding [v] (eval (.Name x px) X.env)
      let iv ← holding [v, ov] (eval b X.env)
      standAt pos'
      holding [v, ov, iv] (setItem ov iv v)
      release [v, ov, iv] []) := by intro _; rfl)
    (hd : (x == ("__debug__" : Str)) = false := by decide) (hcd : (x == ("__classdict__" : Str)) = false := by decide)
    (hs : swapsWithSole [.Subscript (.Name x px) b pos'] e pos.line X.env = pure false := by rfl) (hw : swappedStores [.Subscript (.Name x px) b pos'] e X.env = pure none := by rfl)
    (h1 : (assignEach [Expr.Subscript (.Name x px) b pos'] X.env).map (·.2) = [assign (.Subscript (.Name x px) b pos') X.env] := by rfl) :
    SS tb X (.Assign [.Subscript (.Name x px) b pos'] e pos) (dSetIx i wi we) :=
  ⟨dSetIx_mono hb.mono he.mono, (ps_asg he.pe (pg_sub (pe_var hi hv hd hcd) hb.pe (set_list.or (set_dict hu)) ha) hs hw h1).imp fun D σ H ⟨Z, Fr, As, env, I, q⟩ => ⟨Z, Fr, As, env, I, he.mono env _ _ (fun d e1 q v H1 Z1 st1 I1 r1 => by
    obtain ⟨s0, c0, q⟩ := need_out q
    obtain ⟨w0, h0, hw0⟩ := I1.at (sl_at c0)
    have hex : ∃ u, w0 = some u := by
      cases s0 with
      | val d => obtain ⟨u, e, _⟩ := hw0; exact ⟨u, e⟩
      | own t m => obtain ⟨a, e, _⟩ := hw0; exact ⟨_, e⟩
      | scr ns => obtain ⟨a, e, _⟩ := hw0; exact ⟨_, e⟩
    obtain ⟨u0, rfl⟩ := hex
    refine ⟨u0, h0, Z1, Fr, As, e1, I1, hb.mono e1 _ _ (fun o e2 q v2 H2 Z2 st2 I2 r2 => ?_) q⟩
    obtain ⟨s, c, q⟩ := need_out q
    obtain ⟨x', cx, q⟩ := need_out q
    exact putS_ok I2 cx h0 (r2.cr I2 c) (r1.step st2) q fun r' H' q st I' => q _ _ _ ((st1.trans st2).trans st) I') q⟩⟩
/-! x += e -/
def dAugI (i : Nat) (wb : DO) (G : G2) : DS := fun env D => need (sl env i) fun s1 => wb env fun o e => need (con e o) fun s2 => match s1 with
  | .val d => G (.val d) s2 fun r => D.nx (e.set i (some r))
  | _ => False
theorem dAugI_mono {i : Nat} {wb : DO} {G : G2} (mb : Mono wb) (mG : MonoG G) : MonoS (dAugI i wb G) := fun env A B l q => by
  obtain ⟨s1, c1, q⟩ := need_out q
  refine need_in c1 (mb env _ _ (fun o e q => ?_) q)
  obtain ⟨s2, c2, q⟩ := need_out q
  refine need_in c2 ?_
  revert q
  split
  · exact mG _ _ _ _ fun _ => l.nx _
  · exact id
theorem ss_augI (i : Nat) {x : Str} {e : Expr} {pos pos' : Pos} {op : Operator} {r : R2} {G : G2} {wb : DO} (hN : X.N.Nodup) (ho : PIp X op r) (hsem : Sem2 ⟨X.K, tb⟩ r G) (mG : MonoG G) (he : SO tb X e wb) (hi : X.N[i]? = some x := by rfl) (hx : Loc X.env.scope x := by first | exact Or.inl rfl | exact Or.inr rfl)
    (hf : X.fn x = true ∨ X.env.scope.names.lookup x = some .local := by first | exact .inl rfl | exact .inr rfl) : SS tb X (.AugAssign (.Name x pos') op e pos) (dAugI i wb G) :=
  ⟨dAugI_mono he.mono mG, (ps_aug hN hi hx he.pe ho hf).imp fun D σ H ⟨Z, Fr, As, env, I, q⟩ => by
    obtain ⟨s1, c1, q⟩ := need_out q
    rcases s1 with d | ⟨t, m⟩ | ns
    · obtain ⟨v, h1, r1⟩ := I.atVal (sl_at c1)
      refine ⟨v, h1, Z, Fr, As, env, I, he.mono env _ _ (fun o e q v2 H2 Z2 st2 I2 r2 => ?_) q⟩
      obtain ⟨s2, c2, q⟩ := need_out q
      exact hsem Z2 Fr As σ e H2 v v2 (.val d) s2 _ _ I2 (r1.step st2) (r2.cr I2 c2) q fun v3 H3 Z3 r3 q st3 I3 R3 => q _ _ _ (st2.trans st3) (I3.setRes R3)
    · obtain ⟨a, h1, _⟩ := I.atOwn (sl_at c1)
      refine ⟨_, h1, Z, Fr, As, env, I, he.mono env _ _ (fun o e q v2 H2 Z2 st2 I2 r2 => ?_) q⟩
      obtain ⟨s2, c2, q⟩ := need_out q
      exact q.elim
    · obtain ⟨w, h1, a, rfl, _⟩ := I.at (sl_at c1)
      refine ⟨_, h1, Z, Fr, As, env, I, he.mono env _ _ (fun o e q v2 H2 Z2 st2 I2 r2 => ?_) q⟩
      obtain ⟨s2, c2, q⟩ := need_out q
      exact q.elim⟩
end
end DV

set_option Elab.async false
set_option linter.all false
set_option maxRecDepth 100000
set_option maxHeartbeats 4000000
namespace DV
open PySem PySem.Spec PyProof.Rows L2

/-! ### defs -/
/-- what a def does: its arguments, what follows (its value, the arguments behind it), what follows an error (its class) -/
abbrev FS := List Slot → (Slot → List Slot → Prop) → (Value → Prop) → Prop
def envA (args : List Slot) : En := args.map some
abbrev A0 : Nat → Addr := fun _ => 0
def spOf (C : Cfg) (fs : FS) : Sp := fun vs H Q E => ∃ Z Fr args, EnvR C Z Fr A0 (vs.map some) H (envA args) ∧ (∀ s ∈ args, ∀ t m, s = Slot.own t m → t = none) ∧
  fs args (fun r args' => ∀ v H' Z', Step Z Fr H Z' H' → EnvR C Z' Fr A0 (vs.map some) H' (envA args') → ResR C Z' Fr (vs.map some) (envA args') H' v r → Q v H')
    (fun cls => ∀ d H' Z', Step Z Fr H Z' H' → EnvR C Z' Fr A0 (vs.map some) H' (envA args) → E cls d H')
structure RoomG (k : Nat) (A : Around) : Prop where
  room : Room k A
  gd : A.guards = some []
theorem RoomG.mono {j k : Nat} {A : Around} (r : RoomG k A) (h : j ≤ k) : RoomG j A := ⟨r.room.mono h, r.gd⟩
structure FnG (P : Program) (w : World) (K : Frag) (mg : Str → Option Value) (base : Heap) (CX : CXT) (tb : List Addr) (k : Nat) (f : Addr) (fd : FuncData) (ps : List Str) (fs : FS) : Prop where
  mono : ∀ args Q Q' X X', (∀ r a, Q r a → Q' r a) → (∀ c, X c → X' c) → fs args Q X → fs args Q' X'
  len : ∀ args Q X, fs args Q X → args.length = ps.length
  run : ∀ (A : Around) (outer : List Env) (s : Shared) (H : Hp) (args : Args) (us : List Value) (vs : List V) (Q : VK) (E : XK), RoomG k A → Env0 P w K mg base A outer s H → BindsTo s fd args (ps.zip us) → Vals vs us → spOf ⟨K, tb⟩ fs vs H Q E →
    codeAny (model P w) A (.call (.ref f) args) (L2.CR CX outer P w H s Q E) s
section
variable {P : Program} {w : World} {K : Frag} {mg : Str → Option Value} {base : Heap} {CX : CXT} {tb : List Addr} {f : Addr} {fd : FuncData} {ps : List Str}
theorem FnG.at {j k : Nat} {fs : FS} (F : FnG P w K mg base CX tb j f fd ps fs) (h : j ≤ k) : FnG P w K mg base CX tb k f fd ps fs := ⟨F.mono, F.len, fun A outer s H args us vs Q E hr => F.run A outer s H args us vs Q E (hr.mono h)⟩
theorem FnG.imp {k : Nat} {fs fs' : FS} (F : FnG P w K mg base CX tb k f fd ps fs) (m : ∀ args Q Q' X X', (∀ r a, Q r a → Q' r a) → (∀ c, X c → X' c) → fs' args Q X → fs' args Q' X') (h : ∀ args Q X, fs' args Q X → fs args Q X) : FnG P w K mg base CX tb k f fd ps fs' :=
  ⟨m, fun args Q X q => F.len _ _ _ (h _ _ _ q), fun A outer s H args us vs Q E hr e0 hb r ⟨Z, Fr, as, I, ht, q⟩ => F.run A outer s H args us vs Q E hr e0 hb r ⟨Z, Fr, as, I, ht, h _ _ _ q⟩⟩
end
/-! the arguments in a def's frame -/
def tagA : Nat → List Slot → En
  | _, [] => []
  | k, .own _ m :: r => some (.own (some k) m) :: tagA (k + 1) r
  | k, .val d :: r => some (.val d) :: tagA (k + 1) r
  | k, .scr ns :: r => some (.scr ns) :: tagA (k + 1) r
theorem tagA_length : ∀ (k : Nat) (as : List Slot), (tagA k as).length = as.length
  | _, [] => rfl
  | k, .own _ m :: r => congrArg (· + 1) (tagA_length (k + 1) r)
  | k, .val d :: r => congrArg (· + 1) (tagA_length (k + 1) r)
  | k, .scr ns :: r => congrArg (· + 1) (tagA_length (k + 1) r)
def tag1 (k : Nat) : Slot → Slot
  | .own _ m => .own (some k) m
  | s => s
theorem tagA_get : ∀ (k : Nat) (as : List Slot) (i : Nat), (tagA k as)[i]? = (as[i]?).map fun s => some (tag1 (k + i) s)
  | _, [], i => by simp [tagA]
  | k, s :: r, 0 => by cases s <;> simp [tagA, tag1]
  | k, s :: r, i + 1 => by
    have e : k + (i + 1) = k + 1 + i := by omega
    cases s <;> simp [tagA, tagA_get (k + 1) r i, e]
/-- the arguments as a def leaves them: objects of the caller's are still where they were -/
def backA : Nat → List Slot → En → Option (List Slot)
  | _, [], _ => some []
  | k, .own _ _ :: r, e => match sl e k with
    | some (.own (some j) m) => if j = k then (backA (k + 1) r e).map (Slot.own none m :: ·) else none
    | _ => none
  | k, .val d :: r, e => (backA (k + 1) r e).map (Slot.val d :: ·)
  | k, .scr ns :: r, e => (backA (k + 1) r e).map (Slot.scr ns :: ·)
def backAt (e : En) (a' : List Slot) (k i : Nat) : Slot → Prop
  | .own _ _ => ∃ m, sl e k = some (.own (some k) m) ∧ a'[i]? = some (.own none m)
  | .val d => a'[i]? = some (.val d)
  | .scr ns => a'[i]? = some (.scr ns)
theorem backAt_cons {e : En} {a' : List Slot} {x : Slot} {k i : Nat} {s : Slot} (h : backAt e a' k i s) : backAt e (x :: a') k (i + 1) s := by
  cases s with
  | own t m => obtain ⟨m, h1, h2⟩ := h; exact ⟨m, h1, by simpa using h2⟩
  | val d => have h : a'[i]? = some (.val d) := h; show (x :: a')[i + 1]? = _; simpa using h
  | scr ns => have h : a'[i]? = some (.scr ns) := h; show (x :: a')[i + 1]? = _; simpa using h
theorem backA_ok : ∀ (as : List Slot) (k : Nat) (e : En) (a' : List Slot), backA k as e = some a' → a'.length = as.length ∧ ∀ i s, as[i]? = some s → backAt e a' (k + i) i s := by
  intro as
  induction as with
  | nil => intro k e a' h; cases h; exact ⟨rfl, fun i s h => by simp at h⟩
  | cons x r ih =>
    intro k e a' h
    have tail : ∀ {l : List Slot} {y : Slot}, backA (k + 1) r e = some l → backAt e (y :: l) k 0 x → (y :: l).length = (x :: r).length ∧ ∀ i s, (x :: r)[i]? = some s → backAt e (y :: l) (k + i) i s := fun {l y} hl h0 => by
      obtain ⟨h1, h2⟩ := ih (k + 1) e l hl
      refine ⟨by simp [h1], fun i s hi => ?_⟩
      cases i with
      | zero => simp at hi; subst hi; exact h0
      | succ i =>
        have q := h2 i s (by simpa using hi)
        rw [show k + (i + 1) = k + 1 + i by omega]
        exact backAt_cons q
    cases x with
    | own t m =>
      unfold backA at h
      split at h
      · rename_i j m' hj
        split at h
        · rename_i ej
          subst ej
          obtain ⟨l, hl, rfl⟩ := Option.map_eq_some_iff.mp h
          exact tail hl ⟨m', hj, rfl⟩
        · cases h
      · cases h
    | val d =>
      obtain ⟨l, hl, rfl⟩ := Option.map_eq_some_iff.mp h
      exact tail hl rfl
    | scr ns =>
      obtain ⟨l, hl, rfl⟩ := Option.map_eq_some_iff.mp h
      exact tail hl rfl
/-- a def's frame at its entry -/
def entryE (N : List Str) (args : List Slot) : En := tagA 0 args ++ List.replicate (N.length - args.length) none
/-- what is wanted at a def's end -/
def finE (args : List Slot) (Q : Slot → List Slot → Prop) : Slot → En → Prop := fun r e => need (backA 0 args e) fun a' => Q r a'

section
variable {C : Cfg} {Z Z' Fr : Addr → Prop} {σ : L2.St} {H H' : Hp}
/-- the addresses of the arguments -/
def adrs (vs : List V) : Nat → Addr := fun i => match vs[i]? with
  | some (.ref a) => a
  | _ => 0
theorem entry_env {N : List Str} {vs : List V} {args : List Slot} (hl : args.length ≤ N.length) (I : EnvR C Z Fr A0 (vs.map some) H (envA args)) : EnvR C Z Fr (adrs vs) (L2.start N vs) H (entryE N args) := by
  have len : vs.length = args.length := by
    have := I.len
    simpa [envA] using this
  have get : ∀ (i : Nat) (v : Option V) (x : Option Slot), (L2.start N vs)[i]? = some v → (entryE N args)[i]? = some x → x = none ∨ ∃ s u, args[i]? = some s ∧ x = some (tag1 i s) ∧ vs[i]? = some u ∧ v = some u := fun i v x h1 h2 => by
    unfold entryE at h2
    by_cases hi : i < args.length
    · rw [List.getElem?_append_left (by rw [tagA_length]; exact hi), tagA_get] at h2
      obtain ⟨s, hs, rfl⟩ := Option.map_eq_some_iff.mp h2
      unfold L2.start at h1
      rw [List.getElem?_append_left (by simp [len, hi]), List.getElem?_map] at h1
      obtain ⟨u, hu, rfl⟩ := Option.map_eq_some_iff.mp h1
      exact .inr ⟨s, u, hs, by simp, hu, rfl⟩
    · rw [List.getElem?_append_right (by rw [tagA_length]; omega), List.getElem?_replicate] at h2
      split at h2
      · cases h2; exact .inl rfl
      · cases h2
  have back : ∀ {a i}, OwnAt (L2.start N vs) (entryE N args) a i → OwnAt (vs.map some) (envA args) a i := fun {a i} ⟨h1, t, m, h2⟩ => by
    rcases get i _ _ h1 h2 with e | ⟨s, u, hs, ex, hu, ev⟩
    · cases e
    · cases ev
      cases s with
      | own t' m' => exact ⟨by simp [hu], t', m', by simp [envA, hs]⟩
      | val d => cases ex
      | scr ns => cases ex
  refine ⟨I.ok, ?_, fun i v x h1 h2 => ?_, fun a i j h1 h2 => I.apart a i j (back h1) (back h2)⟩
  · unfold L2.start entryE
    rw [List.length_append, List.length_append, tagA_length, List.length_map, List.length_replicate, List.length_replicate, len]
  · rcases get i v x h1 h2 with e | ⟨s, u, hs, ex, hu, ev⟩
    · subst e; exact True.intro
    · subst ex ev
      have q := I.slot i (some u) (some s) (by simp [hu]) (by simp [envA, hs])
      cases s with
      | val d => exact q
      | scr ns => exact q
      | own t m =>
        obtain ⟨a, ea, r, z, f, _⟩ := q
        refine ⟨a, ea, r, z, f, fun k hk => ?_⟩
        cases hk
        cases ea
        unfold adrs
        rw [hu]
theorem exit_env {N : List Str} {vs : List V} {args a' : List Slot} {σ' : L2.St} {e : En} {v : V} {r : Slot} (I : EnvR C Z Fr A0 (vs.map some) H (envA args)) (st : Step Z Fr H Z' H') (I' : EnvR C Z' Fr (adrs vs) σ' H' e)
    (R : ResR C Z' Fr σ' e H' v r) (hb : backA 0 args e = some a') : EnvR C Z' Fr A0 (vs.map some) H' (envA a') ∧ ResR C Z' Fr (vs.map some) (envA a') H' v r := by
  obtain ⟨bl, bk⟩ := backA_ok _ _ _ _ hb
  have len : vs.length = args.length := by
    have := I.len
    simpa [envA] using this
  -- an argument that is an object stands where it stood
  have own : ∀ {i a t m}, (vs.map some)[i]? = some (some (V.ref a)) → (envA a')[i]? = some (some (Slot.own t m)) → OwnAt σ' e a i ∧ sl e i = some (.own (some i) m) ∧ t = none := fun {i a t m} h1 h2 => by
    have ha : a'[i]? = some (.own t m) := by
      unfold envA at h2
      rw [List.getElem?_map] at h2
      obtain ⟨s, hs, es⟩ := Option.map_eq_some_iff.mp h2
      cases es
      exact hs
    have hi : i < args.length := by rw [← bl]; exact (List.getElem?_eq_some_iff.mp ha).1
    have q := bk i args[i] (List.getElem?_eq_getElem hi)
    cases es : args[i] with
    | val d =>
      rw [es] at q
      have q : a'[i]? = some (.val d) := q
      rw [q] at ha
      cases ha
    | scr ns =>
      rw [es] at q
      have q : a'[i]? = some (.scr ns) := q
      rw [q] at ha
      cases ha
    | own t0 m0 =>
      rw [es, Nat.zero_add] at q
      obtain ⟨m1, q1, q2⟩ := q
      rw [ha] at q2
      cases q2
      obtain ⟨b, g1, g2, g3, g4, g5, g6⟩ := I'.atOwn (sl_at q1)
      have eb := g5 i rfl
      have hv : vs[i]? = some (.ref a) := by
        rw [List.getElem?_map] at h1
        obtain ⟨s, hs, es⟩ := Option.map_eq_some_iff.mp h1
        cases es
        exact hs
      have : b = a := by rw [eb]; unfold adrs; rw [hv]
      subst this
      exact ⟨g6, q1, rfl⟩
  have E : EnvR C Z' Fr A0 (vs.map some) H' (envA a') := by
    refine ⟨I'.ok, by unfold envA; simp [len, bl], fun i w x h1 h2 => ?_, fun a i j h1 h2 => ?_⟩
    · have ha : ∃ s, a'[i]? = some s ∧ x = some s := by
        unfold envA at h2
        rw [List.getElem?_map] at h2
        obtain ⟨s, hs, es⟩ := Option.map_eq_some_iff.mp h2
        exact ⟨s, hs, es.symm⟩
      obtain ⟨s, ha, rfl⟩ := ha
      have hi : i < args.length := by rw [← bl]; exact (List.getElem?_eq_some_iff.mp ha).1
      have hs := List.getElem?_eq_getElem hi
      have q := bk i args[i] hs
      have old := I.slot i w (some args[i]) h1 (by unfold envA; rw [List.getElem?_map, hs]; rfl)
      cases es : args[i] with
      | val d =>
        rw [es] at q old
        have q : a'[i]? = some (.val d) := q
        rw [q] at ha
        cases ha
        obtain ⟨u, eu, ru⟩ := old
        exact ⟨u, eu, ru.step st⟩
      | scr ns =>
        rw [es] at q old
        have q : a'[i]? = some (.scr ns) := q
        rw [q] at ha
        cases ha
        obtain ⟨u, eu, ru⟩ := old
        exact ⟨u, eu, st.sqs ru⟩
      | own t0 m0 =>
        rw [es] at q old
        obtain ⟨m1, q1, q2⟩ := q
        rw [ha] at q2
        cases q2
        obtain ⟨a, ea, _⟩ := old
        subst ea
        obtain ⟨ow, q3, _⟩ := own h1 h2
        obtain ⟨b, g1, g2, g3, g4, g5, g6⟩ := I'.atOwn (sl_at q3)
        have : b = a := by
          have h := ow.1
          rw [g1] at h
          cases h
          rfl
        subst this
        exact ⟨b, rfl, g2, g3, g4, fun k hk => by cases hk⟩
    · obtain ⟨p1, t1, m1, p2⟩ := h1
      obtain ⟨q1, t2, m2, q2⟩ := h2
      exact I'.apart a i j (own p1 p2).1 (own q1 q2).1
  refine ⟨E, ?_⟩
  cases r with
  | val d => exact R
  | scr ns => exact R
  | own t m =>
    obtain ⟨et, a, ea, q, z, f, no⟩ := R
    exact ⟨et, a, ea, q, z, f, fun i ⟨h1, t1, m1, h2⟩ => no i (own h1 h2).1⟩
end

section
variable {P : Program} {w : World} {K : Frag} {mg : Str → Option Value} {base : Heap} {tb : List Addr} {f : Addr}
/-- a def by its body: no error leaves it -/
theorem fnG_of {x qual : Str} {st : Stmt} {fd : FuncData} {N ps : List Str} {k : Nat} {fs : FS} {wb : DS} (F : Fun K x qual st f fd) (S : FnScope N ps (defScope st)) (mono : ∀ args Q Q' X X', (∀ r a, Q r a → Q' r a) → (∀ c, X c → X' c) → fs args Q X → fs args Q' X')
    (len : ∀ args Q X, fs args Q X → args.length = ps.length)
    (hfs : ∀ args Q X, fs args Q X → (∀ s ∈ args, ∀ t m, s = Slot.own t m → t = none) → wb (entryE N args) { nx := finE args Q (.val .none), rt := finE args Q })
    (hbody : ∀ (cdv : Value) (A : Around) (outer : List Env) (s : Shared) (H : Hp) (E : XK), PySem.W.codeIn K cdv qual = true → RoomG k (A.deeper (envOfC qual (defScope st) s.heap.objs.size f cdv)) → fd.code = cdv →
      SSs tb (cxOf CX0 P w K mg base N qual (defScope st) f cdv A outer s H E).nox (defBody st) wb) : FnG P w K mg base CX0 tb (k + 1) f fd ps fs := by
  obtain ⟨oc, od, kV, doc, pm, an, cdv, ct, osl, rfl, lk, hcd⟩ := F.ex
  refine ⟨mono, len, fun A outer s H args us vs Q E hr e0 hb r ⟨Z, Fr, as, I, ht, q⟩ => ?_⟩
  have hla := len _ _ _ q
  have hl : vs.length = ps.length := by
    have := I.len
    rw [← hla]
    simpa [envA] using this
  have hpl : ps.length ≤ N.length := by
    have := congrArg List.length S.pre
    rw [List.length_take] at this
    omega
  have KX : K.In s.heap := e0.mod.kin.keeps fun b o e => (e0.bs b o e).1
  have lim : s.heap.NoLimit := e0.mod.nolimit.keeps fun b o e => (e0.bs b o e).1
  refine codeAny_call_function hr.room.depth (KX _ _ lk) rfl S.co S.gen rfl (PySem.W.codeRec_of KX hcd) (hb _ _ _ _ ?_)
  refine wpAny_newFunctionEnv_cells S.kind (fun y hy => ?_) fun env he s1 x => ?_
  · have hp : y.1 ∈ ps := (List.of_mem_zip (show (y.1, y.2) ∈ ps.zip us from hy)).1
    rcases S.par y.1 hp with z | z
    · exact .inl z
    · exact .inr ⟨z, PySem.W.cellsFrom_some _ _ _ (.inl z)⟩
  · subst he
    refine ⟨lim.keeps x.toInCall.keep, codeAny_func ?_⟩
    have B := (hbody cdv A outer s H E hcd ⟨hr.room.deeper _, hr.gd⟩ rfl).ps.nox
    have J := inv_start (CX := CX0) (E := E) S hr.room.hd e0 hl r x
    have want : tS ⟨K, tb⟩ wb { nx := fun _ H' => Q .non H', rt := Q } (L2.start N vs) H := by
      refine ⟨Z, Fr, adrs vs, entryE N as, entry_env (by rw [hla]; exact hpl) I, ?_⟩
      have fin : ∀ {r : Slot} {e : En} {v : V} {σ' : L2.St} {H' : Hp} {Z' : Addr → Prop}, finE as (fun r args' => ∀ v H' Z', Step Z Fr H Z' H' → EnvR ⟨K, tb⟩ Z' Fr A0 (vs.map some) H' (envA args') → ResR ⟨K, tb⟩ Z' Fr (vs.map some) (envA args') H' v r → Q v H') r e →
          Step Z Fr H Z' H' → EnvR ⟨K, tb⟩ Z' Fr (adrs vs) σ' H' e → ResR ⟨K, tb⟩ Z' Fr σ' e H' v r → Q v H' := fun {r e v σ' H' Z'} h st I' R => by
        obtain ⟨a', ha, h⟩ := need_out h
        obtain ⟨e1, e2⟩ := exit_env (N := N) I st I' R ha
        exact h v H' Z' st e1 e2
      have M := (hbody cdv A outer s H E hcd ⟨hr.room.deeper _, hr.gd⟩ rfl).mono
      exact M _ { nx := finE as _ (.val .none), rt := finE as _ } _ ⟨fun e q σ' H' Z' st I' => fin (r := .val .none) q st I' Rp.non, fun r e q v σ' H' Z' st I' R => fin q st I' R, fun e q => q.elim, fun e q => q.elim⟩ (hfs as _ _ q ht)
    refine wpAny_mono (B.run [] s1 (L2.start N vs) H _ J want) (fun fl s' hs => ?_) fun e s' hs => hs
    cases fl with
    | ret u =>
      obtain ⟨v, σ', H', J', rv, qq⟩ := hs
      exact ⟨v, H', J'.os, J'.bare, J'.base, J'.hok, rv, qq⟩
    | next =>
      obtain ⟨σ', H', J', qq⟩ := hs
      exact ⟨V.non, H', J'.os, J'.bare, J'.base, J'.hok, rfl, qq⟩
    | brk => exact (let ⟨_, _, _, z⟩ := hs; z.elim)
    | cont => exact (let ⟨_, _, _, z⟩ := hs; z.elim)
end

/-! ### calls of defs -/
/-- the operands' contents as arguments: distinct variables -/
def argO (e : En) : List Opd → Option (List Slot)
  | [] => some []
  | o :: os => match con e o with
    | some (.own _ m) => (argO e os).map (Slot.own none m :: ·)
    | some s => (argO e os).map (s :: ·)
    | none => none
/-- variables whose objects are handed over -/
def varsO (e : En) : List Opd → List Nat
  | [] => []
  | .var i :: os => match sl e i with
    | some (.own _ _) => i :: varsO e os
    | _ => varsO e os
  | .res _ :: os => varsO e os
/-- the variables behind the call -/
def wrB : En → List Opd → List Slot → Option En
  | e, [], [] => some e
  | e, .var i :: os, a :: as => match sl e i with
    | some (.own t _) => match a with
      | .own _ m => wrB (e.set i (some (.own t m))) os as
      | _ => none
    | _ => wrB e os as
  | e, .res _ :: os, _ :: as => wrB e os as
  | _, _, _ => none
end DV

set_option Elab.async false
set_option linter.all false
set_option maxRecDepth 100000
set_option maxHeartbeats 4000000
namespace DV
open PySem PySem.Spec PyProof.Rows L2

theorem sl_set_ne {e : En} {i k : Nat} {x : Option Slot} (h : i ≠ k) : sl (e.set i x) k = sl e k := by
  unfold sl
  rw [List.getElem?_set_ne h]
theorem sl_set_eq {e : En} {i : Nat} {x : Option Slot} (h : i < e.length) : sl (e.set i x) i = x := by
  unfold sl
  rw [List.getElem?_set_self h]
  cases x <;> rfl
theorem sl_lt {e : En} {i : Nat} {s : Slot} (h : sl e i = some s) : i < e.length := (List.getElem?_eq_some_iff.mp (sl_at h)).1
theorem varsO_set {e : En} {i : Nat} {t t' : Option Nat} {m m' : MO} (h : sl e i = some (.own t m)) : ∀ os : List Opd, varsO (e.set i (some (.own t' m'))) os = varsO e os
  | [] => rfl
  | .res _ :: os => varsO_set h os
  | .var k :: os => by
    have ih := varsO_set (t' := t') (m' := m') h os
    unfold varsO
    rw [ih]
    by_cases ek : i = k
    · subst ek
      rw [sl_set_eq (sl_lt h), h]
    · rw [sl_set_ne ek]
theorem mem_vars {e : En} {i : Nat} {t : Option Nat} {m : MO} (h : sl e i = some (.own t m)) : ∀ {os : List Opd} {j : Nat}, os[j]? = some (.var i) → i ∈ varsO e os
  | [], j, hj => by simp at hj
  | o :: os, 0, hj => by
    simp at hj
    subst hj
    unfold varsO
    rw [h]
    exact List.mem_cons_self
  | .res _ :: os, j + 1, hj => by
    unfold varsO
    exact mem_vars h (j := j) (by simpa using hj)
  | .var k :: os, j + 1, hj => by
    have ih := mem_vars h (os := os) (j := j) (by simpa using hj)
    unfold varsO
    split
    · exact List.mem_cons_of_mem _ ih
    · exact ih
theorem of_vars {e : En} {i : Nat} : ∀ {os : List Opd}, i ∈ varsO e os → ∃ (j : Nat) (t : Option Nat) (m : MO), os[j]? = some (.var i) ∧ sl e i = some (.own t m)
  | [], h => by cases h
  | .res _ :: os, h => by
    unfold varsO at h
    obtain ⟨j, t, m, h1, h2⟩ := of_vars h
    exact ⟨j + 1, t, m, by simpa using h1, h2⟩
  | .var k :: os, h => by
    unfold varsO at h
    split at h
    · rename_i t m hk
      rcases List.mem_cons.mp h with rfl | h
      · exact ⟨0, t, m, rfl, hk⟩
      · obtain ⟨j, t, m, h1, h2⟩ := of_vars h
        exact ⟨j + 1, t, m, by simpa using h1, h2⟩
    · obtain ⟨j, t, m, h1, h2⟩ := of_vars h
      exact ⟨j + 1, t, m, by simpa using h1, h2⟩
theorem wrB_ok : ∀ (os : List Opd) (e : En) (as : List Slot) (e' : En), wrB e os as = some e' → (varsO e os).Nodup →
    e'.length = e.length ∧ as.length = os.length ∧ (∀ k, k ∉ varsO e os → sl e' k = sl e k) ∧ ∀ (j i : Nat) (t : Option Nat) (m : MO), os[j]? = some (.var i) → sl e i = some (.own t m) → ∃ t' m', as[j]? = some (.own t' m') ∧ sl e' i = some (.own t m') := by
  intro os
  induction os with
  | nil =>
    intro e as e' h _
    cases as with
    | nil =>
      have h : some e = some e' := h
      cases h
      exact ⟨rfl, rfl, fun _ _ => rfl, fun j i t m hj => by simp at hj⟩
    | cons a as => cases h
  | cons o os ih =>
    intro e as e' h nd
    cases as with
    | nil => cases o <;> cases h
    | cons a as =>
      cases o with
      | res r =>
        have h : wrB e os as = some e' := h
        have nd : (varsO e os).Nodup := nd
        obtain ⟨h1, h2, h3, h4⟩ := ih e as e' h nd
        refine ⟨h1, by simp [h2], h3, fun j i t m hj hs => ?_⟩
        cases j with
        | zero => simp at hj
        | succ j =>
          obtain ⟨t', m', q1, q2⟩ := h4 j i t m (by simpa using hj) hs
          exact ⟨t', m', by simpa using q1, q2⟩
      | var k =>
        unfold wrB at h
        unfold varsO at nd ⊢
        split at h
        · rename_i t m hk
          rw [hk] at nd
          obtain ⟨nk, nd'⟩ := List.nodup_cons.mp nd
          split at h
          · rename_i ta ma
            have ev := varsO_set (t' := t) (m' := ma) hk os
            obtain ⟨h1, h2, h3, h4⟩ := ih _ as e' h (by rw [ev]; exact nd')
            rw [ev] at h3
            have hk' : sl e' k = some (.own t ma) := by rw [h3 k nk, sl_set_eq (sl_lt hk)]
            refine ⟨by rw [h1, List.length_set], by simp [h2], fun l hl => ?_, fun j i t2 m2 hj hs => ?_⟩
            · have hl' : l ≠ k ∧ l ∉ varsO e os := by simpa using hl
              rw [h3 l hl'.2, sl_set_ne (Ne.symm hl'.1)]
            · cases j with
              | zero =>
                simp at hj
                subst hj
                rw [hk] at hs
                cases hs
                exact ⟨ta, ma, rfl, hk'⟩
              | succ j =>
                have hj' : os[j]? = some (.var i) := by simpa using hj
                have hi := mem_vars hs hj'
                have ne : k ≠ i := fun y => nk (by rw [y]; exact hi)
                obtain ⟨t', m', q1, q2⟩ := h4 j i t2 m2 hj' (by rw [sl_set_ne ne]; exact hs)
                exact ⟨t', m', by simpa using q1, q2⟩
          · cases h
        · rename_i hk
          have nd' : (varsO e os).Nodup := by
            revert nd
            split
            · rename_i t m hk2
              exact (hk _ _ hk2).elim
            · exact id
          have ev : (match sl e k with | some (.own _ _) => k :: varsO e os | _ => varsO e os) = varsO e os := by
            split
            · rename_i t m hk2
              exact (hk _ _ hk2).elim
            · rfl
          obtain ⟨h1, h2, h3, h4⟩ := ih e as e' h nd'
          refine ⟨h1, by simp [h2], fun l hl => h3 l hl, fun j i t m hj hs => ?_⟩
          cases j with
          | zero =>
            simp at hj
            subst hj
            exact (hk _ _ hs).elim
          | succ j =>
            obtain ⟨t', m', q1, q2⟩ := h4 j i t m (by simpa using hj) hs
            exact ⟨t', m', by simpa using q1, q2⟩

def untag : Slot → Slot
  | .own _ m => .own none m
  | s => s
theorem argO_ok : ∀ {e : En} {os : List Opd} {as : List Slot}, argO e os = some as → as.length = os.length ∧ ∀ (j : Nat) (o : Opd), os[j]? = some o → ∃ s, con e o = some s ∧ as[j]? = some (untag s)
  | e, [], as, h => by cases h; exact ⟨rfl, fun j o h => by simp at h⟩
  | e, o :: os, as, h => by
    have key : ∀ s, con e o = some s → (argO e os).map (untag s :: ·) = some as → as.length = (o :: os).length ∧ ∀ (j : Nat) (o' : Opd), (o :: os)[j]? = some o' → ∃ s, con e o' = some s ∧ as[j]? = some (untag s) := fun s hs h => by
      obtain ⟨l, hl, rfl⟩ := Option.map_eq_some_iff.mp h
      obtain ⟨h1, h2⟩ := argO_ok hl
      refine ⟨by simp [h1], fun j o' hj => ?_⟩
      cases j with
      | zero => simp at hj; subst hj; exact ⟨s, hs, rfl⟩
      | succ j =>
        obtain ⟨s', q1, q2⟩ := h2 j o' (by simpa using hj)
        exact ⟨s', q1, by simpa using q2⟩
    unfold argO at h
    split at h
    · rename_i t m hc
      exact key _ hc h
    · rename_i s hn hc
      refine key s hc ?_
      cases s with
      | own t m => exact (hn _ _ rfl).elim
      | val d => exact h
      | scr ns => exact h
    · cases h

section
variable {C : Cfg} {Z Z' Fr : Addr → Prop} {As : Nat → Addr} {σ : L2.St} {H H' : Hp} {e : En}
theorem OpdRs.get : ∀ {vs : List V} {os : List Opd} {Fr : Addr → Prop} {j : Nat} {o : Opd}, OpdRs C Z σ e H Fr vs os → os[j]? = some o → ∃ v, vs[j]? = some v ∧ OpdR C Z Fr σ e H v o
  | [], [], _, _, _, _, h => by simp at h
  | v :: vs, o :: os, Fr, 0, o', R, h => by simp at h; subst h; exact ⟨v, rfl, R.1⟩
  | v :: vs, o :: os, Fr, j + 1, o', R, h => by
    obtain ⟨u, h1, h2⟩ := OpdRs.get (j := j) R.2 (by simpa using h)
    exact ⟨u, by simpa using h1, h2.weak fun a => .inl⟩
theorem OpdRs.length : ∀ {vs : List V} {os : List Opd} {Fr : Addr → Prop}, OpdRs C Z σ e H Fr vs os → vs.length = os.length
  | [], [], _, _ => rfl
  | v :: vs, o :: os, Fr, R => congrArg (· + 1) (OpdRs.length R.2)
  | [], o :: os, _, R => R.elim
  | v :: vs, [], _, R => R.elim
/-- two new objects among the operands are two -/
theorem OpdRs.apart : ∀ {vs : List V} {os : List Opd} {Fr : Addr → Prop} {i j : Nat} {a : Addr} {r1 r2 : Slot}, OpdRs C Z σ e H Fr vs os → i < j → os[i]? = some (.res r1) → os[j]? = some (.res r2) → vs[i]? = some (.ref a) → vs[j]? = some (.ref a) →
    (∃ t m, r1 = .own t m) → (∃ t m, r2 = .own t m) → False
  | [], [], _, _, _, _, _, _, _, _, h, _, _, _, _, _ => by simp at h
  | v :: vs, o :: os, Fr, 0, j + 1, a, r1, r2, R, _, h1, h2, h3, h4, h5, ⟨t2, m2, e2⟩ => by
    simp at h1 h3
    subst h1 h3
    obtain ⟨u, g1, g2⟩ := OpdRs.get (j := j) R.2 (by simpa using h2)
    have g1' : vs[j]? = some (.ref a) := by simpa using h4
    rw [g1] at g1'
    cases g1'
    subst e2
    obtain ⟨_, b, eb, _, _, f, _⟩ := g2
    cases eb
    exact f (.inr ⟨rfl, h5⟩)
  | v :: vs, o :: os, Fr, i + 1, j + 1, a, r1, r2, R, hij, h1, h2, h3, h4, h5, h6 => OpdRs.apart (i := i) (j := j) R.2 (by omega) (by simpa using h1) (by simpa using h2) (by simpa using h3) (by simpa using h4) h5 h6
  | [], o :: os, _, _, _, _, _, _, R, _, _, _, _, _, _, _ => R.elim
  | v :: vs, [], _, _, _, _, _, _, R, _, _, _, _, _, _, _ => R.elim

/-- the caller's own objects that are not handed over -/
abbrev FrC (Fr : Addr → Prop) (σ : L2.St) (e : En) (os : List Opd) : Addr → Prop := fun a => Fr a ∨ ∃ i, OwnAt σ e a i ∧ i ∉ varsO e os
theorem call_in {vs : List V} {os : List Opd} {args : List Slot} (I : EnvR C Z Fr As σ H e) (R : OpdRs C Z σ e H Fr vs os) (ha : argO e os = some args) (nd : (varsO e os).Nodup) :
    EnvR C Z (FrC Fr σ e os) A0 (vs.map some) H (envA args) := by
  obtain ⟨al, ag⟩ := argO_ok ha
  have vl := R.length
  -- what stands at a place
  have at_ : ∀ (j : Nat) (s : Slot), args[j]? = some s → ∃ o v s', os[j]? = some o ∧ vs[j]? = some v ∧ con e o = some s' ∧ s = untag s' ∧ OpdR C Z Fr σ e H v o := fun j s hs => by
    have hj : j < os.length := by rw [← al]; exact (List.getElem?_eq_some_iff.mp hs).1
    have ho := List.getElem?_eq_getElem hj
    obtain ⟨s', q1, q2⟩ := ag j _ ho
    obtain ⟨v, q3, q4⟩ := R.get ho
    rw [hs] at q2
    cases q2
    exact ⟨_, v, s', ho, q3, q1, rfl, q4⟩
  have addr : ∀ {a j}, OwnAt (vs.map some) (envA args) a j → ∃ o v t m, os[j]? = some o ∧ v = V.ref a ∧ vs[j]? = some v ∧ con e o = some (.own t m) ∧ OpdR C Z Fr σ e H v o := fun {a j} ⟨h1, t, m, h2⟩ => by
    have hs : args[j]? = some (.own t m) := by
      unfold envA at h2
      rw [List.getElem?_map] at h2
      obtain ⟨s, hs, es⟩ := Option.map_eq_some_iff.mp h2
      cases es
      exact hs
    obtain ⟨o, v, s', q1, q2, q3, q4, q5⟩ := at_ j _ hs
    rw [List.getElem?_map, q2] at h1
    cases h1
    cases s' with
    | own t' m' => exact ⟨o, _, t', m', q1, rfl, q2, q3, q5⟩
    | val d => cases q4
    | scr ns => cases q4
  have okF : Ok C Z (FrC Fr σ e os) H := by
    have own : ∀ a i, OwnAt σ e a i → H a ≠ none ∧ ¬ Z a ∧ ∀ P ∈ C.tb, P ≠ a := fun a i ⟨h1, t, m, h2⟩ => by
      obtain ⟨b, g1, g2, g3, g4, g5, g6⟩ := I.atOwn h2
      rw [h1] at g1
      cases g1
      refine ⟨g2.non, g3, fun P hP y => ?_⟩
      subst y
      obtain ⟨ps, y, _⟩ := I.ok.tab P hP
      have mu := g2.mut
      rw [y] at mu
      exact mu
    exact ⟨I.ok.z, fun a q => q.elim (I.ok.f a) fun ⟨i, h, _⟩ => (own a i h).1, fun a z q => q.elim (I.ok.zf a z) fun ⟨i, h, _⟩ => (own a i h).2.1 z, I.ok.tab, fun P hP => ⟨(I.ok.nz P hP).1, fun q => q.elim (I.ok.nz P hP).2 fun ⟨i, h, _⟩ => (own P i h).2.2 P hP rfl⟩⟩
  refine ⟨okF, by simp [envA, vl, al], fun j w x h1 h2 => ?_, fun a i j h1 h2 => ?_⟩
  · unfold envA at h2
    rw [List.getElem?_map] at h2
    obtain ⟨s, hs, rfl⟩ := Option.map_eq_some_iff.mp h2
    obtain ⟨o, v, s', q1, q2, q3, q4, q5⟩ := at_ j s hs
    rw [List.getElem?_map, q2] at h1
    cases h1
    have cr := q5.cr I q3
    cases s' with
    | val d => subst q4; exact ⟨v, rfl, cr⟩
    | scr ns => subst q4; obtain ⟨a, ea, q⟩ := cr; exact ⟨a, by rw [ea], q⟩
    | own t m =>
      subst q4
      cases o with
      | res r =>
        cases q3
        obtain ⟨et, a, ea, m1, z, f, no⟩ := q5
        exact ⟨a, by rw [ea], m1, z, fun q => q.elim f fun ⟨i, h, _⟩ => no i h, fun k hk => by cases hk⟩
      | var i =>
        have q3 : sl e i = some (.own t m) := q3
        obtain ⟨b, g1, g2, g3, g4, g5, g6⟩ := I.atOwn (sl_at q3)
        have q5 : σ[i]? = some (some v) := q5
        rw [g1] at q5
        cases q5
        refine ⟨b, rfl, g2, g3, fun q => q.elim g4 fun ⟨k, h, nk⟩ => ?_, fun k hk => by cases hk⟩
        have := I.apart b i k g6 h
        subst this
        exact nk (mem_vars q3 q1)
  · by_cases hij : i = j
    · exact hij
    · exfalso
      obtain ⟨o1, v1, t1, m1, p1, p2, p3, p4, p5⟩ := addr h1
      obtain ⟨o2, v2, t2, m2, q1, q2, q3, q4, q5⟩ := addr h2
      subst p2 q2
      cases o1 with
      | res r1 =>
        cases o2 with
        | res r2 =>
          cases p4
          cases q4
          rcases Nat.lt_or_gt_of_ne hij with h | h
          · exact R.apart h p1 q1 p3 q3 ⟨_, _, rfl⟩ ⟨_, _, rfl⟩
          · exact R.apart h q1 p1 q3 p3 ⟨_, _, rfl⟩ ⟨_, _, rfl⟩
        | var k =>
          cases p4
          obtain ⟨_, b, eb, _, _, _, no⟩ := p5
          cases eb
          exact no k ⟨q5, t2, m2, sl_at q4⟩
      | var k1 =>
        cases o2 with
        | res r2 =>
          cases q4
          obtain ⟨_, b, eb, _, _, _, no⟩ := q5
          cases eb
          exact no k1 ⟨p5, t1, m1, sl_at p4⟩
        | var k2 =>
          have e12 := I.apart a k1 k2 ⟨p5, t1, m1, sl_at p4⟩ ⟨q5, t2, m2, sl_at q4⟩
          subst e12
          have p4 : sl e k1 = some (.own t1 m1) := p4
          -- the same variable twice
          have dup : ∀ (os : List Opd) (i j : Nat), i < j → os[i]? = some (.var k1) → os[j]? = some (.var k1) → ¬ (varsO e os).Nodup := by
            intro os
            induction os with
            | nil => intro i j _ h; simp at h
            | cons o os ih =>
              intro i j hlt h h' nd
              cases j with
              | zero => omega
              | succ j =>
                have h' : os[j]? = some (.var k1) := by simpa using h'
                cases i with
                | zero =>
                  simp at h
                  subst h
                  unfold varsO at nd
                  rw [p4] at nd
                  exact (List.nodup_cons.mp nd).1 (mem_vars p4 h')
                | succ i =>
                  refine ih i j (by omega) (by simpa using h) h' ?_
                  cases o with
                  | res r => exact nd
                  | var k =>
                    unfold varsO at nd
                    revert nd
                    split
                    · exact fun nd => (List.nodup_cons.mp nd).2
                    · exact id
          rcases Nat.lt_or_gt_of_ne hij with h | h
          · exact dup os i j h p1 q1 nd
          · exact dup os j i h q1 p1 nd
theorem call_out {vs : List V} {os : List Opd} {args' : List Slot} {e' : En} {v : V} {r : Slot} (I : EnvR C Z Fr As σ H e) (R : OpdRs C Z σ e H Fr vs os) (nd : (varsO e os).Nodup)
    (st : Step Z (FrC Fr σ e os) H Z' H') (I' : EnvR C Z' (FrC Fr σ e os) A0 (vs.map some) H' (envA args')) (RR : ResR C Z' (FrC Fr σ e os) (vs.map some) (envA args') H' v r) (hw : wrB e os args' = some e') :
    Step Z Fr H Z' H' ∧ EnvR C Z' Fr As σ H' e' ∧ ResR C Z' Fr σ e' H' v r := by
  obtain ⟨el, al, hn, hv⟩ := wrB_ok os e args' e' hw nd
  have wk : ∀ a, Fr a → FrC Fr σ e os a := fun a => .inl
  -- a variable that was handed over
  have given_ : ∀ i, i ∈ varsO e os → ∃ (j : Nat) (t : Option Nat) (m m' : MO) (t' : Option Nat) (a : Addr), os[j]? = some (.var i) ∧ sl e i = some (.own t m) ∧ sl e' i = some (.own t m') ∧ σ[i]? = some (some (.ref a)) ∧ OwnAt (vs.map some) (envA args') a j ∧ (envA args')[j]? = some (some (.own t' m')) ∧ (vs.map some)[j]? = some (some (.ref a)) := fun i hi => by
    obtain ⟨j, t, m, h1, h2⟩ := of_vars hi
    obtain ⟨t', m', h3, h4⟩ := hv j i t m h1 h2
    obtain ⟨u, h5, h6⟩ := R.get h1
    obtain ⟨b, g1, _⟩ := I.atOwn (sl_at h2)
    have h6 : σ[i]? = some (some u) := h6
    rw [g1] at h6
    cases h6
    have p1 : (envA args')[j]? = some (some (.own t' m')) := by unfold envA; rw [List.getElem?_map, h3]; rfl
    have p2 : (vs.map some)[j]? = some (some (V.ref b)) := by rw [List.getElem?_map, h5]; rfl
    exact ⟨j, t, m, m', t', b, h1, h2, h4, g1, ⟨p2, t', m', p1⟩, p1, p2⟩
  have same : ∀ {a i}, OwnAt σ e' a i → OwnAt σ e a i := fun {a i} ⟨h1, t, m, h2⟩ => by
    by_cases hi : i ∈ varsO e os
    · obtain ⟨j, t1, m1, _, _, b, _, h3, _, _⟩ := given_ i hi
      exact ⟨h1, t1, m1, sl_at h3⟩
    · have h3 : sl e' i = some (.own t m) := by unfold sl; rw [h2]; rfl
      rw [hn i hi] at h3
      exact ⟨h1, t, m, sl_at h3⟩
  refine ⟨st.weak wk, ⟨(I'.weak wk).ok, by rw [el]; exact I.len, fun i w x h1 h2 => ?_, fun a i j h1 h2 => I.apart a i j (same h1) (same h2)⟩, ?_⟩
  · rcases x with _ | s
    · exact True.intro
    · have h3 : sl e' i = some s := by unfold sl; rw [h2]; rfl
      by_cases hi : i ∈ varsO e os
      · obtain ⟨j, t, m, m', t', a, p1, p2, p3, p4, p5, p6, p7⟩ := given_ i hi
        rw [p3] at h3
        cases h3
        rw [p4] at h1
        cases h1
        obtain ⟨b, g1, g2, g3, g4, _⟩ := I'.slot j _ _ p7 p6
        cases g1
        obtain ⟨b, _, _, _, _, g5, _⟩ := I.atOwn (sl_at p2)
        refine ⟨a, rfl, g2, g3, fun f => g4 (.inl f), fun k hk => ?_⟩
        obtain ⟨b, q1, _, _, _, g5, _⟩ := I.atOwn (sl_at p2)
        rw [p4] at q1
        cases q1
        exact g5 k hk
      · rw [hn i hi] at h3
        have old := I.slot i w (some s) h1 (sl_at h3)
        cases s with
        | val d => obtain ⟨u, eu, ru⟩ := old; exact ⟨u, eu, ru.step st⟩
        | scr ns => obtain ⟨u, eu, ru⟩ := old; exact ⟨u, eu, st.sqs ru⟩
        | own t m =>
          obtain ⟨a, ea, g1, g2, g3, g4⟩ := old
          subst ea
          have fr : FrC Fr σ e os a := .inr ⟨i, ⟨h1, t, m, sl_at h3⟩, hi⟩
          exact ⟨a, rfl, g1.step st (st.keep a (.inr fr)), fun z => g2 (st.fr a z fr), g3, g4⟩
  · cases r with
    | val d => exact RR
    | scr ns => exact RR
    | own t m =>
      obtain ⟨et, a, ea, g1, g2, g3, g4⟩ := RR
      refine ⟨et, a, ea, g1, g2, fun f => g3 (.inl f), fun i hi => ?_⟩
      by_cases hv : i ∈ varsO e os
      · obtain ⟨j, t, m, m', t', b, p1, p2, p3, p4, p5, p6, p7⟩ := given_ i hv
        have := hi.1
        rw [p4] at this
        cases this
        exact g4 j p5
      · exact g3 (.inr ⟨i, same hi, hv⟩)
end

/-! ### the call of a def -/
def dCall (fs : FS) (ws : DOs) : DE := fun env Q => ws env fun os e => need (argO e os) fun args => (varsO e os).Nodup ∧ fs args (fun r args' => need (wrB e os args') fun e' => Q r e') (fun _ => False)
section
variable {tb : List Addr} {X : Cx} {k : Nat} {f : Addr} {fd : FuncData} {ps : List Str} {fs : FS} {ws : DOs}
theorem call_lift {C : Cfg} {X : Cx} {sp : Sp} {E : XK} (m : Mono ws) (mf : ∀ args Q Q' X X', (∀ r a, Q r a → Q' r a) → (∀ c, X c → X' c) → fs args Q X → fs args Q' X') : ∀ σ H Q, tE C (dCall fs ws) σ H Q → tOs C ws σ H fun vs H1 => spOf C fs vs H1 Q E := fun σ H Q ⟨Z, Fr, As, env, I, q⟩ =>
  ⟨Z, Fr, As, env, I, m env _ _ (fun os e q vs H1 Z1 st1 I1 R => by
    obtain ⟨args, ha, nd, q⟩ := need_out q
    refine ⟨Z1, _, args, call_in I1 R ha nd, fun s hs t m hm => ?_, mf _ _ _ _ _ (fun r args' q v H' Z' st I' RR => ?_) (fun c z => z.elim) q⟩
    · subst hm
      obtain ⟨al, ag⟩ := argO_ok ha
      obtain ⟨j, hj⟩ := List.getElem?_of_mem hs
      have hl : j < os.length := by rw [← al]; exact (List.getElem?_eq_some_iff.mp hj).1
      obtain ⟨s', _, q2⟩ := ag j _ (List.getElem?_eq_getElem hl)
      rw [hj] at q2
      cases s' with
      | own t' m' => cases q2; rfl
      | val d => cases q2
      | scr ns => cases q2
    · obtain ⟨e', hw, q⟩ := need_out q
      obtain ⟨p1, p2, p3⟩ := call_out I1 R nd st I' RR hw
      exact q v H' Z' (st1.trans p1) p2 p3) q⟩
theorem run_fnG {CX : CXT} {E : XK} {pins : List (Addr × Obj)} {σ : L2.St} {H : Hp} {s : Shared} {Q : VK} {us : List Value} {vs : List V} (F : FnG X.prog X.w X.K X.mg X.base CX tb k f fd ps fs) (hr : RoomG k X.A) (hb : Binds X.K fd ps []) (hx : Passes CX X E)
    (I : Inv X pins σ H s) (r : Vals vs us) (h : spOf ⟨X.K, tb⟩ fs vs H Q E) : wpAny (model X.prog X.w) X.A (call (.ref f) us) (EP X pins σ Q) X.xe s := by
  have hl : us.length = ps.length := by
    obtain ⟨Z, Fr, args, I', _, q⟩ := h
    rw [← F.len _ _ _ q, ← r.length]
    simpa [envA] using I'.len
  have bind := hb s us I.kIn (by rw [List.append_nil]; exact hl)
  rw [List.append_nil] at bind
  refine wpAny_call (codeAny_mono (F.run X.A X.stack s H ⟨us, []⟩ us vs Q E hr I.env0 bind r h) fun res s' hq => ?_)
  cases res with
  | error x => exact hx pins σ H s x s' I hq
  | ok fl =>
    cases fl with
    | ret u => exact I.after hq
    | _ => exact False.elim hq
theorem se_call {x : Str} {e : Expr} {es : List Expr} {p pos : Pos} (F : FnG X.prog X.w X.K X.mg X.base CX0 tb k f fd ps fs) (hr : RoomG k X.A) (hm : X.mg x = some (.ref f)) (hk : PySem.W.keepIn X.K (.ref f) = true) (hb : Binds X.K fd ps [])
    (ha : SOs tb X (e :: es) ws) (hg : Gl X x := by rfl) (hdb : (x == ("__debug__" : Str)) = false := by decide) (he : starEach (e :: es) X.env = (false, eval e X.env) :: starEach es X.env := by rfl) (hpl : (backTo pos (starEach es X.env)).any (·.1) = false := by rfl) :
    SE tb X (.Call (.Name x p) (e :: es) [] pos) (dCall fs ws) := by
  refine ⟨fun env Q Q' k q => ha.mono env _ _ (fun os e q => ?_) q, ⟨fun pins s σ H Q I h => ?_⟩⟩
  · obtain ⟨args, c, nd, q⟩ := need_out q
    refine need_in c ⟨nd, F.mono _ _ _ _ _ (fun r a q => ?_) (fun _ => id) q⟩
    obtain ⟨e', c, q⟩ := need_out q
    exact need_in c (k _ _ q)
  · refine wpAny_Call_Name_kw (ld_glob I hg hm ?_ hdb)
    have h2 := call_lift (X := X) (sp := fun _ _ _ _ => True) (E := E0) ha.mono F.mono σ H Q h
    refine PySem.W.callWith_K (h₀ := X.base) I.ok.mod.kin hk (thn (ha.pe.run pos pins s σ H _ I h2) fun us s1 ⟨vs, H1, I1, rv, q⟩ => ⟨I1.kIn, ?_⟩) he hpl
    exact run_fnG F hr hb pass0 I1 rv q
theorem dCall_mono (F : ∀ args Q Q' X X', (∀ r a, Q r a → Q' r a) → (∀ c, X c → X' c) → fs args Q X → fs args Q' X') (m : Mono ws) : Mono (dCall fs ws) := fun env Q Q' k q => m env _ _ (fun os e q => by
  obtain ⟨args, c, nd, q⟩ := need_out q
  refine need_in c ⟨nd, F _ _ _ _ _ (fun r a q => ?_) (fun _ => id) q⟩
  obtain ⟨e', c, q⟩ := need_out q
  exact need_in c (k _ _ q)) q
theorem dONil_mono : Mono dONil := fun _ _ _ h q => h _ _ q
theorem se_call0 {x : Str} {p pos : Pos} (F : FnG X.prog X.w X.K X.mg X.base CX0 tb k f fd ps fs) (hr : RoomG k X.A) (hm : X.mg x = some (.ref f)) (hk : PySem.W.keepIn X.K (.ref f) = true) (hb : Binds X.K fd ps [])
    (hg : Gl X x := by rfl) (hdb : (x == ("__debug__" : Str)) = false := by decide) : SE tb X (.Call (.Name x p) [] [] pos) (dCall fs dONil) := by
  refine ⟨dCall_mono F.mono dONil_mono, ⟨fun pins s σ H Q I h => ?_⟩⟩
  refine wpAny_Call_Name_kw (ld_glob I hg hm ?_ hdb)
  have h2 := call_lift (X := X) (ws := dONil) (sp := fun _ _ _ _ => True) (E := E0) dONil_mono F.mono σ H Q h
  obtain ⟨Z, Fr, As, env, I0, q⟩ := h2
  exact PySem.W.callWith_K0 I.kIn hk (run_fnG (us := []) F hr hb pass0 I .nil (q [] H Z Step.refl I0 True.intro))
/-- by keywords: the order of the parameters is g's -/
def dCallK (fs : FS) (g : List Opd → List Opd) (ws : DOs) : DE := fun env Q => ws env fun os e => need (argO e (g os)) fun args => (varsO e (g os)).Nodup ∧ fs args (fun r args' => need (wrB e (g os) args') fun e' => Q r e') (fun _ => False)
end
end DV

set_option Elab.async false
set_option linter.all false
set_option maxRecDepth 100000
set_option maxHeartbeats 4000000
namespace DV
open PySem PySem.Spec PyProof.Rows L2

/-! ### what a loop walks -/
theorem _root_.L2.PI.imp {X : Cx} {tg e : Expr} {t t' : TI} (h : PI X tg e t) (i : ∀ σ H Q, t' σ H Q → t σ H Q) : PI X tg e t' := ⟨fun pins s σ H Q I q => h.run pins s σ H Q I (i σ H Q q)⟩
/-- x, a list or a tuple -/
def iSeqA (K : Frag) (tl : TE) : TI := fun σ H R => tl σ H fun x H1 => ∃ a, x = .ref a ∧ (((∃ xs, SqL K H1 a xs) ∧ R (Itl K a) H1) ∨ ((∃ xs, SqT K H1 a xs) ∧ R (Itt K a) H1))
theorem pi_seqA {X : Cx} {tg l : Expr} {tl : TE} (hl : PE X l tl) : PI X tg l (iSeqA X.K tl) := by
  refine ⟨fun pins s σ H R I h => ?_⟩
  refine thn (hl.run pins s σ H _ I h) fun v s1 ⟨x, H1, I1, r1, q1⟩ => ?_
  obtain ⟨a, e, q⟩ := q1
  subst e
  cases r1
  rcases q with ⟨⟨xs, hq⟩, q⟩ | ⟨⟨xs, hq⟩, q⟩
  · obtain ⟨its, rv, p, hz⟩ := I1.list hq
    refine wpAny_pyIter_list p.isList ?_
    refine ⟨s1.heap.objs.size, [s1.heap.objs.size], _, _, H1, rfl, I1.kept (t' := s1.toks) fun b o e => Heap.get?_push_of_some _ e, turn_list a _, ⟨_, Heap.get?_push_size _ rfl, rfl, rfl⟩, fun b hb => ?_, q⟩
    have e : b = s1.heap.objs.size := by simpa using hb
    subst e
    exact I1.fpOk (Nat.le_refl _) (I1.hok.fresh (Nat.le_refl _))
  · obtain ⟨its, rv, p, hz⟩ := I1.tuple hq
    refine wpAny_pyIter_tuple (show s1.heap.IsTuple a its.toArray from p) ?_
    refine ⟨s1.heap.objs.size, [s1.heap.objs.size], _, _, H1, rfl, I1.kept (t' := s1.toks) fun b o e => Heap.get?_push_of_some _ e, turn_tuple a _, ⟨_, Heap.get?_push_size _ rfl, rfl, rfl⟩, fun b hb => ?_, q⟩
    have e : b = s1.heap.objs.size := by simpa using hb
    subst e
    exact I1.fpOk (Nat.le_refl _) (I1.hok.fresh (Nat.le_refl _))

abbrev DI := En → (List D → En → Prop) → Prop
def ItOk (C : Cfg) (Z Fr : Addr → Prop) (H : Hp) (J : It) (ds : List D) : Prop :=
  ∀ Fr2 Z2 H2 i, Step Z Fr2 H Z2 H2 → Ok C Z2 Fr2 H2 → (∀ d, ds[i]? = some d → J.go i H2 ∧ ∀ x H3, J.yld i H2 x H3 → (H3 = H2 ∨ ∃ p o, H2 p = none ∧ H3 = upd H2 p o) ∧ Rp C.K Z2 H3 x d) ∧ (ds.length ≤ i → J.stop i H2)
def tI (C : Cfg) (w : DI) : TI := fun σ H R => ∃ Z Fr As env, EnvR C Z Fr As σ H env ∧ w env fun ds env' => ∀ J H' Z', Step Z Fr H Z' H' → EnvR C Z' Fr As σ H' env' → ItOk C Z' Fr H' J ds → R J H'
structure SI (tb : List Addr) (X : Cx) (tg e : Expr) (w : DI) : Prop where
  mono : Mono w
  pi : PI X tg e (tI ⟨X.K, tb⟩ w)
def seqD : D → Option (List D)
  | .list ds => some ds
  | .tuple ds => some ds
  | _ => none
theorem getElem?_lt' {α : Type} {l : List α} {i : Nat} {x : α} (h : l[i]? = some x) : i < l.length := (List.getElem?_eq_some_iff.mp h).1
section
variable {C : Cfg} {Z Fr : Addr → Prop} {H : Hp} {a b : Addr} {vs us : List V} {ds es : List D}
theorem itOk_list (z : Z a) (h : H a = some (.lst vs)) (r : Rps C.K Z H vs ds) : ItOk C Z Fr H (Itl C.K a) ds := fun Fr2 Z2 H2 i st ok => by
  have h2 : H2 a = some (.lst vs) := (st.keep a (.inl z)).trans h
  have q : SqL C.K H2 a vs := .inl (.inl h2)
  refine ⟨fun d e => ?_, fun l => ⟨vs, q, by rw [r.length]; exact l⟩⟩
  obtain ⟨v, ev, rv⟩ := (r.step st).get e
  refine ⟨⟨vs, v, q, ev⟩, fun x H3 ⟨e3, k⟩ => ?_⟩
  subst e3
  have := k vs q
  rw [ev] at this
  cases this
  exact ⟨.inl rfl, rv⟩
theorem itOk_tup (h : SqT C.K H a vs) (r : Rps C.K Z H vs ds) : ItOk C Z Fr H (Itt C.K a) ds := fun Fr2 Z2 H2 i st ok => by
  have q : SqT C.K H2 a vs := st.sqt h
  refine ⟨fun d e => ?_, fun l => ⟨vs, q, by rw [r.length]; exact l⟩⟩
  obtain ⟨v, ev, rv⟩ := (r.step st).get e
  refine ⟨⟨vs, v, q, ev⟩, fun x H3 ⟨e3, k⟩ => ?_⟩
  subst e3
  have := k vs q
  rw [ev] at this
  cases this
  exact ⟨.inl rfl, rv⟩
/-- lo, lo + 1, .. -/
def rngD (lo : Int) (n : Nat) : List D := (List.range n).map fun i => .int (lo + (i : Nat))
theorem rngD_get {lo : Int} {n i : Nat} {d : D} (h : (rngD lo n)[i]? = some d) : i < n ∧ d = .int (lo + (i : Nat)) := by
  have hl := getElem?_lt' h
  simp only [rngD, List.length_map, List.length_range] at hl
  refine ⟨hl, ?_⟩
  simp only [rngD, List.getElem?_map, List.getElem?_range hl, Option.map_some] at h
  exact (Option.some.inj h).symm
theorem rngD_length {lo : Int} {n : Nat} : (rngD lo n).length = n := by simp [rngD]
theorem itOk_rng {lo : Int} {n : Nat} : ItOk C Z Fr H (Itr lo n) (rngD lo n) := fun Fr2 Z2 H2 i st ok => by
  refine ⟨fun d e => ?_, fun l => by rw [rngD_length] at l; exact l⟩
  obtain ⟨hl, rfl⟩ := rngD_get e
  refine ⟨hl, fun x H3 ⟨e3, k⟩ => ?_⟩
  subst e3 k
  exact ⟨.inl rfl, .int _⟩
/-- lo, lo + c, .. -/
def rngC (lo c : Int) (n : Nat) : List D := (List.range n).map fun i => .int (lo + (i : Nat) * c)
theorem itOk_rngC {lo c : Int} {n : Nat} : ItOk C Z Fr H (Itc lo c n) (rngC lo c n) := fun Fr2 Z2 H2 i st ok => by
  refine ⟨fun d e => ?_, fun l => by simp only [rngC, List.length_map, List.length_range] at l; exact l⟩
  have hl := getElem?_lt' e
  simp only [rngC, List.length_map, List.length_range] at hl
  simp only [rngC, List.getElem?_map, List.getElem?_range hl, Option.map_some] at e
  refine ⟨hl, fun x H3 ⟨e3, k⟩ => ?_⟩
  cases e
  subst e3 k
  exact ⟨.inl rfl, .int _⟩
/-- (0, x0), (1, x1), .. -/
def enD (ds : List D) : List D := ds.zipIdx.map fun p => .tuple [.int (p.2 : Nat), p.1]
theorem enD_get {i : Nat} {d : D} (h : (enD ds)[i]? = some d) : ∃ x, ds[i]? = some x ∧ d = .tuple [.int (i : Nat), x] := by
  simp only [enD, List.getElem?_map, List.getElem?_zipIdx, Option.map_map, Option.map_eq_some_iff] at h
  obtain ⟨x, e, q⟩ := h
  exact ⟨x, e, by rw [← q]; simp⟩
theorem enD_length : (enD ds).length = ds.length := by simp [enD]
theorem itOk_enum (z : Z a) (h : H a = some (.lst vs)) (r : Rps C.K Z H vs ds) : ItOk C Z Fr H (Ite C.K a) (enD ds) := fun Fr2 Z2 H2 i st ok => by
  have h2 : H2 a = some (.lst vs) := (st.keep a (.inl z)).trans h
  have q : SqL C.K H2 a vs := .inl (.inl h2)
  refine ⟨fun d e => ?_, fun l => ⟨vs, q, by rw [r.length]; rw [enD_length] at l; exact l⟩⟩
  obtain ⟨d', e', rfl⟩ := enD_get e
  obtain ⟨v, ev, rv⟩ := (r.step st).get e'
  refine ⟨⟨vs, v, q, ev⟩, fun x H3 ⟨p, y, ex, np, e3, k⟩ => ?_⟩
  have := k vs q
  rw [ev] at this
  cases this
  subst e3 ex
  exact ⟨.inr ⟨p, _, np, rfl⟩, .tup upd_same (.cons (.int _) (.cons (rv.step (Step.new ok np)) .nil))⟩
def zipD (ds es : List D) : List D := (ds.zip es).map fun p => .tuple [p.1, p.2]
theorem zipD_get {i : Nat} {d : D} (h : (zipD ds es)[i]? = some d) : ∃ x y, ds[i]? = some x ∧ es[i]? = some y ∧ d = .tuple [x, y] := by
  simp only [zipD, List.getElem?_map, Option.map_eq_some_iff] at h
  obtain ⟨⟨x, y⟩, e, q⟩ := h
  obtain ⟨e1, e2⟩ := List.getElem?_zip_eq_some.mp e
  exact ⟨x, y, e1, e2, q.symm⟩
theorem zipD_end {i : Nat} (h : (zipD ds es).length ≤ i) : ds.length ≤ i ∨ es.length ≤ i := by
  simp only [zipD, List.length_map, List.length_zip] at h
  omega
theorem itOk_zip (z : Z a) (h : H a = some (.lst vs)) (r : Rps C.K Z H vs ds) (z' : Z b) (h' : H b = some (.lst us)) (r' : Rps C.K Z H us es) : ItOk C Z Fr H (Itz C.K a b) (zipD ds es) := fun Fr2 Z2 H2 i st ok => by
  have q : SqL C.K H2 a vs := .inl (.inl ((st.keep a (.inl z)).trans h))
  have q' : SqL C.K H2 b us := .inl (.inl ((st.keep b (.inl z')).trans h'))
  refine ⟨fun d e => ?_, fun l => ⟨vs, us, q, q', by rw [r.length, r'.length]; exact zipD_end l⟩⟩
  obtain ⟨d1, d2, e1, e2, rfl⟩ := zipD_get e
  obtain ⟨v, ev, rv⟩ := (r.step st).get e1
  obtain ⟨u, eu, ru⟩ := (r'.step st).get e2
  refine ⟨⟨vs, us, v, u, q, q', ev, eu⟩, fun x H3 ⟨p, y, y', ex, np, e3, k, k'⟩ => ?_⟩
  have k := k vs q
  have k' := k' us q'
  rw [ev] at k
  rw [eu] at k'
  cases k
  cases k'
  subst e3 ex
  exact ⟨.inr ⟨p, _, np, rfl⟩, .tup upd_same (.cons (rv.step (Step.new ok np)) (.cons (ru.step (Step.new ok np)) .nil))⟩
theorem itOk_zipT (h : SqT C.K H a vs) (r : Rps C.K Z H vs ds) (h' : SqT C.K H b us) (r' : Rps C.K Z H us es) : ItOk C Z Fr H (RZ.ItzT C.K a b) (zipD ds es) := fun Fr2 Z2 H2 i st ok => by
  have q : SqT C.K H2 a vs := st.sqt h
  have q' : SqT C.K H2 b us := st.sqt h'
  refine ⟨fun d e => ?_, fun l => ⟨vs, us, q, q', by rw [r.length, r'.length]; exact zipD_end l⟩⟩
  obtain ⟨d1, d2, e1, e2, rfl⟩ := zipD_get e
  obtain ⟨v, ev, rv⟩ := (r.step st).get e1
  obtain ⟨u, eu, ru⟩ := (r'.step st).get e2
  refine ⟨⟨vs, us, v, u, q, q', ev, eu⟩, fun x H3 ⟨p, y, y', ex, np, e3, k, k'⟩ => ?_⟩
  have k := k vs q
  have k' := k' us q'
  rw [ev] at k
  rw [eu] at k'
  cases k
  cases k'
  subst e3 ex
  exact ⟨.inr ⟨p, _, np, rfl⟩, .tup upd_same (.cons (rv.step (Step.new ok np)) (.cons (ru.step (Step.new ok np)) .nil))⟩
/-- from the end -/
theorem itOk_rev (z : Z a) (h : H a = some (.lst vs)) (r : Rps C.K Z H vs ds) : ItOk C Z Fr H (Itv C.K a vs.length) ds.reverse := fun Fr2 Z2 H2 i st ok => by
  have q : SqL C.K H2 a vs := .inl (.inl ((st.keep a (.inl z)).trans h))
  refine ⟨fun d e => ?_, fun l => by rw [List.length_reverse, ← r.length] at l; exact l⟩
  have hl := getElem?_lt' e
  rw [List.length_reverse] at hl
  rw [List.getElem?_reverse hl] at e
  obtain ⟨v, ev, rv⟩ := (r.step st).get e
  rw [← r.length] at ev hl
  refine ⟨⟨hl, vs, v, q, ev⟩, fun x H3 ⟨e3, k⟩ => ?_⟩
  subst e3
  have := k vs q
  rw [ev] at this
  cases this
  exact ⟨.inl rfl, rv⟩
theorem itOk_revT (h : SqT C.K H a vs) (r : Rps C.K Z H vs ds) : ItOk C Z Fr H (RT.ItvT C.K a vs.length) ds.reverse := fun Fr2 Z2 H2 i st ok => by
  have q : SqT C.K H2 a vs := st.sqt h
  refine ⟨fun d e => ?_, fun l => by rw [List.length_reverse, ← r.length] at l; exact l⟩
  have hl := getElem?_lt' e
  rw [List.length_reverse] at hl
  rw [List.getElem?_reverse hl] at e
  obtain ⟨v, ev, rv⟩ := (r.step st).get e
  rw [← r.length] at ev hl
  refine ⟨⟨hl, vs, v, q, ev⟩, fun x H3 ⟨e3, k⟩ => ?_⟩
  subst e3
  have := k vs q
  rw [ev] at this
  cases this
  exact ⟨.inl rfl, rv⟩
end

section
variable {tb : List Addr} {X : Cx} {tg : Expr}
/-- over a list or a tuple -/
def dSq (w : DV) : DI := fun env Q => w env fun d e => need (seqD d) fun ds => Q ds e
theorem dSq_mono {w : DV} (m : Mono w) : Mono (dSq w) := fun env Q Q' k q => m env _ _ (fun _ _ q => let ⟨_, e, q⟩ := need_out q; need_in e (k _ _ q)) q
theorem si_seq {e : Expr} {w : DV} (h : SV tb X e w) : SI tb X tg e (dSq w) := ⟨dSq_mono h.mono, (pi_seqA h.pe).imp fun σ H R ⟨Z, Fr, As, env, I, q⟩ =>
  ⟨Z, Fr, As, env, I, h.mono env _ _ (fun d e q v H' Z' st I' r => by
    obtain ⟨ds, ed, q⟩ := need_out q
    cases r with
    | lst z h r => cases ed; exact ⟨_, rfl, .inl ⟨⟨_, .inl (.inl h)⟩, q _ _ _ st I' (itOk_list (C := ⟨X.K, tb⟩) z h r)⟩⟩
    | tup h r => cases ed; exact ⟨_, rfl, .inr ⟨⟨_, sqT h⟩, q _ _ _ st I' (itOk_tup (C := ⟨X.K, tb⟩) (sqT h) r)⟩⟩
    | _ => cases ed) q⟩⟩
def dRng1 (w : DVs) : DI := fun env Q => w env fun ds e => match ds with
  | [.int j] => (-(2 ^ 62) ≤ j ∧ j < 2 ^ 62) ∧ Q (rngD 0 j.toNat) e
  | _ => False
theorem si_rng1 {a : Expr} {p pos : Pos} {w : DVs} (hg : Gl X "range") (hm : X.mg "range" = none) (ha : SVs tb X [a] w) (hs : starEach [a] X.env = [(false, eval a X.env)] := by rfl) : SI tb X tg (.Call (.Name "range" p) [a] [] pos) (dRng1 w) :=
  ⟨fun env Q Q' k q => ha.mono env _ _ (fun ds e q => by
    revert q
    split
    · exact fun ⟨a, q⟩ => ⟨a, k _ _ q⟩
    · exact id) q, (pi_range1 hg hm ha.pe hs).imp fun σ H R ⟨Z, Fr, As, env, I, q⟩ => ⟨Z, Fr, As, env, I, ha.mono env _ _ (fun ds e q vs H' Z' st I' r => by
    revert q
    split
    · rintro ⟨⟨h1, h2⟩, q⟩
      match vs, r with
      | [_], .cons (.int j) .nil => exact ⟨_, rfl, h1, h2, q _ _ _ st I' (itOk_rng (C := ⟨X.K, tb⟩))⟩
    · exact fun q => q.elim) q⟩⟩
def dRng2 (w : DVs) : DI := fun env Q => w env fun ds e => match ds with
  | [.int i, .int j] => (-(2 ^ 62) ≤ i ∧ i < 2 ^ 62 ∧ -(2 ^ 62) ≤ j ∧ j < 2 ^ 62) ∧ Q (rngD i (j - i).toNat) e
  | _ => False
theorem si_rng2 {a b : Expr} {p pos : Pos} {w : DVs} (hg : Gl X "range") (hm : X.mg "range" = none) (ha : SVs tb X [a, b] w) (hs : starEach [a, b] X.env = [(false, eval a X.env), (false, eval b X.env)] := by rfl) (hs2 : starEach [b] X.env = [(false, eval b X.env)] := by rfl) :
    SI tb X tg (.Call (.Name "range" p) [a, b] [] pos) (dRng2 w) :=
  ⟨fun env Q Q' k q => ha.mono env _ _ (fun ds e q => by
    revert q
    split
    · exact fun ⟨a, q⟩ => ⟨a, k _ _ q⟩
    · exact id) q, (pi_range2 hg hm ha.pe hs hs2).imp fun σ H R ⟨Z, Fr, As, env, I, q⟩ => ⟨Z, Fr, As, env, I, ha.mono env _ _ (fun ds e q vs H' Z' st I' r => by
    revert q
    split
    · rintro ⟨h1, q⟩
      match vs, r with
      | [_, _], .cons (.int i) (.cons (.int j) .nil) => exact ⟨_, _, rfl, h1, q _ _ _ st I' (itOk_rng (C := ⟨X.K, tb⟩))⟩
    · exact fun q => q.elim) q⟩⟩
def dRng3 (w : DVs) : DI := fun env Q => w env fun ds e => match ds with
  | [.int i, .int j, .int c] => ∃ n, RgC i j c n ∧ Q (rngC i c n) e
  | _ => False
theorem si_rng3 {a b c : Expr} {p pos : Pos} {w : DVs} (hg : Gl X "range") (hm : X.mg "range" = none) (ha : SVs tb X [a, b, c] w)
    (hs : starEach [a, b, c] X.env = (false, eval a X.env) :: starEach [b, c] X.env := by rfl) (hpl : (backTo pos (starEach [b, c] X.env)).any (·.1) = false := by rfl) :
    SI tb X tg (.Call (.Name "range" p) [a, b, c] [] pos) (dRng3 w) :=
  ⟨fun env Q Q' k q => ha.mono env _ _ (fun ds e q => by
    revert q
    split
    · exact fun ⟨n, a, q⟩ => ⟨n, a, k _ _ q⟩
    · exact id) q, (pi_range3 hg hm ha.pe hs hpl).imp fun σ H R ⟨Z, Fr, As, env, I, q⟩ => ⟨Z, Fr, As, env, I, ha.mono env _ _ (fun ds e q vs H' Z' st I' r => by
    revert q
    split
    · rintro ⟨n, h1, q⟩
      match vs, r with
      | [_, _, _], .cons (.int i) (.cons (.int j) (.cons (.int c) .nil)) => exact ⟨_, _, _, n, rfl, h1, q _ _ _ st I' (itOk_rngC (C := ⟨X.K, tb⟩))⟩
    · exact fun q => q.elim) q⟩⟩
def liO : D → Option (List D)
  | .list ds => some ds
  | _ => none
def dEnm (w : DVs) : DI := fun env Q => w env fun ds e => match ds with
  | [.list ds] => Q (enD ds) e
  | _ => False
theorem si_enum {e : Expr} {p pos tpos : Pos} {elts : List Expr} {kk : Nat} {w : DVs} (hg : Gl X "enumerate") (hm : X.mg "enumerate" = none) (ha : SVs tb X [e] w) (hs : starEach [e] X.env = [(false, eval e X.env)] := by rfl) :
    SI tb X (.Tuple elts kk tpos) (.Call (.Name "enumerate" p) [e] [] pos) (dEnm w) :=
  ⟨fun env Q Q' k q => ha.mono env _ _ (fun ds e q => by
    revert q
    split
    · exact k _ _
    · exact id) q, (pi_enum hg hm ha.pe hs).imp fun σ H R ⟨Z, Fr, As, env, I, q⟩ => ⟨Z, Fr, As, env, I, ha.mono env _ _ (fun ds e q vs H' Z' st I' r => by
    revert q
    split
    · intro q
      match vs, r with
      | [_], .cons (.lst z h r) .nil => exact ⟨_, _, rfl, .inl (.inl h), q _ _ _ st I' (itOk_enum (C := ⟨X.K, tb⟩) z h r)⟩
    · exact fun q => q.elim) q⟩⟩
def dZip (w : DVs) : DI := fun env Q => w env fun ds e => match ds with
  | [.list ds, .list es] => Q (zipD ds es) e
  | [.tuple ds, .tuple es] => Q (zipD ds es) e
  | _ => False
theorem si_zip {e e2 : Expr} {p pos tpos : Pos} {elts : List Expr} {kk : Nat} {w : DVs} (hg : Gl X "zip") (hm : X.mg "zip" = none) (ha : SVs tb X [e, e2] w)
    (hs : starEach [e, e2] X.env = (false, eval e X.env) :: starEach [e2] X.env := by rfl) (hpl : (backTo pos (starEach [e2] X.env)).any (·.1) = false := by rfl) :
    SI tb X (.Tuple elts kk tpos) (.Call (.Name "zip" p) [e, e2] [] pos) (dZip w) :=
  ⟨fun env Q Q' k q => ha.mono env _ _ (fun ds e q => by
    revert q
    split
    · exact k _ _
    · exact k _ _
    · exact id) q, (RZ.pi_zipA hg hm ha.pe hs hpl).imp fun σ H R ⟨Z, Fr, As, env, I, q⟩ => ⟨Z, Fr, As, env, I, ha.mono env _ _ (fun ds e q vs H' Z' st I' r => by
    revert q
    split
    · intro q
      match vs, r with
      | [_, _], .cons (.lst z h r) (.cons (.lst z' h' r') .nil) => exact ⟨_, _, _, _, rfl, .inl ⟨.inl (.inl h), .inl (.inl h'), q _ _ _ st I' (itOk_zip (C := ⟨X.K, tb⟩) z h r z' h' r')⟩⟩
    · intro q
      match vs, r with
      | [_, _], .cons (.tup h r) (.cons (.tup h' r') .nil) => exact ⟨_, _, _, _, rfl, .inr ⟨sqT h, sqT h', q _ _ _ st I' (itOk_zipT (C := ⟨X.K, tb⟩) (sqT h) r (sqT h') r')⟩⟩
    · exact fun q => q.elim) q⟩⟩
def dRev (w : DV) : DI := fun env Q => w env fun d e => need (seqD d) fun ds => Q ds.reverse e
theorem si_rev {e : Expr} {p pos : Pos} {w : DV} (hg : Gl X "reversed") (hm : X.mg "reversed" = none) (h : SV tb X e w) (hs : starEach [e] X.env = (false, eval e X.env) :: starEach [] X.env := by rfl) : SI tb X tg (.Call (.Name "reversed" p) [e] [] pos) (dRev w) :=
  ⟨fun env Q Q' k q => h.mono env _ _ (fun _ _ q => let ⟨_, e, q⟩ := need_out q; need_in e (k _ _ q)) q, (RT.pi_revA hg hm h.pe hs).imp fun σ H R ⟨Z, Fr, As, env, I, q⟩ =>
  ⟨Z, Fr, As, env, I, h.mono env _ _ (fun d e q v H' Z' st I' r => by
    obtain ⟨ds, ed, q⟩ := need_out q
    cases r with
    | lst z h r => cases ed; exact ⟨_, _, rfl, .inl ⟨.inl (.inl h), q _ _ _ st I' (itOk_rev (C := ⟨X.K, tb⟩) z h r)⟩⟩
    | tup h r => cases ed; exact ⟨_, _, rfl, .inr ⟨sqT h, q _ _ _ st I' (itOk_revT (C := ⟨X.K, tb⟩) (sqT h) r)⟩⟩
    | _ => cases ed) q⟩⟩

/-! ### for -/
def dForL (g : DG) (b : DS) : List D → En → DEnds → Prop
  | [], env, D => D.nx env
  | d :: ds, env, D => g (.val d) env fun e => b e { nx := fun e => dForL g b ds e D, ct := fun e => dForL g b ds e D, bk := D.nx, rt := D.rt }
theorem dForL_mono {g : DG} {b : DS} (mg : MonoT g) (mb : MonoS b) : ∀ ds, MonoS (dForL g b ds)
  | [] => fun _ _ _ l q => l.nx _ q
  | d :: ds => fun env A B l q => mg _ env _ _ (fun e q => mb e { nx := fun e => dForL g b ds e A, ct := fun e => dForL g b ds e A, bk := A.nx, rt := A.rt } _ ⟨fun e q => dForL_mono mg mb ds e _ _ l q, l.rt, l.nx, fun e q => dForL_mono mg mb ds e _ _ l q⟩ q) q
def dFor (wi : DI) (g : DG) (b : DS) : DS := fun env D => wi env fun ds e => dForL g b ds e D
/-- an item has come -/
theorem yld_env {C : Cfg} {Z Fr : Addr → Prop} {As : Nat → Addr} {σ : L2.St} {H H3 : Hp} {env : En} (I : EnvR C Z Fr As σ H env) (y : H3 = H ∨ ∃ p o, H p = none ∧ H3 = upd H p o) : EnvR C Z Fr As σ H3 env ∧ Step Z Fr H Z H3 := by
  rcases y with rfl | ⟨p, o, np, rfl⟩
  · exact ⟨I, Step.refl⟩
  · exact ⟨I.new np, Step.new I.ok np⟩
theorem ss_for {iter : Expr} {body : List Stmt} {wi : DI} {g : DG} {b : DS} {pos : Pos} (hp : PassesOwn (model X.prog X.w) X.A X.env X.xe) (hc : X.calm = true) (hi : SI tb X tg iter wi) (hg : SG tb X tg g) (hb : SSs tb X body b)
    (hs : ∀ x, foldedSetIterable iter X.env x = pure x := by intro _; rfl) : SS tb X (.For tg iter body [] pos) (dFor wi g b) :=
  ⟨fun env A B l q => hi.mono env _ _ (fun ds e q => dForL_mono hg.mono hb.mono ds e _ _ l q) q, (ps_for hp hc hi.pi hg.pg hb.ps hs).imp fun D σ H ⟨Z, Fr, As, env, I, q⟩ => by
    refine ⟨Z, Fr, As, env, I, hi.mono env _ _ (fun ds e q J H1 Z1 st1 I1 ok => ?_) q⟩
    refine ⟨fun i m σ2 H2 => i + m = ds.length ∧ ∃ Z2 env2, Step Z1 Fr H1 Z2 H2 ∧ EnvR ⟨X.K, tb⟩ Z2 Fr As σ2 H2 env2 ∧ dForL g b (ds.drop i) env2 (upE ⟨X.K, tb⟩ Z2 Fr As H2 D),
      ⟨ds.length, Nat.zero_add _, Z1, e, Step.refl, I1, dForL_mono hg.mono hb.mono ds e _ _ (upE_le st1) q⟩, ?_⟩
    rintro i m σ2 H2 ⟨im, Z2, env2, st2, I2, q2⟩
    obtain ⟨go, stop⟩ := ok _ Z2 H2 i st2 I2.ok
    by_cases hl : i < ds.length
    · refine .inr ?_
      have ed : ds[i]? = some ds[i] := List.getElem?_eq_getElem hl
      obtain ⟨go, yl⟩ := go _ ed
      rw [List.drop_eq_getElem_cons hl] at q2
      refine ⟨go, fun σ' H' => ∃ Z3 env3, Step Z1 Fr H1 Z3 H' ∧ EnvR ⟨X.K, tb⟩ Z3 Fr As σ' H' env3 ∧ dForL g b (ds.drop (i + 1)) env3 (upE ⟨X.K, tb⟩ Z3 Fr As H' D), fun σ' H' h => ⟨m - 1, by omega, by omega, h⟩, fun x H3 y => ?_⟩
      obtain ⟨y1, rx⟩ := yl x H3 y
      obtain ⟨I3, st3⟩ := yld_env I2 y1
      refine ⟨Z2, Fr, As, env2, .val ds[i], I3, rx, hg.mono _ env2 _ _ (fun e4 q4 σ4 H4 Z4 st4 I4 => ⟨Z4, Fr, As, e4, I4, hb.mono e4 _ _ ?_ q4⟩) q2⟩
      have lift : ∀ e5, dForL g b (ds.drop (i + 1)) e5 (upE ⟨X.K, tb⟩ Z2 Fr As H2 D) → ∀ σ' H' Z', Step Z4 Fr H4 Z' H' → EnvR ⟨X.K, tb⟩ Z' Fr As σ' H' e5 →
          ∃ Z3 env3, Step Z1 Fr H1 Z3 H' ∧ EnvR ⟨X.K, tb⟩ Z3 Fr As σ' H' env3 ∧ dForL g b (ds.drop (i + 1)) env3 (upE ⟨X.K, tb⟩ Z3 Fr As H' D) := fun e5 q5 σ' H' Z' st5 I5 =>
        ⟨Z', e5, ((st2.trans st3).trans st4).trans st5, I5, dForL_mono hg.mono hb.mono _ e5 _ _ (upE_le ((st3.trans st4).trans st5)) q5⟩
      exact ⟨lift, fun r e5 q5 v σ' H' Z' st5 I5 R5 => q5 v σ' H' Z' ((st3.trans st4).trans st5) I5 R5, fun e5 q5 σ' H' Z' st5 I5 => q5 σ' H' Z' ((st3.trans st4).trans st5) I5, lift⟩
    · refine .inl ⟨stop (by omega), ?_⟩
      rw [List.drop_eq_nil_of_le (by omega)] at q2
      exact q2 σ2 H2 Z2 Step.refl I2⟩

/-! ### while: by fuel -/
def dWhN (c : DT) (b : DS) : Nat → En → DEnds → Prop
  | 0, _, _ => False
  | n + 1, env, D => c env fun t e => if t = true then b e { nx := fun e => dWhN c b n e D, ct := fun e => dWhN c b n e D, bk := D.nx, rt := D.rt } else D.nx e
theorem dWhN_mono {c : DT} {b : DS} (mc : Mono c) (mb : MonoS b) : ∀ n, MonoS (dWhN c b n)
  | 0 => fun _ _ _ _ q => q
  | n + 1 => fun env A B l q => mc env _ _ (fun t e q => by
    cases t with
    | true => exact mb e { nx := fun e => dWhN c b n e A, ct := fun e => dWhN c b n e A, bk := A.nx, rt := A.rt } _ ⟨fun e q => dWhN_mono mc mb n e _ _ l q, l.rt, l.nx, fun e q => dWhN_mono mc mb n e _ _ l q⟩ q
    | false => exact l.nx _ q) q
def dWh (c : DT) (b : DS) : DS := fun env D => ∃ n, dWhN c b n env D
theorem ss_while {c : Expr} {body : List Stmt} {pos : Pos} {w : DT} {b : DS} (hp : PassesOwn (model X.prog X.w) X.A X.env X.xe) (hc : ST tb X c w) (hb : SSs tb X body b) : SS tb X (.While c body [] pos) (dWh w b) :=
  ⟨fun env A B l ⟨n, q⟩ => ⟨n, dWhN_mono hc.mono hb.mono n env _ _ l q⟩, (ps_while hp hc.pe hb.ps).imp fun D σ H ⟨Z, Fr, As, env, I, n, q⟩ => by
    refine ⟨fun m σ2 H2 => ∃ Z2 env2, Step Z Fr H Z2 H2 ∧ EnvR ⟨X.K, tb⟩ Z2 Fr As σ2 H2 env2 ∧ dWhN w b m env2 (upE ⟨X.K, tb⟩ Z2 Fr As H2 D), ⟨n, Z, env, Step.refl, I, q⟩, ?_⟩
    rintro m σ2 H2 ⟨Z2, env2, st2, I2, q2⟩
    cases m with
    | zero => exact q2.elim
    | succ m =>
      refine ⟨Z2, Fr, As, env2, I2, hc.mono env2 _ _ (fun t e3 q3 H3 Z3 st3 I3 => ?_) q2⟩
      cases t with
      | false => exact q3 σ2 H3 Z3 st3 I3
      | true =>
        refine ⟨fun σ' H' => ∃ Z4 env4, Step Z Fr H Z4 H' ∧ EnvR ⟨X.K, tb⟩ Z4 Fr As σ' H' env4 ∧ dWhN w b m env4 (upE ⟨X.K, tb⟩ Z4 Fr As H' D), fun σ' H' h => ⟨m, Nat.lt_succ_self _, h⟩, Z3, Fr, As, e3, I3, hb.mono e3 _ _ ?_ q3⟩
        have lift : ∀ e5, dWhN w b m e5 (upE ⟨X.K, tb⟩ Z2 Fr As H2 D) → ∀ σ' H' Z', Step Z3 Fr H3 Z' H' → EnvR ⟨X.K, tb⟩ Z' Fr As σ' H' e5 →
            ∃ Z4 env4, Step Z Fr H Z4 H' ∧ EnvR ⟨X.K, tb⟩ Z4 Fr As σ' H' env4 ∧ dWhN w b m env4 (upE ⟨X.K, tb⟩ Z4 Fr As H' D) := fun e5 q5 σ' H' Z' st5 I5 =>
          ⟨Z', e5, (st2.trans st3).trans st5, I5, dWhN_mono hc.mono hb.mono m e5 _ _ (upE_le (st3.trans st5)) q5⟩
        exact ⟨lift, fun r e5 q5 v σ' H' Z' st5 I5 R5 => q5 v σ' H' Z' (st3.trans st5) I5 R5, fun e5 q5 σ' H' Z' st5 I5 => q5 σ' H' Z' (st3.trans st5) I5, lift⟩⟩
end
end DV

set_option Elab.async false
set_option linter.all false
set_option maxRecDepth 100000
set_option maxHeartbeats 4000000
namespace DV
open PySem PySem.Spec PyProof.Rows L2

/-! ### the block of a comprehension -/
def wipeE : List Nat → En → En
  | [], env => env
  | v :: vs, env => (wipeE vs env).set v none
def keepS : Option Slot → Option Slot
  | some (.val d) => some (.val d)
  | some (.scr ns) => some (.scr ns)
  | _ => none
/-- the def's own variables of these names come back -/
def backE (e0 : En) : List Nat → En → En
  | [], env => env
  | v :: vs, env => (backE e0 vs env).set v (keepS (sl e0 v))
section
variable {C : Cfg} {Z Z' Fr Fr' : Addr → Prop} {As : Nat → Addr} {σ σ' : L2.St} {H H' : Hp} {env env' e0 : En}
theorem EnvR.unset {i : Nat} (I : EnvR C Z Fr As σ H env) : EnvR C Z Fr As (σ.set i none) H (env.set i none) where
  ok := I.ok
  len := by rw [List.length_set, List.length_set]; exact I.len
  slot := fun j w x h1 h2 => by
    rcases getElem?_set' h2 with ⟨_, h2, _⟩ | ⟨e, h2⟩
    · subst h2; exact True.intro
    · rw [List.getElem?_set_ne e] at h1
      exact I.slot j w x h1 h2
  apart := fun a j k h1 h2 => by
    have back : ∀ {j}, OwnAt (σ.set i none) (env.set i none) a j → OwnAt σ env a j := fun {j} ⟨g1, t, m, g2⟩ => by
      rcases getElem?_set' g2 with ⟨_, g2, _⟩ | ⟨e, g2⟩
      · cases g2
      · rw [List.getElem?_set_ne e] at g1
        exact ⟨g1, t, m, g2⟩
    exact I.apart a j k (back h1) (back h2)
theorem EnvR.wipe (I : EnvR C Z Fr As σ H env) : ∀ vs, EnvR C Z Fr As (L2.wipe σ vs) H (wipeE vs env)
  | [] => I
  | _ :: vs => (I.wipe vs).unset
theorem backE_length : ∀ vs, (backE e0 vs env).length = env.length
  | [] => rfl
  | v :: vs => by unfold backE; rw [List.length_set, backE_length vs]
theorem backE_in {i : Nat} {x : Option Slot} : ∀ {vs : List Nat}, (backE e0 vs env)[i]? = some x → (i ∈ vs ∧ x = keepS (sl e0 i)) ∨ (i ∉ vs ∧ env[i]? = some x)
  | [], h => .inr ⟨by simp, h⟩
  | v :: vs, h => by
    unfold backE at h
    rcases getElem?_set' h with ⟨e, h1, _⟩ | ⟨e, h1⟩
    · subst e; exact .inl ⟨by simp, h1⟩
    · rcases backE_in h1 with ⟨m, h⟩ | ⟨m, h⟩
      · exact .inl ⟨List.mem_cons_of_mem _ m, h⟩
      · exact .inr ⟨fun z => (List.mem_cons.mp z).elim (fun z => e z.symm) m, h⟩
/-- behind the block -/
theorem EnvR.back {vs : List Nat} (I0 : EnvR C Z Fr As σ H e0) (st : Step Z Fr H Z' H') (I : EnvR C Z' Fr As (L2.wipe σ vs) H' env) : EnvR C Z' Fr As σ H' (backE e0 vs env) where
  ok := I.ok
  len := by rw [backE_length, ← I.len, wipe_length]
  slot := fun j w x h1 h2 => by
    rcases backE_in h2 with ⟨m, e⟩ | ⟨m, h2⟩
    · subst e
      cases q : sl e0 j with
      | none => exact True.intro
      | some s =>
        have s0 := I0.slot j w _ h1 (sl_at q)
        cases s with
        | val d => obtain ⟨u, e, r⟩ := s0; exact ⟨u, e, r.step st⟩
        | scr ns => obtain ⟨a, e, r⟩ := s0; exact ⟨a, e, st.sqs r⟩
        | own t m => exact True.intro
    · exact I.slot j w x (by rw [wipe_out m]; exact h1) h2
  apart := fun a j k h1 h2 => by
    have go : ∀ {j}, OwnAt σ (backE e0 vs env) a j → OwnAt (L2.wipe σ vs) env a j := fun {j} ⟨g1, t, m, g2⟩ => by
      rcases backE_in g2 with ⟨mm, e⟩ | ⟨mm, g2⟩
      · cases q : sl e0 j with
        | none => rw [q] at e; cases e
        | some s => rw [q] at e; cases s <;> cases e
      · exact ⟨by rw [wipe_out mm]; exact g1, t, m, g2⟩
    exact I.apart a j k (go h1) (go h2)
/-- an object of a frame's is changed -/
theorem EnvR.updFr {p : Addr} {o o' : HO} (I : EnvR C Z (fun a => Fr a ∨ a = p) As σ H env) (h : H p = some o) (mu : Mut (some o)) : EnvR C Z (fun a => Fr a ∨ a = p) As σ (upd H p o') env ∧ ∀ {Fr2 : Addr → Prop}, (∀ a, Fr2 a → Fr a) → (∀ a, Fr2 a → a ≠ p) → Step Z Fr2 H Z (upd H p o') := by
  have hne : ∀ b u, H b = some u → ¬ Mut (some u) → b ≠ p := fun b u q nm y => by rw [y, h] at q; cases q; exact nm mu
  have nz : ¬ Z p := fun z => I.ok.zf p z (.inr rfl)
  have st : ∀ {Fr2 : Addr → Prop}, (∀ a, Fr2 a → Fr a) → (∀ a, Fr2 a → a ≠ p) → Step Z Fr2 H Z (upd H p o') := fun {Fr2} _ hf => by
    refine ⟨fun _ q => q, fun b q => upd_ne fun y => ?_, fun b vs q => by rw [upd_ne (hne b _ q fun y => y)]; exact q, fun b o u q => by rw [upd_ne (hne b _ q fun y => y)]; exact q, fun _ q _ => q, fun b q => ?_⟩
    · rw [y] at q
      exact q.elim nz fun f => hf p f rfl
    · by_cases y : b = p
      · rw [y, upd_same]; exact fun q => by cases q
      · rw [upd_ne y]; exact q
  refine ⟨⟨⟨fun b q => (st (Fr2 := fun _ => False) (fun _ q => q.elim) (fun _ q => q.elim)).non b (I.ok.z b q), fun b q => (st (Fr2 := fun _ => False) (fun _ q => q.elim) (fun _ q => q.elim)).non b (I.ok.f b q), I.ok.zf, fun P hP => ?_, I.ok.nz⟩, I.len, fun j w x g1 g2 => ?_, I.apart⟩, st⟩
  · obtain ⟨ps, q, y⟩ := I.ok.tab P hP
    exact ⟨ps, by rw [upd_ne (hne P _ q fun y => y)]; exact q, y⟩
  · have s := I.slot j w x g1 g2
    have st' := st (Fr2 := fun _ => False) (fun _ q => q.elim) (fun _ q => q.elim)
    rcases x with _ | ⟨d | ⟨t2, m2⟩ | ns⟩
    · exact True.intro
    · obtain ⟨u, q, y⟩ := s
      exact ⟨u, q, y.step st'⟩
    · obtain ⟨b, q, y, z2, f2, k2⟩ := s
      exact ⟨b, q, y.step st' (upd_ne fun e => f2 (.inr e)), z2, f2, k2⟩
    · obtain ⟨u, q, y⟩ := s
      exact ⟨u, q, st'.sqs y⟩
end

/-! ### targets that touch the block's names alone -/
def tGW (C : Cfg) (vs : List Nat) (g : DG) : TG := fun v σ H Q => ∃ Z Fr As env r, EnvR C Z Fr As σ H env ∧ ResR C Z Fr σ env H v r ∧ g r env fun e => ∀ σ' H' Z', Step Z Fr H Z' H' → EnvR C Z' Fr As σ' H' e → wipe σ' vs = wipe σ vs → Q σ' H'
structure SGb (vs : List Nat) (tb : List Addr) (X : Cx) (e : Expr) (g : DG) : Prop where
  mono : MonoT g
  pg : PG X e (tGW ⟨X.K, tb⟩ vs g)
def tGsW (C : Cfg) (vs : List Nat) (g : DGs) : TGs := fun us σ H Q => ∃ Z Fr As env ds, EnvR C Z Fr As σ H env ∧ Rps C.K Z H us ds ∧ g ds env fun e => ∀ σ' H' Z', Step Z Fr H Z' H' → EnvR C Z' Fr As σ' H' e → wipe σ' vs = wipe σ vs → Q σ' H'
structure SGbs (vs : List Nat) (tb : List Addr) (X : Cx) (es : List Expr) (g : DGs) : Prop where
  mono : MonoTs g
  pg : PGs X es (tGsW ⟨X.K, tb⟩ vs g)
theorem wipe_set {σ : L2.St} {i : Nat} {v : Option V} : ∀ {vs : List Nat}, i ∈ vs → wipe (σ.set i v) vs = wipe σ vs
  | [], h => by simp at h
  | j :: vs, h => by
    unfold wipe
    by_cases hm : i ∈ vs
    · rw [wipe_set hm]
    · have e : i = j := (List.mem_cons.mp h).elim id fun z => absurd z hm
      subst e
      apply List.ext_getElem?
      intro k
      by_cases hk : i = k
      · subst hk
        rw [List.getElem?_set, List.getElem?_set]
        simp only [if_true, wipe_length, List.length_set]
      · rw [List.getElem?_set_ne hk, List.getElem?_set_ne hk]
        by_cases hv : k ∈ vs
        · have : ∀ (σ1 σ2 : L2.St) (us : List Nat), σ1.length = σ2.length → k ∈ us → (wipe σ1 us)[k]? = (wipe σ2 us)[k]? := by
            intro σ1 σ2 us hl
            induction us with
            | nil => intro h; simp at h
            | cons u us ih =>
              intro h
              unfold wipe
              by_cases hu : u = k
              · subst hu
                rw [List.getElem?_set, List.getElem?_set, wipe_length, wipe_length, hl]
                simp only [if_true]
              · rw [List.getElem?_set_ne hu, List.getElem?_set_ne hu]
                exact ih ((List.mem_cons.mp h).elim (fun z => absurd z.symm hu) id)
          exact this _ _ _ (by rw [List.length_set]) hv
        · rw [wipe_out hv, wipe_out hv, List.getElem?_set_ne hk]
section
variable {vs : List Nat} {tb : List Addr} {X : Cx}
theorem sgb_name (i : Nat) {x : Str} {pos : Pos} (hN : X.N.Nodup) (hm : i ∈ vs := by decide) (hi : X.N[i]? = some x := by rfl) (hx : Loc X.env.scope x := by first | exact Or.inl rfl | exact Or.inr rfl) (hf : X.fn x = true ∨ X.env.scope.names.lookup x = some .local := by first | exact .inl rfl | exact .inr rfl) : SGb vs tb X (.Name x pos) (gNm i) :=
  ⟨fun _ _ _ _ k q => k _ q, (pg_name hN hi hx hf).imp fun v σ H Q ⟨Z, Fr, As, env, r, I, R, q⟩ => q _ H Z Step.refl (I.setRes R) (wipe_set hm)⟩
theorem sgbs_nil : SGbs vs tb X [] gNil' := ⟨fun ds _ _ _ k q => by
    cases ds with
    | nil => exact k _ q
    | cons _ _ => exact q, pgs_nil.imp fun us σ H Q ⟨Z, Fr, As, env, ds, I, R, q⟩ => by
    cases R with
    | nil => exact ⟨rfl, q σ H Z Step.refl I rfl⟩
    | cons _ _ => exact q.elim⟩
theorem sgbs_cons {e : Expr} {es : List Expr} {g : DG} {gs : DGs} (h : SGb vs tb X e g) (hs : SGbs vs tb X es gs) (ha : (assignEach (e :: es) X.env).map (·.2) = assign e X.env :: (assignEach es X.env).map (·.2) := by rfl) : SGbs vs tb X (e :: es) (gCons' g gs) :=
  ⟨fun ds env Q Q' k q => by
    cases ds with
    | nil => exact q
    | cons d ds => exact h.mono _ env _ _ (fun e q => hs.mono _ e _ _ k q) q, (pgs_cons h.pg hs.pg ha).imp fun us σ H Q ⟨Z, Fr, As, env, ds, I, R, q⟩ => by
    cases R with
    | nil => exact q.elim
    | cons r rs =>
      exact ⟨_, _, rfl, Z, Fr, As, env, .val _, I, r, h.mono _ env _ _ (fun e q σ' H' Z' st I' hw => ⟨Z', Fr, As, e, _, I', rs.step st, hs.mono _ e _ _ (fun e q σ2 H2 Z2 st2 I2 hw2 => q σ2 H2 Z2 (st.trans st2) I2 (hw2.trans hw)) q⟩) q⟩⟩
theorem sgb_tup {es : List Expr} {k : Nat} {pos : Pos} {gs : DGs} {n : Nat} (hc : X.calm = true) (h : SGbs vs tb X es gs) (hn : (assignEach es X.env).length = n := by rfl) (hst : (assignEach es X.env).findIdx? (·.1) = none := by rfl) : SGb vs tb X (.Tuple es k pos) (gTp n gs) :=
  ⟨fun r env Q Q' k q => let ⟨_, e, l, q⟩ := need_out q; need_in e ⟨l, h.mono _ env _ _ k q⟩, (pg_tup hc h.pg hn hst).imp fun v σ H Q ⟨Z, Fr, As, env, r, I, R, q⟩ => by
    obtain ⟨ds, e, l, p⟩ := need_out q
    clear q
    unfold tuO at e
    split at e
    · cases e
      cases R with
      | tup hq rs => exact ⟨_, _, rfl, sqT hq, by rw [rs.length]; exact l, Z, Fr, As, env, _, I, rs, p⟩
    · cases e⟩
structure STs (tb : List Addr) (X : Cx) (es : List Expr) (w : DT) : Prop where
  mono : Mono w
  pt : PTs X es (tT ⟨X.K, tb⟩ w)
theorem _root_.L2.PTs.imp {X : Cx} {e : List Expr} {t t' : TT} (h : PTs X e t) (i : ∀ σ H Q, t' σ H Q → t σ H Q) : PTs X e t' := ⟨fun pins s σ H Q I q => h.run pins s σ H Q I (i σ H Q q)⟩
def dYes : DT := fun env Q => Q true env
theorem sts_nil : STs tb X [] dYes := ⟨fun _ _ _ k q => k _ _ q, pts_nil.imp fun σ H Q ⟨Z, Fr, As, env, I, q⟩ => q H Z Step.refl I⟩
theorem sts_one {c : Expr} {w : DT} (h : ST tb X c w) : STs tb X [c] w := ⟨h.mono, pts_one h.pe⟩

/-! ### [elt for tg in iter if ..] -/
def dLcL (g : DG) (t : DT) (w : DV) (vs : List Nat) : List D → En → (List D → En → Prop) → Prop
  | [], env, Q => Q [] env
  | d :: ds, env, Q => g (.val d) (wipeE vs env) fun e1 => t e1 fun b e2 => if b = true then w e2 fun y e3 => dLcL g t w vs ds e3 fun ys e => Q (y :: ys) e else dLcL g t w vs ds e2 Q
theorem dLcL_mono {g : DG} {t : DT} {w : DV} {vs : List Nat} (mg : MonoT g) (mt : Mono t) (mw : Mono w) : ∀ ds env Q Q', (∀ r e, Q r e → Q' r e) → dLcL g t w vs ds env Q → dLcL g t w vs ds env Q'
  | [], _, _, _, k, q => k _ _ q
  | d :: ds, env, Q, Q', k, q => mg _ _ _ _ (fun e1 q => mt e1 _ _ (fun b e2 q => by
    cases b with
    | true => exact mw e2 _ _ (fun y e3 q => dLcL_mono mg mt mw ds e3 _ _ (fun _ _ => k _ _) q) q
    | false => exact dLcL_mono mg mt mw ds e2 _ _ k q) q) q
def dLc (wi : DI) (g : DG) (t : DT) (w : DV) (vs : List Nat) : DE := fun env Q => wi env fun ds e => ds.length ≤ sizeLine ∧ dLcL g t w vs ds (wipeE vs e) fun ys e' => Q (.own none (.lst ys)) (backE e vs (wipeE vs e'))
theorem dLc_mono {wi : DI} {g : DG} {t : DT} {w : DV} {vs : List Nat} (mi : Mono wi) (mg : MonoT g) (mt : Mono t) (mw : Mono w) : Mono (dLc wi g t w vs) := fun env Q Q' k q =>
  mi env _ _ (fun ds e ⟨l, q⟩ => ⟨l, dLcL_mono mg mt mw ds _ _ _ (fun _ _ => k _ _) q⟩) q
theorem lc_lift {C : Cfg} {wi : DI} {g : DG} {t : DT} {w : DV} {vs : List Nat} (mi : Mono wi) (mg : MonoT g) (mt : Mono t) (mw : Mono w) : ∀ σ H Q, tE C (dLc wi g t w vs) σ H Q → tLc (tI C wi) (tGW C vs g) (tT C t) (tV C w) vs σ H Q := fun σ H Q ⟨Z, Fr, As, env, I, q⟩ => by
  refine ⟨Z, Fr, As, env, I, mi env _ _ (fun ds e1 ⟨hl, q⟩ J H1 Z1 st1 I1 ok p np => ?_) q⟩
  have nb := I1.nobody np
  -- the frame with the new list
  have I1n : EnvR C Z1 Fr As σ (upd H1 p (.lst [])) e1 := I1.new np
  have stn : Step Z1 Fr H1 Z1 (upd H1 p (.lst [])) := Step.new I1.ok np
  have I1p : EnvR C Z1 (fun a => Fr a ∨ a = p) As σ (upd H1 p (.lst [])) e1 := by
    have R : ResR C Z1 Fr σ e1 (upd H1 p (.lst [])) (.ref p) (.own none (.lst [])) := resNew I1 np fun st2 e => ⟨[], e, .nil⟩
    exact (I1n.prot R).weak fun a h => h.imp id fun e => ⟨by rw [e], none, _, rfl⟩
  refine ⟨fun i m H2 => i + m = ds.length ∧ ∃ Z2 env2 acc ys, Step Z1 Fr H1 Z2 H2 ∧ (∀ a, Z2 a → a ≠ p) ∧ EnvR C Z2 (fun a => Fr a ∨ a = p) As (wipe σ vs) H2 (wipeE vs env2) ∧ H2 p = some (.lst acc) ∧ Rps C.K Z2 H2 acc ys ∧ ys.length + m ≤ sizeLine ∧
      dLcL g t w vs (ds.drop i) env2 fun ys' e' => ∀ v H' Z', Step Z2 Fr H2 Z' H' → EnvR C Z' Fr As σ H' (backE e1 vs (wipeE vs e')) → ResR C Z' Fr σ (backE e1 vs (wipeE vs e')) H' v (.own none (.lst (ys ++ ys'))) → Q v H',
    ⟨ds.length, Nat.zero_add _, Z1, wipeE vs e1, [], [], stn, fun a z e => nb.1 (by rw [← e]; exact z), ?_, upd_same, .nil, by simpa using hl, ?_⟩, ?_⟩
  · have := (I1p.wipe vs)
    have h2 := this.wipe vs
    have ew : wipe (wipe σ vs) vs = wipe σ vs := by
      have : ∀ us : List Nat, (∀ u ∈ us, u ∈ vs) → wipe (wipe σ us) vs = wipe σ vs := by
        intro us
        induction us with
        | nil => intro _; rfl
        | cons u us ih =>
          intro h
          show wipe ((wipe σ us).set u none) vs = _
          rw [wipe_set (h u (by simp)), ih fun x hx => h x (by simp [hx])]
      exact this vs fun _ h => h
    rw [ew] at h2
    exact h2
  · refine dLcL_mono mg mt mw ds _ _ _ (fun ys' e' q v H' Z' st I' R => q v H' Z' ((st1.trans stn).trans st) I' R) q
  · rintro i m H2 ⟨im, Z2, env2, acc, ys, st2, zp, I2, hp, ra, hy, q2⟩
    have okp : Ok C Z2 Fr H2 := (I2.weak (fun a h => .inl h)).ok
    obtain ⟨go, stop⟩ := ok _ Z2 H2 i st2 okp
    by_cases hlt : i < ds.length
    · refine .inr ?_
      have ed : ds[i]? = some ds[i] := List.getElem?_eq_getElem hlt
      obtain ⟨go, yl⟩ := go _ ed
      rw [List.drop_eq_getElem_cons hlt] at q2
      refine ⟨go, fun H' => ∃ Z2 env2 acc ys, Step Z1 Fr H1 Z2 H' ∧ (∀ a, Z2 a → a ≠ p) ∧ EnvR C Z2 (fun a => Fr a ∨ a = p) As (wipe σ vs) H' (wipeE vs env2) ∧ H' p = some (.lst acc) ∧ Rps C.K Z2 H' acc ys ∧ ys.length + (m - 1) ≤ sizeLine ∧
        dLcL g t w vs (ds.drop (i + 1)) env2 fun ys' e' => ∀ v H'' Z', Step Z2 Fr H' Z' H'' → EnvR C Z' Fr As σ H'' (backE e1 vs (wipeE vs e')) → ResR C Z' Fr σ (backE e1 vs (wipeE vs e')) H'' v (.own none (.lst (ys ++ ys'))) → Q v H'', fun H' h => ⟨m - 1, by omega, by omega, h⟩, fun x H3 y => ?_⟩
      obtain ⟨y1, rx⟩ := yl x H3 y
      obtain ⟨I3, st3⟩ := yld_env I2 y1
      have wk : ∀ a, Fr a → Fr a ∨ a = p := fun a => .inl
      refine ⟨Z2, _, As, wipeE vs env2, .val ds[i], I3, rx, mg _ _ _ _ (fun e4 q4 σ4 H4 Z4 st4 I4 hw4 => ?_) q2⟩
      refine ⟨hw4.trans ?_, Z4, _, As, e4, I4, mt e4 _ _ (fun b e5 q5 H5 Z5 st5 I5 => ?_) q4⟩
      · have : ∀ us : List Nat, (∀ u ∈ us, u ∈ vs) → wipe (wipe σ us) vs = wipe σ vs := by
          intro us
          induction us with
          | nil => intro _; rfl
          | cons u us ih =>
            intro h
            show wipe ((wipe σ us).set u none) vs = _
            rw [wipe_set (h u (by simp)), ih fun x hx => h x (by simp [hx])]
        exact this vs fun _ h => h
      have hw5 : wipe σ4 vs = wipe σ vs := by
        refine hw4.trans ?_
        have : ∀ us : List Nat, (∀ u ∈ us, u ∈ vs) → wipe (wipe σ us) vs = wipe σ vs := by
          intro us
          induction us with
          | nil => intro _; rfl
          | cons u us ih =>
            intro h
            show wipe ((wipe σ us).set u none) vs = _
            rw [wipe_set (h u (by simp)), ih fun x hx => h x (by simp [hx])]
        exact this vs fun _ h => h
      have st25 : Step Z2 (fun a => Fr a ∨ a = p) H2 Z5 H5 := (st3.trans st4).trans st5
      cases b with
      | false =>
        simp only [Bool.false_eq_true, if_false] at q5 ⊢
        have I6 := I5.wipe vs
        rw [hw5] at I6
        refine ⟨Z5, e5, acc, ys, st2.trans (st25.weak wk), fun a z e => zp a (st25.fr a z (.inr e)) e, I6, (st25.keep p (.inr (.inr rfl))).trans hp, ra.step st25, by omega, ?_⟩
        exact dLcL_mono mg mt mw _ _ _ _ (fun ys' e' q v H' Z' st I' R => q v H' Z' ((st25.weak wk).trans st) I' R) q5
      | true =>
        simp only [if_true] at q5 ⊢
        refine ⟨Z5, _, As, e5, I5, mw e5 _ _ (fun y e6 q6 yv H6 Z6 st6 I6 ry => ?_) q5⟩
        have st26 : Step Z2 (fun a => Fr a ∨ a = p) H2 Z6 H6 := st25.trans st6
        have hp6 : H6 p = some (.lst acc) := (st26.keep p (.inr (.inr rfl))).trans hp
        have hlen := (ra.step st26).length
        obtain ⟨I7, st7⟩ := I6.updFr (o' := .lst (acc ++ [yv])) hp6 True.intro
        have st7' : Step Z6 Fr H6 Z6 (upd H6 p (.lst (acc ++ [yv]))) := st7 (fun _ h => h) fun a f e => by
          obtain ⟨_, hf, _⟩ := I.nobody (p := p) (H := H) (by
            by_cases hn : H p = none
            · exact hn
            · exact absurd np (st1.non p hn))
          exact hf (by rw [← e]; exact f)
        have I8 := I7.wipe vs
        rw [hw5] at I8
        refine ⟨acc, hp6, by omega, Z6, e6, acc ++ [yv], ys ++ [y], (st2.trans (st26.weak wk)).trans st7', fun a z e => zp a (st26.fr a z (.inr e)) e, I8, upd_same, ((ra.step st26).app (.cons ry .nil)).step st7', by rw [List.length_append]; simp only [List.length_cons, List.length_nil]; omega, ?_⟩
        refine dLcL_mono mg mt mw _ _ _ _ (fun ys' e' q v H' Z' st I' R => ?_) q6
        rw [List.append_assoc] at R
        exact q v H' Z' (((st26.weak wk).trans st7').trans st) I' R
    · refine .inl ⟨stop (by omega), ?_⟩
      rw [List.drop_eq_nil_of_le (by omega)] at q2
      have Ib : EnvR C Z2 (fun a => Fr a ∨ a = p) As σ H2 (backE e1 vs (wipeE vs env2)) := by
        refine (I1.back (st2) (vs := vs) (env := wipeE vs env2) (I2.weak fun a h => .inl h)) |> fun B => ?_
        refine ⟨⟨I2.ok.z, I2.ok.f, I2.ok.zf, I2.ok.tab, I2.ok.nz⟩, B.len, fun j u x g1 g2 => ?_, B.apart⟩
        have s := B.slot j u x g1 g2
        rcases x with _ | ⟨d | ⟨t2, m2⟩ | ns⟩
        · exact True.intro
        · exact s
        · obtain ⟨b, q, y, z2, f2, k2⟩ := s
          rcases backE_in g2 with ⟨mm, e⟩ | ⟨mm, g2⟩
          · cases q' : sl e1 j with
            | none => rw [q'] at e; cases e
            | some s => rw [q'] at e; cases s <;> cases e
          · obtain ⟨b', q', _, _, f', _⟩ := I2.slot j u _ (by rw [wipe_out mm]; exact g1) g2
            rw [q] at q'
            cases q'
            exact ⟨b, q, y, z2, f', k2⟩
        · exact s
      refine q2 (.ref p) H2 Z2 Step.refl (Ib.weak fun a h => .inl h) ⟨rfl, p, rfl, ⟨acc, hp, by rw [List.append_nil]; exact ra⟩, fun z => zp p z rfl, fun f => ?_, fun k ⟨h1, t2, m2, h2⟩ => ?_⟩
      · obtain ⟨_, hf, _⟩ := I1.nobody np
        exact hf f
      · obtain ⟨b, e, _, _, nf, _⟩ := Ib.slot k _ _ h1 h2
        cases e
        exact nf (.inr rfl)
theorem se_lc {elt tg iter : Expr} {ifs : List Expr} {scope : Scope} (own : List (Str × Nat)) {pos : Pos} {wi : DI} {g : DG} {t : DT} {w : DV} (hc : X.calm = true) (hN : X.N.Nodup) (hi : SI tb X tg iter wi) (ok : BlkOk X.N X.env.scope scope own)
    (hg : ∀ (s : Shared) (H : Hp) (C : Addr) (cl : List (Str × Addr)) (fp : List Addr), SGb (own.map (·.2)) tb (X.blk s H scope (compEnvC scope cl C X.env) fp) tg g) (ht : ∀ (s : Shared) (H : Hp) (C : Addr) (cl : List (Str × Addr)) (fp : List Addr), STs tb (X.blk s H scope (compEnvC scope cl C X.env) fp) ifs t)
    (he : ∀ (s : Shared) (H : Hp) (C : Addr) (cl : List (Str × Addr)) (fp : List Addr), SV tb (X.blk s H scope (compEnvC scope cl C X.env) fp) elt w) (hs : ∀ x, foldedSetIterable iter X.env x = pure x := by intro _; rfl) :
    SE tb X (.ListComp elt [⟨tg, iter, ifs, 0⟩] scope pos) (dLc wi g t w (own.map (·.2))) :=
  have s0 : Shared := X.s_0
  have mg := (hg s0 (fun _ => none) 0 [] []).mono
  have mt := (ht s0 (fun _ => none) 0 [] []).mono
  have mw := (he s0 (fun _ => none) 0 [] []).mono
  ⟨dLc_mono hi.mono mg mt mw, (pe_lc hc hN hi.pi ok (fun s H C cl fp => (hg s H C cl fp).pg) (fun s H C cl fp => (ht s H C cl fp).pt) (fun s H C cl fp => (he s H C cl fp).pe) hs).imp (lc_lift (C := ⟨X.K, tb⟩) hi.mono mg mt mw)⟩
theorem ss_setLc (i : Nat) {y : Str} {py : Pos} {elt tg iter : Expr} {ifs : List Expr} {scope : Scope} (own : List (Str × Nat)) {pos spos : Pos} {wi : DI} {g : DG} {t : DT} {w : DV} (hc : X.calm = true) (hN : X.N.Nodup) (hi : SI tb X tg iter wi) (ok : BlkOk X.N X.env.scope scope own)
    (hg : ∀ (s : Shared) (H : Hp) (C : Addr) (cl : List (Str × Addr)) (fp : List Addr), SGb (own.map (·.2)) tb (X.blk s H scope (compEnvC scope cl C X.env) fp) tg g) (ht : ∀ (s : Shared) (H : Hp) (C : Addr) (cl : List (Str × Addr)) (fp : List Addr), STs tb (X.blk s H scope (compEnvC scope cl C X.env) fp) ifs t)
    (he : ∀ (s : Shared) (H : Hp) (C : Addr) (cl : List (Str × Addr)) (fp : List Addr), SV tb (X.blk s H scope (compEnvC scope cl C X.env) fp) elt w)
    (hsw : swapsWith (.ListComp elt [⟨tg, iter, ifs, 0⟩] scope pos) (some (.Name y py)) spos.line X.env = pure true) (hy : X.N[i]? = some y := by rfl) (hyl : X.env.scope.names.lookup y = some .local := by rfl) (hs : ∀ x, foldedSetIterable iter X.env x = pure x := by intro _; rfl) :
    SS tb X (.Assign [.Name y py] (.ListComp elt [⟨tg, iter, ifs, 0⟩] scope pos) spos) (dAsg (dLc wi g t w (own.map (·.2))) (gNm i)) :=
  have s0 : Shared := X.s_0
  have mg := (hg s0 (fun _ => none) 0 [] []).mono
  have mt := (ht s0 (fun _ => none) 0 [] []).mono
  have mw := (he s0 (fun _ => none) 0 [] []).mono
  have M : Mono (dLc wi g t w (own.map (·.2))) := dLc_mono hi.mono mg mt mw
  ⟨dAsg_mono M fun _ _ _ _ k q => k _ q, (ps_setLc hc hN hy hyl hsw hi.pi ok (fun s H C cl fp => (hg s H C cl fp).pg) (fun s H C cl fp => (ht s H C cl fp).pt) (fun s H C cl fp => (he s H C cl fp).pe) hs).imp fun D σ H ⟨Z, Fr, As, env, I, q⟩ =>
    lc_lift (C := ⟨X.K, tb⟩) hi.mono mg mt mw σ H _ ⟨Z, Fr, As, env, I, M env (fun r e => (upE ⟨X.K, tb⟩ Z Fr As H D).nx (e.set i (some r))) _ (fun r e q v H' Z' st I' R => q _ _ _ st (I'.setRes R)) q⟩⟩
end
end DV

set_option Elab.async false
set_option linter.all false
set_option maxRecDepth 100000
set_option maxHeartbeats 4000000
namespace DV
open PySem PySem.Spec PyProof.Rows L2

/-! ### calls of builtins -/
def consO (e : En) : List Opd → Option (List Slot)
  | [] => some []
  | o :: os => match con e o, consO e os with
    | some s, some ss => some (s :: ss)
    | _, _ => none
def CRs (C : Cfg) (Z : Addr → Prop) (H : Hp) : List V → List Slot → Prop
  | [], [] => True
  | v :: vs, s :: ss => CR C Z H v s ∧ CRs C Z H vs ss
  | _, _ => False
theorem OpdRs.crs {C : Cfg} {Z : Addr → Prop} {As : Nat → Addr} {σ : L2.St} {H : Hp} {e : En} : ∀ {vs : List V} {os : List Opd} {Fr : Addr → Prop} {ss : List Slot}, EnvR C Z Fr As σ H e → OpdRs C Z σ e H Fr vs os → consO e os = some ss → CRs C Z H vs ss
  | [], [], Fr, ss, I, R, h => by cases h; exact True.intro
  | v :: vs, o :: os, Fr, ss, I, R, h => by
    unfold consO at h
    split at h
    · rename_i s ss' h1 h2
      cases h
      exact ⟨R.1.cr I h1, OpdRs.crs (R.1.prot I) R.2 h2⟩
    · cases h
abbrev GC := List Slot → (Slot → Prop) → Prop
def MonoC (G : GC) : Prop := ∀ ss R R', (∀ r, R r → R' r) → G ss R → G ss R'
def SemC (C : Cfg) (r : List V → Hp → VK → Prop) (G : GC) : Prop := ∀ (Z Fr : Addr → Prop) (As : Nat → Addr) (σ : L2.St) (env : En) (H : Hp) (vs : List V) (ss : List Slot) (R : Slot → Prop) (Q : VK), EnvR C Z Fr As σ H env → CRs C Z H vs ss → G ss R →
  (∀ v H' Z' r', R r' → Step Z Fr H Z' H' → EnvR C Z' Fr As σ H' env → ResR C Z' Fr σ env H' v r' → Q v H') → r vs H Q
def dCB (G : GC) (ws : DOs) : DE := fun env Q => ws env fun os e => need (consO e os) fun ss => G ss fun r => Q r e
theorem dCB_mono {G : GC} {ws : DOs} (mG : MonoC G) (m : Mono ws) : Mono (dCB G ws) := fun env Q Q' k q => m env _ _ (fun os e q => let ⟨_, c, q⟩ := need_out q; need_in c (mG _ _ _ (fun _ => k _ _) q)) q
theorem cb_lift {C : Cfg} {r : List V → Hp → VK → Prop} {G : GC} {ws : DOs} (m : Mono ws) (hs : SemC C r G) : ∀ σ H Q, tE C (dCB G ws) σ H Q → tCB r (tOs C ws) σ H Q := fun σ H Q ⟨Z, Fr, As, env, I, q⟩ =>
  ⟨Z, Fr, As, env, I, m env _ _ (fun os e q vs H' Z' st I' R => by
    obtain ⟨ss, c, q⟩ := need_out q
    exact hs Z' Fr As σ e H' vs ss _ _ I' (R.crs I' c) q fun v H2 Z2 r' q st2 I2 R2 => q v H2 Z2 (st.trans st2) I2 R2) q⟩
section
variable {tb : List Addr} {X : Cx}
theorem se_blt {x : Str} {p pos : Pos} {e : Expr} {es : List Expr} {ws : DOs} {id : String} {r : List V → Hp → VK → Prop} {G : GC} (hc : CallR X (.builtin id) r) (hs : SemC ⟨X.K, tb⟩ r G) (mG : MonoC G) (hv : bootBuiltins x = some (.builtin id)) (hm : X.mg x = none) (ha : SOs tb X (e :: es) ws)
    (hg : Gl X x := by rfl) (hn : x ≠ "__name__" := by decide) (hdb : (x == ("__debug__" : Str)) = false := by decide)
    (he : starEach (e :: es) X.env = (false, eval e X.env) :: starEach es X.env := by rfl) (hpl : (backTo pos (starEach es X.env)).any (·.1) = false := by rfl) : SE tb X (.Call (.Name x p) (e :: es) [] pos) (dCB G ws) :=
  ⟨dCB_mono mG ha.mono, (pe_callB hc hg hm hv ha.pe hn hdb he hpl).imp (cb_lift ha.mono hs)⟩
theorem se_ty {x : Str} {p pos : Pos} {e : Expr} {es : List Expr} {ws : DOs} {T : String} {r : List V → Hp → VK → Prop} {G : GC} (hc : CallR X (.type T) r) (hs : SemC ⟨X.K, tb⟩ r G) (mG : MonoC G) (hv : bootBuiltins x = some (.type T)) (hm : X.mg x = none) (ha : SOs tb X (e :: es) ws)
    (hg : Gl X x := by rfl) (hn : x ≠ "__name__" := by decide) (hdb : (x == ("__debug__" : Str)) = false := by decide)
    (he : starEach (e :: es) X.env = (false, eval e X.env) :: starEach es X.env := by rfl) (hpl : (backTo pos (starEach es X.env)).any (·.1) = false := by rfl) : SE tb X (.Call (.Name x p) (e :: es) [] pos) (dCB G ws) :=
  ⟨dCB_mono mG ha.mono, (pe_callTy hc hg hm hv ha.pe hn hdb he hpl).imp (cb_lift ha.mono hs)⟩
end

/-! len -/
def lenO : Slot → Option Nat
  | .own _ (.dK kvs) => some kvs.length
  | .own _ (.dT kvs) => some kvs.length
  | s => (sqO s).map List.length
theorem KVR.length {K : Frag} {Z : Addr → Prop} {H : Hp} {κ : Type} {l : List (κ × V)} {m : List (κ × D)} (h : KVR K Z H l m) : l.length = m.length := by
  induction h with
  | nil => rfl
  | cons _ _ ih => exact congrArg (· + 1) ih
def gLen : GC := fun ss R => match ss with
  | [s] => need (lenO s) fun n => R (.val (.int (n : Nat)))
  | _ => False
theorem gLen_mono : MonoC gLen := fun ss R R' k => by
  unfold gLen
  split
  · intro h
    obtain ⟨n, e, q⟩ := need_out h
    exact need_in e (k _ q)
  · exact id
def rLenU (K : Frag) : List V → Hp → VK → Prop := fun xs H Q => ((∃ p ys, xs = [.ref p] ∧ (SqL K H p ys ∨ SqT K H p ys) ∧ Q (.int ys.length) H) ∨ (∃ a kvs, xs = [V.ref a] ∧ H a = some (.dK kvs) ∧ Q (.int kvs.length) H)) ∨ rLenT xs H Q
theorem call_lenU {X : Cx} : CallR X (.builtin "len") (rLenU X.K) := (call_len_seq.or call_lenD).or call_len_dT
theorem sem_len {C : Cfg} : SemC C (rLenU C.K) gLen := fun Z Fr As σ env H vs ss R Q I c q k => by
  unfold gLen at q
  split at q
  · rename_i s
    obtain ⟨n, e, q⟩ := need_out q
    match vs, c with
    | [v], ⟨c, _⟩ =>
      have sq : (sqO s).map List.length = some n → rLenU C.K [v] H Q := fun e => by
        obtain ⟨ds, e1, e2⟩ := Option.map_eq_some_iff.mp e
        obtain ⟨a, us, rfl, h, r⟩ := c.sq e1
        refine .inl (.inl ⟨a, us, rfl, h.imp id sqT, ?_⟩)
        rw [r.length, e2]
        exact k _ _ _ _ q Step.refl I (Rp.int _)
      unfold lenO at e
      split at e
      · cases e
        obtain ⟨a, rfl, l, h, r⟩ := c
        refine .inl (.inr ⟨a, l, rfl, h, ?_⟩)
        rw [r.length]
        exact k _ _ _ _ q Step.refl I (Rp.int _)
      · cases e
        obtain ⟨a, rfl, l, h, r⟩ := c
        refine .inr ⟨a, l, rfl, h, ?_⟩
        rw [r.length]
        exact k _ _ _ _ q Step.refl I (Rp.int _)
      · exact sq e
  · exact q.elim
/-! int, tuple, list, min, max -/
def gIntC : GC := fun ss R => match ss with
  | [.val (.int i)] => R (.val (.int i))
  | [.val (.bool b)] => R (.val (.int (if b then 1 else 0)))
  | _ => False
theorem gIntC_mono : MonoC gIntC := fun ss R R' k => by
  unfold gIntC
  split
  · exact k _
  · exact k _
  · exact id
theorem sem_int {C : Cfg} : SemC C (fun xs H Q => (∃ i, xs = [.int i] ∧ Q (.int i) H) ∨ ∃ k, xs = [.bl k] ∧ Q (.int (if k then 1 else 0)) H) gIntC := fun Z Fr As σ env H vs ss R Q I c q k => by
  unfold gIntC at q
  split at q
  · match vs, c with
    | [v], ⟨c, _⟩ =>
      cases c
      exact .inl ⟨_, rfl, k _ _ _ _ q Step.refl I (Rp.int _)⟩
  · match vs, c with
    | [v], ⟨c, _⟩ =>
      cases c
      exact .inr ⟨_, rfl, k _ _ _ _ q Step.refl I (Rp.int _)⟩
  · exact q.elim
def gTupC : GC := fun ss R => match ss with
  | [s] => need (sqO s) fun ds => R (.val (.tuple ds))
  | _ => False
theorem gTupC_mono : MonoC gTupC := fun ss R R' k => by
  unfold gTupC
  split
  · intro h
    obtain ⟨n, e, q⟩ := need_out h
    exact need_in e (k _ q)
  · exact id
theorem sem_tup {C : Cfg} : SemC C (fun xs H Q => ∃ p ys, xs = [.ref p] ∧ ((SqL C.K H p ys ∧ ∀ l, H l = none → Q (.ref l) (upd H l (.tup ys))) ∨ (SqT C.K H p ys ∧ Q (.ref p) H))) gTupC := fun Z Fr As σ env H vs ss R Q I c q k => by
  unfold gTupC at q
  split at q
  · rename_i s
    obtain ⟨ds, e, q⟩ := need_out q
    match vs, c with
    | [v], ⟨c, _⟩ =>
      obtain ⟨a, us, rfl, h, r⟩ := c.sq e
      refine ⟨a, us, rfl, ?_⟩
      rcases h with h | h
      · exact .inl ⟨h, fun l nl => k _ _ _ _ q (Step.new I.ok nl) (I.new nl) (Rp.tup upd_same (r.step (Step.new I.ok nl)))⟩
      · exact .inr ⟨sqT h, k _ _ _ _ q Step.refl I (Rp.tup h r)⟩
  · exact q.elim
def gLstC : GC := fun ss R => match ss with
  | [s] => need (sqO s) fun ds => R (.own none (.lst ds))
  | _ => False
theorem gLstC_mono : MonoC gLstC := fun ss R R' k => by
  unfold gLstC
  split
  · intro h
    obtain ⟨n, e, q⟩ := need_out h
    exact need_in e (k _ q)
  · exact id
theorem sem_lst {C : Cfg} : SemC C (fun xs H Q => ∃ p ys, xs = [.ref p] ∧ (SqL C.K H p ys ∨ SqT C.K H p ys) ∧ ∀ l, H l = none → Q (.ref l) (upd H l (.lst ys))) gLstC := fun Z Fr As σ env H vs ss R Q I c q k => by
  unfold gLstC at q
  split at q
  · rename_i s
    obtain ⟨ds, e, q⟩ := need_out q
    match vs, c with
    | [v], ⟨c, _⟩ =>
      obtain ⟨a, us, rfl, h, r⟩ := c.sq e
      exact ⟨a, us, rfl, h.imp id sqT, fun l nl => k _ _ _ _ q (Step.new I.ok nl) (I.new nl) (resNew I nl fun st2 e => ⟨us, e, r.step st2⟩)⟩
  · exact q.elim
def gII (g : Int → Int → Int) : GC := fun ss R => match ss with
  | [.val (.int i), .val (.int j)] => R (.val (.int (g i j)))
  | _ => False
theorem gII_mono {g : Int → Int → Int} : MonoC (gII g) := fun ss R R' k => by
  unfold gII
  split
  · exact k _
  · exact id
theorem sem_II {C : Cfg} {g : Int → Int → Int} : SemC C (fun xs H Q => ∃ i j, xs = [.int i, .int j] ∧ Q (.int (g i j)) H) (gII g) := fun Z Fr As σ env H vs ss R Q I c q k => by
  unfold gII at q
  split at q
  · match vs, c with
    | [v, u], ⟨c, c', _⟩ =>
      cases c
      cases c'
      exact ⟨_, _, rfl, k _ _ _ _ q Step.refl I (Rp.int _)⟩
  · exact q.elim
/-! isinstance -/
inductive PTy where
  | non | bool | int | str | list | tuple | dict
  deriving DecidableEq
def PTy.nm : PTy → String
  | .non => "NoneType" | .bool => "bool" | .int => "int" | .str => "str" | .list => "list" | .tuple => "tuple" | .dict => "dict"
def isT (a b : PTy) : Bool := decide (a = b) || (decide (a = .bool) && decide (b = .int))
theorem kitB_isT (a b : PTy) (hb : b ≠ .non) : kitB a.nm b.nm = some (isT a b) := by
  cases a <;> cases b <;> first | exact absurd rfl hb | decide +kernel
def tyD : D → PTy
  | .none => .non | .bool _ => .bool | .int _ => .int | .str _ => .str | .list _ => .list | .tuple _ => .tuple | .dict _ => .dict
def tyS : Slot → Option PTy
  | .val d => some (tyD d)
  | .own _ (.lst _) => some .list
  | .own _ _ => some .dict
  | .scr _ => none
theorem CR.ty {C : Cfg} {Z : Addr → Prop} {H : Hp} {x : V} {s : Slot} {t : PTy} (h : CR C Z H x s) (e : tyS s = some t) : TyX C.K H x (.type t.nm) := by
  cases s with
  | val d =>
    cases e
    cases h with
    | non => exact .base .non
    | bl b => exact .base (.bl b)
    | int i => exact .base (.int i)
    | str x => exact .base (.str x)
    | tup q _ =>
      exact .base (.tup q)
    | lst _ q _ => exact .base (.lst q)
    | dct _ q => exact .base (.dK q)
  | own t m =>
    cases m with
    | lst ds => cases e; obtain ⟨a, rfl, vs, q, _⟩ := h; exact .base (.lst q)
    | dK kvs => cases e; obtain ⟨a, rfl, vs, q, _⟩ := h; exact .base (.dK q)
    | dT kvs => cases e; obtain ⟨a, rfl, vs, q, _⟩ := h; exact .base (.dT q)
  | scr ns => cases e

def dIsi (T : PTy) (w : DO) : DE := fun env Q => w env fun o e => need (con e o) fun s => need (tyS s) fun t => Q (.val (.bool (isT t T))) e
section
variable {tb : List Addr} {X : Cx}
theorem se_isi (T : PTy) {y : Str} {e : Expr} {p p2 pos : Pos} {w : DO} (hT : T ≠ .non := by decide) (he : SO tb X e w) (hm : X.mg "isinstance" = none) (hmy : X.mg y = none) (hv : bootBuiltins y = some (.type T.nm))
    (hg : Gl X "isinstance" := by rfl) (hgy : Gl X y := by rfl) (hn : y ≠ "__name__" := by decide) (hdb : (y == ("__debug__" : Str)) = false := by decide)
    (hs : starEach [e, .Name y p2] X.env = (false, eval e X.env) :: starEach [.Name y p2] X.env := by rfl) (hs2 : starEach [.Name y p2] X.env = (false, eval (.Name y p2) X.env) :: starEach [] X.env := by rfl)
    (hpl : (backTo pos (starEach [.Name y p2] X.env)).any (·.1) = false := by rfl) : SE tb X (.Call (.Name "isinstance" p) [e, .Name y p2] [] pos) (dIsi T w) :=
  ⟨fun env Q Q' k q => he.mono env _ _ (fun o e q => let ⟨_, c, q⟩ := need_out q; let ⟨_, c2, q⟩ := need_out q; need_in c (need_in c2 (k _ _ q))) q,
    (pe_callB call_isi hg hm boot_isinstance (pa_cons he.pe (pa_cons (pe_bltn (v := .ty T.nm) hgy hmy hv rfl hn hdb) pa_nil hs2) hs) (by decide) (by decide) hs hpl).imp fun σ H Q ⟨Z, Fr, As, env, I, q⟩ =>
    ⟨Z, Fr, As, env, I, he.mono env _ _ (fun o e q v H' Z' st I' R => by
      obtain ⟨s, c, q⟩ := need_out q
      obtain ⟨t, c2, q⟩ := need_out q
      exact ⟨v, _, _, _, _, rfl, .ty _, (R.cr I' c).ty c2, kit_ty (kitB_isT t T hT), q _ _ _ st I' (Rp.bl _)⟩) q⟩⟩
theorem se_len {e : Expr} {es : List Expr} {p pos : Pos} {ws : DOs} (hm : X.mg "len" = none) (ha : SOs tb X (e :: es) ws) (hg : Gl X "len" := by rfl)
    (he : starEach (e :: es) X.env = (false, eval e X.env) :: starEach es X.env := by rfl) (hpl : (backTo pos (starEach es X.env)).any (·.1) = false := by rfl) : SE tb X (.Call (.Name "len" p) (e :: es) [] pos) (dCB gLen ws) := se_blt call_lenU sem_len gLen_mono boot_len hm ha hg (by decide) (by decide) he hpl
theorem se_intC {e : Expr} {es : List Expr} {p pos : Pos} {ws : DOs} (hm : X.mg "int" = none) (ha : SOs tb X (e :: es) ws) (hg : Gl X "int" := by rfl)
    (he : starEach (e :: es) X.env = (false, eval e X.env) :: starEach es X.env := by rfl) (hpl : (backTo pos (starEach es X.env)).any (·.1) = false := by rfl) : SE tb X (.Call (.Name "int" p) (e :: es) [] pos) (dCB gIntC ws) := se_ty call_int1 sem_int gIntC_mono PyProof.Rows.boot_int hm ha hg (by decide) (by decide) he hpl
theorem se_tupC {e : Expr} {es : List Expr} {p pos : Pos} {ws : DOs} (hm : X.mg "tuple" = none) (ha : SOs tb X (e :: es) ws) (hg : Gl X "tuple" := by rfl)
    (he : starEach (e :: es) X.env = (false, eval e X.env) :: starEach es X.env := by rfl) (hpl : (backTo pos (starEach es X.env)).any (·.1) = false := by rfl) : SE tb X (.Call (.Name "tuple" p) (e :: es) [] pos) (dCB gTupC ws) := se_ty call_tuple_of sem_tup gTupC_mono PyProof.Rows.boot_tuple hm ha hg (by decide) (by decide) he hpl
theorem se_lstC {e : Expr} {es : List Expr} {p pos : Pos} {ws : DOs} (hm : X.mg "list" = none) (ha : SOs tb X (e :: es) ws) (hg : Gl X "list" := by rfl)
    (he : starEach (e :: es) X.env = (false, eval e X.env) :: starEach es X.env := by rfl) (hpl : (backTo pos (starEach es X.env)).any (·.1) = false := by rfl) : SE tb X (.Call (.Name "list" p) (e :: es) [] pos) (dCB gLstC ws) := se_ty call_list_of sem_lst gLstC_mono PyProof.Rows.boot_list hm ha hg (by decide) (by decide) he hpl
theorem se_max2 {e : Expr} {es : List Expr} {p pos : Pos} {ws : DOs} (hc : X.calm = true) (hm : X.mg "max" = none) (hv : bootBuiltins "max" = some (.builtin "max")) (ha : SOs tb X (e :: es) ws) (hg : Gl X "max" := by rfl)
    (he : starEach (e :: es) X.env = (false, eval e X.env) :: starEach es X.env := by rfl) (hpl : (backTo pos (starEach es X.env)).any (·.1) = false := by rfl) : SE tb X (.Call (.Name "max" p) (e :: es) [] pos) (dCB (gII fun i j => if j > i then j else i) ws) := se_blt (call_max2 hc) sem_II gII_mono hv hm ha hg (by decide) (by decide) he hpl
theorem se_min2 {e : Expr} {es : List Expr} {p pos : Pos} {ws : DOs} (hc : X.calm = true) (hm : X.mg "min" = none) (hv : bootBuiltins "min" = some (.builtin "min")) (ha : SOs tb X (e :: es) ws) (hg : Gl X "min" := by rfl)
    (he : starEach (e :: es) X.env = (false, eval e X.env) :: starEach es X.env := by rfl) (hpl : (backTo pos (starEach es X.env)).any (·.1) = false := by rfl) : SE tb X (.Call (.Name "min" p) (e :: es) [] pos) (dCB (gII fun i j => if j < i then j else i) ws) := se_blt (call_min2 hc) sem_II gII_mono hv hm ha hg (by decide) (by decide) he hpl

/-! -x -/
def ngO : Slot → Option Int
  | .val (.int i) => some i
  | _ => none
theorem ngO_eq {s : Slot} {k : Int} (h : ngO s = some k) : s = .val (.int k) := by
  unfold ngO at h
  split at h
  · cases h; rfl
  · cases h
def dNeg (w : DE) : DE := fun env Q => w env fun r e => need (ngO r) fun i => Q (.val (.int (-i))) e
theorem se_neg {a : Expr} {pos : Pos} {w : DE} (h : SE tb X a w) : SE tb X (.UnaryOp .USub a pos) (dNeg w) :=
  ⟨fun env Q Q' k q => h.mono env _ _ (fun _ _ q => let ⟨_, c, q⟩ := need_out q; need_in c (k _ _ q)) q, (pe_un un_neg h.pe).imp fun σ H Q ⟨Z, Fr, As, env, I, q⟩ =>
    ⟨Z, Fr, As, env, I, h.mono env _ _ (fun r e q v H' Z' st I' R => by
      obtain ⟨i, c, q⟩ := need_out q
      unfold ngO at c
      split at c
      · cases c
        cases R
        exact ⟨_, rfl, q _ _ _ st I' (Rp.int _)⟩
      · cases c) q⟩⟩

/-! slices -/
abbrev DP := En → (Option Int → En → Prop) → Prop
def tP (C : Cfg) (w : DP) : TO := fun σ H Q => ∃ Z Fr As env, EnvR C Z Fr As σ H env ∧ w env fun o env' => ∀ H' Z', Step Z Fr H Z' H' → EnvR C Z' Fr As σ H' env' → Q o H'
structure SP (tb : List Addr) (X : Cx) (e : Option Expr) (w : DP) : Prop where
  mono : Mono w
  po : PO X e (tP ⟨X.K, tb⟩ w)
theorem _root_.L2.PO.imp {X : Cx} {e : Option Expr} {t t' : TO} (h : PO X e t) (i : ∀ σ H Q, t' σ H Q → t σ H Q) : PO X e t' := ⟨fun pins s σ H Q I q => h.run pins s σ H Q I (i σ H Q q)⟩
def dNoP : DP := fun env Q => Q none env
theorem sp_none : SP tb X none dNoP := ⟨fun _ _ _ k q => k _ _ q, po_none.imp fun σ H Q ⟨Z, Fr, As, env, I, q⟩ => q H Z Step.refl I⟩
def dPrt (w : DE) : DP := fun env Q => w env fun r e => need (ngO r) fun i => Q (some i) e
theorem sp_some {e : Expr} {w : DE} (h : SE tb X e w) : SP tb X (some e) (dPrt w) :=
  ⟨fun env Q Q' k q => h.mono env _ _ (fun _ _ q => let ⟨_, c, q⟩ := need_out q; need_in c (k _ _ q)) q, (po_some h.pe).imp fun σ H Q ⟨Z, Fr, As, env, I, q⟩ =>
    ⟨Z, Fr, As, env, I, h.mono env _ _ (fun r e q v H' Z' st I' R => by
      obtain ⟨i, c, q⟩ := need_out q
      unfold ngO at c
      split at c
      · cases c
        cases R
        exact ⟨_, rfl, q _ _ st I'⟩
      · cases c) q⟩⟩
def cutD {α : Type} (xs : List α) (lo hi : Option Int) : List α := (xs.drop (HT.sIx xs.length 0 lo)).take (HT.sIx xs.length xs.length hi - HT.sIx xs.length 0 lo)
theorem Rps.cut {K : Frag} {Z : Addr → Prop} {H : Hp} {vs : List V} {ds : List D} (h : Rps K Z H vs ds) (lo hi : Option Int) : Rps K Z H (cutV vs lo hi) (cutD ds lo hi) := by
  unfold cutV cutD
  rw [h.length]
  exact (h.drop _).take _
/-- a slice's value, by the container -/
def gSl (s : Slot) (lo hi : Option Int) (R : Slot → Prop) : Prop := match s with
  | .val (.tuple ds) => R (.val (.tuple (cutD ds lo hi)))
  | .val (.list ds) => R (.own none (.lst (cutD ds lo hi)))
  | .own _ (.lst ds) => R (.own none (.lst (cutD ds lo hi)))
  | .scr ns => R (.own none (.lst (cutD (ns.map .int) lo hi)))
  | _ => False
theorem gSl_mono {s : Slot} {lo hi : Option Int} {R R' : Slot → Prop} (k : ∀ r, R r → R' r) : gSl s lo hi R → gSl s lo hi R' := by
  unfold gSl
  split
  · exact k _
  · exact k _
  · exact k _
  · exact k _
  · exact id
def dSl (w : DO) (wl wh : DP) : DE := fun env Q => w env fun o e1 => wl e1 fun l e2 => wh e2 fun h e3 => need (con e3 o) fun s => gSl s l h fun r => Q r e3
theorem se_slice {e : Expr} {lo hi : Option Expr} {p2 pos : Pos} {w : DO} {wl wh : DP} (he : SO tb X e w) (hl : SP tb X lo wl) (hh : SP tb X hi wh) : SE tb X (.Subscript e (.Slice lo hi none p2) pos) (dSl w wl wh) :=
  ⟨fun env Q Q' k q => he.mono env _ _ (fun o e1 q => hl.mono e1 _ _ (fun l e2 q => hh.mono e2 _ _ (fun h e3 q => let ⟨_, c, q⟩ := need_out q; need_in c (gSl_mono (fun _ => k _ _) q)) q) q) q,
    (pe_slice (sl_list.or sl_tupA) he.pe hl.po hh.po).imp fun σ H Q ⟨Z, Fr, As, env, I, q⟩ =>
    ⟨Z, Fr, As, env, I, he.mono env _ _ (fun o e1 q v H1 Z1 st1 I1 R1 => ⟨Z1, _, As, e1, R1.prot I1, hl.mono e1 _ _ (fun l e2 q H2 Z2 st2 I2 => ⟨Z2, _, As, e2, I2, hh.mono e2 _ _ (fun h e3 q H3 Z3 st3 I3 => by
      obtain ⟨s, c, q⟩ := need_out q
      have wk : ∀ a, Fr a → Fr a ∨ OwnO v o a := fun a => .inl
      have R3 := (R1.after (st2.trans st3) I3).cr (I3.weak wk) c
      have I3' := I3.weak wk
      have st : Step Z Fr H Z3 H3 := st1.trans ((st2.trans st3).weak wk)
      have lst : ∀ {a : Addr} {us : List V} {ds : List D}, (SqL X.K H3 a us) → Rps X.K Z3 H3 us ds → v = .ref a → (∀ v H' Z', Step Z Fr H Z' H' → EnvR ⟨X.K, tb⟩ Z' Fr As σ H' e3 → ResR ⟨X.K, tb⟩ Z' Fr σ e3 H' v (.own none (.lst (cutD ds l h))) → Q v H') → rSlL X.K v l h H3 Q :=
        fun {a us ds} hq r e q => ⟨a, us, e, hq, fun p np => q _ _ _ (st.trans (Step.new I3'.ok np)) (I3'.new np) (resNew I3' np fun st2 e2 => ⟨_, e2, (r.cut l h).step st2⟩)⟩
      revert q
      unfold gSl
      split
      · intro q
        cases R3 with
        | tup hq r =>
          refine .inr ⟨_, _, rfl, sqT hq, fun w => ?_, fun w p np => ?_⟩
          · have e : cutD _ l h = _ := (show cutD _ l h = _ from by
              unfold cutD
              rw [← r.length, w.1, w.2, List.drop_zero, Nat.sub_zero, r.length, List.take_length])
            rw [e] at q
            exact q _ _ _ st I3' (Rp.tup hq r)
          · exact q _ _ _ (st.trans (Step.new I3'.ok np)) (I3'.new np) (Rp.tup upd_same ((r.cut l h).step (Step.new I3'.ok np)))
      · intro q
        cases R3 with
        | lst z hq r => exact .inl (lst (.inl (.inl hq)) r rfl q)
      · intro q
        obtain ⟨a, rfl, us, hq, r⟩ := R3
        exact .inl (lst (.inl (.inl hq)) r rfl q)
      · intro q
        obtain ⟨a, rfl, hq⟩ := R3
        exact .inl (lst hq.sql (rps_ints _) rfl q)
      · exact fun q => q.elim) q⟩) q⟩) q⟩⟩

/-! methods of a list of a variable's own -/
def owL (env : En) (i : Nat) : Option (Option Nat × List D) := match sl env i with
  | some (.own t (.lst ds)) => some (t, ds)
  | _ => none
theorem owL_eq {env : En} {i : Nat} {p : Option Nat × List D} (h : owL env i = some p) : sl env i = some (.own p.1 (.lst p.2)) := by
  unfold owL at h
  split at h
  · rename_i t ds e; cases h; exact e
  · cases h
def dApp (i : Nat) (w : DV) : DE := fun env Q => need (owL env i) fun _ => w env fun d e => need (owL e i) fun p => p.2.length < sizeLine ∧ Q (.val .none) (e.set i (some (.own p.1 (.lst (p.2 ++ [d])))))
theorem se_app (i : Nat) {x : Str} {e : Expr} {px apos cpos : Pos} {w : DV} (he : SV tb X e w) (hN : X.N[i]? = some x := by rfl) (hv : Vis X.env.scope x := by first | exact Or.inl rfl | exact Or.inr (Or.inl rfl) | exact Or.inr (Or.inr rfl)) (hd : (x == ("__debug__" : Str)) = false := by decide)
    (hcd : (x == ("__classdict__" : Str)) = false := by decide) (hbase : attributeBase (.Name x px) "append" X.env (eval (.Name x px) X.env) = eval (.Name x px) X.env := by rfl)
    (hfew : ((backTo cpos (starEach [e] X.env)).all (fun x => !x.1) && (backToKw cpos (keywordEach [] X.env)).all (fun x => x.1.isSome)
      && decide (([e] : List Expr).length + ([] : List Keyword).length + (if ([] : List Keyword).isEmpty then 0 else 1) < 30)) = true := by rfl)
    (hline : (apos.endLine == cpos.line) = true := by rfl) (hs : starEach [e] X.env = (false, eval e X.env) :: starEach [] X.env := by rfl) (hplain : (backTo cpos (starEach [] X.env)).any (·.1) = false := by rfl) :
    SE tb X (.Call (.Attribute (.Name x px) "append" apos) [e] [] cpos) (dApp i w) :=
  ⟨fun env Q Q' k q => by
    obtain ⟨p, c, q⟩ := need_out q
    refine need_in c (he.mono env _ _ (fun d e q => ?_) q)
    obtain ⟨p, c, l, q⟩ := need_out q
    exact need_in c ⟨l, k _ _ q⟩, (pe_bm F.plainAttrs_list F.slot_list_append F.type_list_append mt_append (pe_var hN hv hd hcd) (pa_cons he.pe pa_nil hs) hbase hfew hline hs hplain).imp fun σ H Q ⟨Z, Fr, As, env, I, q⟩ => by
    obtain ⟨p, c, q⟩ := need_out q
    obtain ⟨a, h0, ⟨us, hu, ru⟩, _⟩ := I.atOwn (sl_at (owL_eq c))
    refine ⟨_, h0, .inl ⟨rfl, us, .inl (.inl hu)⟩, Z, Fr, As, env, I, he.mono env _ _ (fun d e q v H1 Z1 st1 I1 r1 => ?_) q⟩
    obtain ⟨p, c, l, q⟩ := need_out q
    obtain ⟨b, h1, ⟨us, hu, ru⟩, _⟩ := I1.atOwn (sl_at (owL_eq c))
    rw [h0] at h1
    cases h1
    obtain ⟨I2, st2⟩ := I1.mutate (m' := .lst (p.2 ++ [d])) (sl_at (owL_eq c)) h0 (o := .lst (us ++ [v])) fun st e => ⟨_, e, (ru.step st).app (.cons (r1.step st) .nil)⟩
    exact ⟨a, us, v, rfl, rfl, hu, by rw [ru.length]; exact l, q _ _ _ (st1.trans st2) I2 Rp.non⟩⟩
def dPop (i : Nat) : DE := fun env Q => need (owL env i) fun p => need (p.2[p.2.length - 1]?) fun d => Q (.val d) (env.set i (some (.own p.1 (.lst p.2.dropLast))))
theorem se_pop (i : Nat) {x : Str} {px apos cpos : Pos} (hN : X.N[i]? = some x := by rfl) (hv : Vis X.env.scope x := by first | exact Or.inl rfl | exact Or.inr (Or.inl rfl) | exact Or.inr (Or.inr rfl)) (hd : (x == ("__debug__" : Str)) = false := by decide)
    (hcd : (x == ("__classdict__" : Str)) = false := by decide) (hbase : attributeBase (.Name x px) "pop" X.env (eval (.Name x px) X.env) = eval (.Name x px) X.env := by rfl) (hline : (apos.endLine == cpos.line) = true := by rfl) :
    SE tb X (.Call (.Attribute (.Name x px) "pop" apos) [] [] cpos) (dPop i) :=
  ⟨fun env Q Q' k q => by
    obtain ⟨p, c, q⟩ := need_out q
    obtain ⟨d, c2, q⟩ := need_out q
    exact need_in c (need_in c2 (k _ _ q)), (pe_bm0 F.plainAttrs_list F.slot_list_pop F.type_list_pop mt_pop (pe_var hN hv hd hcd) hbase hline).imp fun σ H Q ⟨Z, Fr, As, env, I, q⟩ => by
    obtain ⟨p, c, q⟩ := need_out q
    obtain ⟨d, c2, q⟩ := need_out q
    obtain ⟨a, h0, ⟨us, hu, ru⟩, _⟩ := I.atOwn (sl_at (owL_eq c))
    obtain ⟨u, hu2, r2⟩ := ru.get c2
    rw [← ru.length] at hu2
    obtain ⟨I2, st2⟩ := I.mutate (m' := .lst p.2.dropLast) (sl_at (owL_eq c)) h0 (o := .lst us.dropLast) fun st e => ⟨_, e, (ru.step st).dropLast⟩
    exact ⟨_, h0, .inl ⟨rfl, us, .inl (.inl hu)⟩, a, us, u, rfl, rfl, hu, hu2, q _ _ _ st2 I2 (r2.step st2)⟩⟩
def dPopAt (i : Nat) (w : DO) : DE := fun env Q => need (owL env i) fun _ => w env fun o e => need (con e o) fun s => need (ngO s) fun k => need (owL e i) fun p => (-(2 ^ 63) ≤ k ∧ k < 2 ^ 63) ∧ need (seqIndex? k p.2.length) fun j => need (p.2[j]?) fun d =>
  Q (.val d) (e.set i (some (.own p.1 (.lst (p.2.eraseIdx j)))))
theorem se_popAt (i : Nat) {x : Str} {e : Expr} {px apos cpos : Pos} {w : DO} (he : SO tb X e w) (hN : X.N[i]? = some x := by rfl) (hv : Vis X.env.scope x := by first | exact Or.inl rfl | exact Or.inr (Or.inl rfl) | exact Or.inr (Or.inr rfl)) (hd : (x == ("__debug__" : Str)) = false := by decide)
    (hcd : (x == ("__classdict__" : Str)) = false := by decide) (hbase : attributeBase (.Name x px) "pop" X.env (eval (.Name x px) X.env) = eval (.Name x px) X.env := by rfl)
    (hfew : ((backTo cpos (starEach [e] X.env)).all (fun x => !x.1) && (backToKw cpos (keywordEach [] X.env)).all (fun x => x.1.isSome)
      && decide (([e] : List Expr).length + ([] : List Keyword).length + (if ([] : List Keyword).isEmpty then 0 else 1) < 30)) = true := by rfl)
    (hline : (apos.endLine == cpos.line) = true := by rfl) (hs : starEach [e] X.env = (false, eval e X.env) :: starEach [] X.env := by rfl) (hplain : (backTo cpos (starEach [] X.env)).any (·.1) = false := by rfl) :
    SE tb X (.Call (.Attribute (.Name x px) "pop" apos) [e] [] cpos) (dPopAt i w) :=
  ⟨fun env Q Q' k q => by
    obtain ⟨p, c, q⟩ := need_out q
    refine need_in c (he.mono env _ _ (fun d e q => ?_) q)
    obtain ⟨s, c1, q⟩ := need_out q
    obtain ⟨i, c2, q⟩ := need_out q
    obtain ⟨p, c3, l, q⟩ := need_out q
    obtain ⟨j, c4, q⟩ := need_out q
    obtain ⟨d, c5, q⟩ := need_out q
    exact need_in c1 (need_in c2 (need_in c3 ⟨l, need_in c4 (need_in c5 (k _ _ q))⟩)), (pe_bm F.plainAttrs_list F.slot_list_pop F.type_list_pop mt_popAt (pe_var hN hv hd hcd) (pa_cons he.pe pa_nil hs) hbase hfew hline hs hplain).imp fun σ H Q ⟨Z, Fr, As, env, I, q⟩ => by
    obtain ⟨p, c, q⟩ := need_out q
    obtain ⟨a, h0, ⟨us, hu, ru⟩, _⟩ := I.atOwn (sl_at (owL_eq c))
    refine ⟨_, h0, .inl ⟨rfl, us, .inl (.inl hu)⟩, Z, Fr, As, env, I, he.mono env _ _ (fun o e q v H1 Z1 st1 I1 r1 => ?_) q⟩
    obtain ⟨s, c1, q⟩ := need_out q
    obtain ⟨k, c2, q⟩ := need_out q
    obtain ⟨p, c3, ⟨l1, l2⟩, q⟩ := need_out q
    obtain ⟨j, c4, q⟩ := need_out q
    obtain ⟨d, c5, q⟩ := need_out q
    obtain ⟨b, h1, ⟨us, hu, ru⟩, _⟩ := I1.atOwn (sl_at (owL_eq c3))
    rw [h0] at h1
    cases h1
    have cr := r1.cr I1 c1
    have es := ngO_eq c2
    rw [es] at cr
    cases cr
    obtain ⟨u, hu2, r2⟩ := ru.get c5
    obtain ⟨I2, st2⟩ := I1.mutate (m' := .lst (p.2.eraseIdx j)) (sl_at (owL_eq c3)) h0 (o := .lst (us.eraseIdx j)) fun st e => ⟨_, e, (ru.step st).eraseIdx j⟩
    exact ⟨a, us, _, j, u, rfl, rfl, hu, l1, l2, by rw [ru.length]; exact c4, hu2, q _ _ _ (st1.trans st2) I2 (r2.step st2)⟩⟩
end
end DV

set_option Elab.async false
set_option linter.all false
set_option maxRecDepth 100000
set_option maxHeartbeats 4000000
namespace DV
open PySem PySem.Spec PyProof.Rows L2

/-! ### repr -/
def ReprOk (d : D) : Prop := d.canLay0 = true ∧ d.showable = true ∧ d.depth ≤ 64 ∧ d.shown.length ≤ sizeLine
def rRepr (K : Frag) : List V → Hp → VK → Prop := fun xs H Q => ∃ x d, xs = [x] ∧ Dp K H x d ∧ ReprOk d ∧ Q (.str d.shown) H
theorem call_reprD {X : Cx} (hg : X.A.guards = some []) (hu : X.A.units + 100 < cLine) : CallR X (.builtin "repr") (rRepr X.K) := by
  intro pins s σ H xs us Q I r h
  obtain ⟨x, d, rfl, dp, ⟨cl, sh, dep, len⟩, q⟩ := h
  obtain ⟨u, rfl, rx⟩ := vals1 r
  obtain ⟨as, rd⟩ := Dp.reads I d x u dp rx
  have out : ∀ h' tk t, (∀ b o, s.heap.get? b = some o → h'.get? b = some o) → EP X pins σ Q (.str d.shown t) { s with heap := h', toks := tk } := fun h' tk t hk => ⟨.str d.shown, H, I.kept hk, ⟨_, rfl⟩, q⟩
  cases d with
  | none => cases dp; cases rx; exact P.repr_of_none (out _ _ _ fun _ _ e => e)
  | bool b => cases dp; cases rx; exact P.repr_of_bool (out _ _ _ fun _ _ e => e)
  | int i =>
    cases dp
    obtain ⟨t, rfl⟩ := rx
    exact P.repr_of_int (by simpa [PyData.showable] using sh) (out _ _ _ fun _ _ e => e)
  | str y =>
    cases dp
    obtain ⟨t, rfl⟩ := rx
    exact P.repr_of_str (out _ _ _ fun _ _ e => e) len
  | list ds =>
    have hx : ∃ a, u = .ref a := by
      cases dp with
      | _ => cases rx; exact ⟨_, rfl⟩
    obtain ⟨a, rfl⟩ := hx
    exact repr_of_reads' rd sh (fun h => by rw [PyData.hasDict_of_canLay _ cl] at h; cases h) hg (by omega) (fun _ _ e => e) (fun h' t tk hk => out _ _ _ hk) len
  | tuple ds =>
    have hx : ∃ a, u = .ref a := by
      cases dp with
      | _ => cases rx; exact ⟨_, rfl⟩
    obtain ⟨a, rfl⟩ := hx
    exact repr_of_reads' rd sh (fun h => by rw [PyData.hasDict_of_canLay _ cl] at h; cases h) hg (by omega) (fun _ _ e => e) (fun h' t tk hk => out _ _ _ hk) len
  | dict kvs => simp [PyData.canLay0] at cl
def gRepr : GC := fun ss R => match ss with
  | [s] => need (daO s) fun d => ReprOk d ∧ R (.val (.str d.shown))
  | _ => False
theorem gRepr_mono : MonoC gRepr := fun ss R R' k => by
  unfold gRepr
  split
  · intro h
    obtain ⟨d, e, a, q⟩ := need_out h
    exact need_in e ⟨a, k _ q⟩
  · exact id
theorem sem_repr {C : Cfg} : SemC C (rRepr C.K) gRepr := fun Z Fr As σ env H vs ss R Q I c q k => by
  unfold gRepr at q
  split at q
  · obtain ⟨d, e, a, q⟩ := need_out q
    match vs, c with
    | [v], ⟨c, _⟩ => exact ⟨v, d, rfl, c.dp e a.1, a, k _ _ _ _ q Step.refl I (Rp.str _)⟩
  · exact q.elim
theorem boot_repr : bootBuiltins "repr" = some (.builtin "repr") := by first | exact PyProof.Rows.boot_repr | decide +kernel
theorem se_repr {tb : List Addr} {X : Cx} {e : Expr} {es : List Expr} {p pos : Pos} {ws : DOs} {k : Nat} (hr : RoomG k X.A) (hm : X.mg "repr" = none) (ha : SOs tb X (e :: es) ws) (hg : Gl X "repr" := by rfl)
    (he : starEach (e :: es) X.env = (false, eval e X.env) :: starEach es X.env := by rfl) (hpl : (backTo pos (starEach es X.env)).any (·.1) = false := by rfl) : SE tb X (.Call (.Name "repr" p) (e :: es) [] pos) (dCB gRepr ws) :=
  se_blt (call_reprD hr.gd (by have := hr.room.un; omega)) sem_repr gRepr_mono boot_repr hm ha hg (by decide) (by decide) he hpl

/-! ### calls by keywords, in the order of the parameters -/
structure SOk (tb : List Addr) (X : Cx) (kws : List Keyword) (w : DOs) : Prop where
  mono : Mono w
  pk : PK X kws (tOs ⟨X.K, tb⟩ w)
theorem _root_.L2.PK.imp {X : Cx} {e : List Keyword} {t t' : TA} (h : PK X e t) (i : ∀ σ H Q, t' σ H Q → t σ H Q) : PK X e t' := ⟨fun pos pins s σ H Q I q => h.run pos pins s σ H Q I (i σ H Q q)⟩
def KB (K : Frag) (fd : FuncData) (ps : List Str) : Prop := ∀ (s : Shared) (us : List Value), K.In s.heap → us.length = ps.length → BindsTo s fd ⟨[], ps.zip us⟩ (ps.zip us)
theorem kb_of {K : Frag} {x qual : Str} {st : Stmt} {f : Addr} {fd : FuncData} {ps : List Str} (F : L2.Fun K x qual st f fd)
    (h : ∀ (kV doc pm : Value) (an : Option Addr) (cdv ct : Value) (us : List Value), us.length = ps.length → bindArgs (PySem.W.fnOf x qual (defArgs st) (defBody st) (defScope st) .none kV doc pm an cdv ct) ⟨[], ps.zip us⟩ = pure (ps.zip us)) : KB K fd ps := by
  obtain ⟨oc, od, kV, doc, pm, an, cdv, ct, osl, rfl, lk, hcd⟩ := F.ex
  exact fun s us _ hl => .of_eq (h kV doc pm an cdv ct us hl)
section
variable {tb : List Addr} {X : Cx} {k : Nat} {f : Addr} {fd : FuncData} {ps : List Str} {fs : FS} {ws : DOs}
theorem sok_nil : SOk tb X [] dONil := ⟨fun _ _ _ h q => h _ _ q, pk_nil.imp fun σ H Q ⟨Z, Fr, As, env, I, h⟩ => h _ _ _ Step.refl I True.intro⟩
theorem sok_cons {e : Expr} {nm : Option Str} {kpos : Pos} {kws : List Keyword} {w : DO} {ws : DOs} (h : SO tb X e w) (hs : SOk tb X kws ws) : SOk tb X (⟨nm, e, kpos⟩ :: kws) (dOCons w ws) :=
  ⟨fun env Q Q' k q => h.mono env _ _ (fun _ e1 q => hs.mono e1 _ _ (fun _ _ => k _ _) q) q, (pk_cons h.pe hs.pk).imp fun σ H Q ⟨Z, Fr, As, env, I, q⟩ => by
    refine ⟨Z, Fr, As, env, I, h.mono env _ _ (fun o e1 q v H1 Z1 st1 I1 r1 => ?_) q⟩
    refine ⟨Z1, _, As, e1, r1.prot I1, hs.mono e1 _ _ (fun os e2 q vs H2 Z2 st2 I2 r2 => ?_) q⟩
    have wk : ∀ a, Fr a → Fr a ∨ OwnO v o a := fun a => .inl
    exact q _ _ _ (st1.trans (st2.weak wk)) (I2.weak wk) ⟨r1.after st2 I2, r2⟩⟩
theorem run_fnGK {CX : CXT} {E : XK} {pins : List (Addr × Obj)} {σ : L2.St} {H : Hp} {s : Shared} {Q : VK} {us : List Value} {vs : List V} (F : FnG X.prog X.w X.K X.mg X.base CX tb k f fd ps fs) (hr : RoomG k X.A) (hb : KB X.K fd ps) (hx : Passes CX X E)
    (I : Inv X pins σ H s) (r : Vals vs us) (h : spOf ⟨X.K, tb⟩ fs vs H Q E) : wpAny (model X.prog X.w) X.A (call (.ref f) [] (ps.zip us)) (EP X pins σ Q) X.xe s := by
  have hl : us.length = ps.length := by
    obtain ⟨Z, Fr, args, I', _, q⟩ := h
    rw [← F.len _ _ _ q, ← r.length]
    simpa [envA] using I'.len
  refine wpAny_call (codeAny_mono (F.run X.A X.stack s H ⟨[], ps.zip us⟩ us vs Q E hr I.env0 (hb s us I.kIn hl) r h) fun res s' hq => ?_)
  cases res with
  | error x => exact hx pins σ H s x s' I hq
  | ok fl =>
    cases fl with
    | ret u => exact I.after hq
    | _ => exact False.elim hq
theorem se_callK {x : Str} {kws : List Keyword} {p pos : Pos} (F : FnG X.prog X.w X.K X.mg X.base CX0 tb k f fd ps fs) (hr : RoomG k X.A) (hm : X.mg x = some (.ref f)) (hk : PySem.W.keepIn X.K (.ref f) = true) (hb : KB X.K fd ps)
    (ha : SOk tb X kws ws) (hks : (backToKw pos (keywordEach kws X.env)).filterMap (·.1) = ps := by rfl) (hall : (backToKw pos (keywordEach kws X.env)).all (·.1.isSome) = true := by rfl) (hg : Gl X x := by rfl) (hdb : (x == ("__debug__" : Str)) = false := by decide)
    (hpl : ((backTo pos (starEach [] X.env)).any (·.1) || (backToKw pos (keywordEach kws X.env)).any (·.1.isNone)) = false := by rfl) : SE tb X (.Call (.Name x p) [] kws pos) (dCall fs ws) := by
  refine ⟨dCall_mono F.mono ha.mono, ⟨fun pins s σ H Q I h => ?_⟩⟩
  refine wpAny_Call_Name_kw (ld_glob I hg hm ?_ hdb)
  have h2 := call_lift (X := X) (sp := fun _ _ _ _ => True) (E := E0) ha.mono F.mono σ H Q h
  refine PySem.W.callWith_KW0 (h₀ := X.base) I.ok.mod.kin hk hall (thn (ha.pk.run pos pins s σ H _ I h2) fun us s1 ⟨vs, H1, I1, rv, q⟩ => ⟨I1.kIn, ?_⟩) hpl
  rw [hks]
  exact run_fnGK F hr hb pass0 I1 rv q
end
end DV

set_option Elab.async false
set_option linter.all false
set_option maxRecDepth 100000
set_option maxHeartbeats 4000000
/-! all(elt for tg in iter if ..): the generator's frame keeps the tracked heap -/
namespace L2
open PySem PySem.Spec PyProof.Rows
/-- the generator's own scope: no cells of its own, what it walks at «.0» -/
structure GenK (scope : Scope) : Prop where
  co : scope.isCoroutine = false
  cell : ∀ y ∈ scope.names, y.2 ≠ .cell
  dot : scope.names.lookup (".0" : Str) = some NameKind.local
/-- the context of a generator's frame that was laid at s -/
abbrev Cx.gen (X : Cx) (s : Shared) (H : Hp) (cenv : Env) (fp : List Addr) : Cx := { X with s_0 := s, H_0 := H, env := cenv, outer := X.stack, stack := cenv :: X.stack, A := X.A.in1.in1.deeper cenv, ex := fp, fn := fun _ => false, pn := [], xe := fun _ _ => False }
def genE (X : Cx) (scope : Scope) (C : Addr) (code : Value) : Env := genEnv scope (cloFrom X.env.cells scope.names []) C code builtinsNs X.env
section
variable {X : Cx} {pins : List (Addr × Obj)} {σ : St} {H : Hp} {s : Shared}
theorem gen_start {scope : Scope} {own : List (Str × Nat)} {fp : List Addr} {code it : Value} {h' : Heap} {og : Obj} {gs : GenState} {tk : Nat} (I : Inv X pins σ H s) (ok : BlkOk X.N X.env.scope scope own) (gk : GenK scope) (hN : X.N.Nodup)
    (hfp : ∀ b ∈ fp, FpOk X pins H b ∧ b < s.heap.objs.size) (hn : h'.Ns s.heap.objs.size (fun y => if y = ".0" then some it else none)) (hs : Heap.SameBut s.heap.objs.size (s.heap.push { cls := .type "frame", data := .dict #[] }) h')
    (hog : ∀ v, og.data ≠ .cell v) (hfr0 : og.isFreed = false) (hb : gs.bare = true) :
    Inv (X.gen s H (genE X scope s.heap.objs.size code) fp) [(h'.objs.size, og)] (wipe σ (own.map (·.2))) H { s with heap := h'.push og, gens := s.gens.push gs, toks := tk } := by
  have hfree : ∀ y ∈ scope.names, y.2 = .free → ∃ c, X.env.cells.lookup y.1 = some c := fun y hy e => by
    rcases ok.free y hy e with k | k
    · exact I.ok.has _ (.inl k)
    · exact I.ok.has _ (.inr k)
  have hsz : h'.objs.size = s.heap.objs.size + 1 := by rw [hs.1, Heap.size_push]
  have kp1 : ∀ b o, s.heap.get? b = some o → h'.get? b = some o := fun b o e => hs.extBut b o (Nat.ne_of_lt (Heap.lt_size e)) (Heap.get?_push_of_some _ e)
  have kp : ∀ b o, s.heap.get? b = some o → (h'.push og).get? b = some o := fun b o e => Heap.get?_push_of_some _ (kp1 b o e)
  have cm : ∀ {y c}, (y, c) ∈ cloFrom X.env.cells scope.names [] → X.env.cells.lookup y = some c ∧ c < s.heap.objs.size ∧ (y, NameKind.free) ∈ scope.names := fun {y c} hm => by
    rcases cloFrom_mem hm with hm | ⟨h1, rfl⟩
    · cases hm
    · obtain ⟨c, hc⟩ := hfree _ h1 rfl
      rw [hc]
      obtain ⟨w, z⟩ := I.cell _ _ hc
      exact ⟨rfl, z.lt, h1⟩
  have mem : ∀ {y c}, (genE X scope s.heap.objs.size code).cells.lookup y = some c → X.env.cells.lookup y = some c ∧ c < s.heap.objs.size ∧ (y, NameKind.free) ∈ scope.names := fun {y c} e => cm (PySem.mem_of_lookup e)
  have look : ∀ {y}, scope.names.lookup y = some .free → ∃ c, (genE X scope s.heap.objs.size code).cells.lookup y = some c ∧ X.env.cells.lookup y = some c := fun {y} hl => by
    obtain ⟨c', e'⟩ := mem_lookup (cloFrom_has (cells := X.env.cells) (acc := []) (PySem.mem_of_lookup hl))
    exact ⟨c', e', (mem e').1⟩
  have okG : (X.gen s H (genE X scope s.heap.objs.size code) fp).Ok := by
    refine ⟨I.ok.mod, ok.kind, I.ok.glob, rfl, Nat.le_refl _, fun y z c e1 e2 => I.ok.inj y z c (mem e1).1 (mem e2).1, fun y hy => ?_, fun y c z e => absurd z Bool.false_ne_true, fun hc => I.ok.hd hc, ?_, .inr ⟨rfl, rfl⟩, fun b hb => ⟨?_, fun y c e z => ?_⟩, I.bs, Nat.le_trans I.ok.bsz I.sz, fun b o e hb => ?_, fun b hb z => ?_, I.stack, I.stkFree⟩
    · have key : ∀ k, scope.names.lookup y = some k → (k = .cell ∨ k = .free) → ∃ c, (genE X scope s.heap.objs.size code).cells.lookup y = some c := fun k hk hk' => by
        rcases hk' with rfl | rfl
        · exact absurd rfl (gk.cell _ (PySem.mem_of_lookup hk))
        · obtain ⟨c, h, _⟩ := look hk
          exact ⟨c, h⟩
      rcases hy with hy | hy
      · exact key _ hy (.inl rfl)
      · exact key _ hy (.inr rfl)
    · show (X.A.in1.in1.deeper (genE X scope s.heap.objs.size code)).frames = some (genE X scope s.heap.objs.size code :: X.stack)
      have := I.ok.frames
      simp [Around.deeper, this]
    · exact Nat.ne_of_lt (hfp b hb).2
    · exact (hfp b hb).1.2.2.2.2.1 y c (mem e).1 z
    · rcases (hfp b hb).1.2.2.2.1 with z | z
      · exact I.ok.noex b o e z
      · exact absurd (Nat.lt_of_lt_of_le (Heap.lt_size e) (Nat.le_trans I.ok.bsz z)) (Nat.lt_irrefl _)
    · rcases List.mem_cons.mp (I.stkSub b z) with z | z
      · exact (hfp b hb).1.2.1 z
      · exact (hfp b hb).1.2.2.1 z
  refine ⟨okG, rfl, I.bare.push hb, Un.kept kp, ⟨_, hn.push _, fun i y av e1 e2 e3 => ?_⟩, fun y c e => ?_, I.hok.fresh (Nat.le_refl _), fun y c e => I.freeC y c (mem e).1, fun p hp => ?_, I.hok.kept kp, by rw [wipe_length]; exact I.len⟩
  · obtain ⟨e2, hne⟩ := wipe_some e2
    have e3 : Vis scope y := e3
    have no : ∀ k, scope.names.lookup y = some k → ¬ (k = .local ∨ k = .cell) := fun k e hh => by
      rcases ok.own _ (PySem.mem_of_lookup e) hh with e' | e'
      · obtain ⟨p, hp, hpy⟩ := List.mem_map.mp e'
        have e3 := ok.ix p hp
        have : p.1 = y := hpy
        rw [this] at e3
        exact hne (List.mem_map.mpr ⟨p, hp, nodup_ix hN e3 e1⟩)
      · exact e' (List.mem_of_getElem? e1)
    have hfr : scope.names.lookup y = some .free := by
      rcases e3 with e3 | e3 | e3
      · exact absurd (.inl rfl) (no _ e3)
      · exact absurd (.inr rfl) (no _ e3)
      · exact e3
    obtain ⟨m, hn, hl⟩ := I.loc
    have hvis : Vis X.env.scope y := (ok.free _ (PySem.mem_of_lookup hfr) rfl).elim (fun k => .inr (.inl k)) (fun k => .inr (.inr k))
    obtain ⟨w, r, q⟩ := hl i y av e1 e2 hvis
    refine ⟨w, r, .inr ⟨.inr hfr, ?_⟩⟩
    obtain ⟨c, h1, h2⟩ := look hfr
    rcases q with ⟨k, _⟩ | ⟨_, c', e', z⟩
    · have k : X.env.scope.names.lookup y = some .local := k
      rcases ok.free _ (PySem.mem_of_lookup hfr) rfl with k' | k' <;> rw [show X.env.scope.names.lookup y = _ from k'] at k <;> cases k
    · rw [h2] at e'; cases e'
      exact ⟨c, h1, z.keeps kp⟩
  · obtain ⟨w, z⟩ := I.cell y c (mem e).1
    exact ⟨w, z.keeps kp⟩
  · have e : p = (h'.objs.size, og) := by simpa using hp
    subst e
    refine ⟨Heap.get?_push_size _ hfr0, I.hok.fresh (by rw [hsz]; exact Nat.le_succ _), ?_, fun hm => ?_, hog⟩
    · show h'.objs.size ≠ s.heap.objs.size
      rw [hsz]; exact Nat.succ_ne_self _
    · have : ∃ o, s.heap.get? h'.objs.size = some o := by
        obtain ⟨_, o, ho, _⟩ := I.stack.mem hm
        exact ⟨o, ho⟩
      obtain ⟨o, ho⟩ := this
      have h2 : s.heap.objs.size + 1 < s.heap.objs.size := by rw [← hsz]; exact Heap.lt_size ho
      exact absurd h2 (Nat.not_lt.mpr (Nat.le_succ _))
theorem Inv.gens {g' : Array GenState} (I : Inv X pins σ H s) (hg : AllBare g') : Inv X pins σ H { s with gens := g' } := ⟨I.ok, I.os, hg, I.base, I.loc, I.cell, I.free, I.freeC, I.pin, I.hok, I.len⟩
theorem bare_set {g : Nat} {gs : GenState} (h : AllBare s.gens) (hb : gs.bare = true) : AllBare (s.setGen g gs).gens := by
  intro x hx
  obtain ⟨i, hi, e⟩ := Array.mem_iff_getElem.mp hx
  simp only [Shared.setGen] at e hi
  have hi' : i < s.gens.size := by simpa using hi
  rw [Array.getElem_setIfInBounds hi'] at e
  split at e
  · rw [← e]; exact hb
  · rw [← e]; exact h _ (Array.getElem_mem _)
theorem Inv.setGen {g : Nat} {gs : GenState} (I : Inv X pins σ H s) (hb : gs.bare = true) : Inv X pins σ H (s.setGen g gs) := I.gens (bare_set I.bare hb)
end
theorem over_gen {A : Around} {elt tg iter : Expr} {ifs : List Expr} {scope : Scope} {pos : Pos} {it acc : Value} {env : Env} : A.over (.compLoop (.GeneratorExp elt [⟨tg, iter, ifs, 0⟩] scope pos) 0 it acc env) [] = A.deeper env := by
  first
    | rfl
    | (obtain ⟨hd, d, fr, gs, u⟩ := A; simp [Around.over, Around.deeper, marksOver, frameCount, unitsOf, envsOf, guardsOf, pushEnvs, pushGuards, Code.envs, Code.env?, Code.isFrame, Code.guards, Code.isGuard, Code.weight, Code.frames, Code.isCreation, Code.isCaller, Code.cUnits])
theorem over_gen0 {A : Around} {elt tg iter : Expr} {ifs : List Expr} {scope : Scope} {pos : Pos} {it acc : Value} {env : Env} : A.over (.compStart (.GeneratorExp elt [⟨tg, iter, ifs, 0⟩] scope pos) 0 it acc env) [] = A.deeper env := by
  first
    | rfl
    | (obtain ⟨hd, d, fr, gs, u⟩ := A; simp [Around.over, Around.deeper, marksOver, frameCount, unitsOf, envsOf, guardsOf, pushEnvs, pushGuards, Code.envs, Code.env?, Code.isFrame, Code.guards, Code.isGuard, Code.weight, Code.frames, Code.isCreation, Code.isCaller, Code.cUnits])

/-- between the turns: the frame's invariant, the iterator at i -/
structure GI (G : Cx) (pg : List (Addr × Obj)) (σ : St) (fp : List Addr) (tn : Nat → Heap → Prop) (g : Nat) (i : Nat) (H : Hp) (s : Shared) : Prop where
  inv : Inv G pg σ H s
  st : tn i s.heap
  fr : ∀ b ∈ fp, H b = none
  gl : g + 1 ≤ s.gens.size
theorem GI.setGen {G : Cx} {pg : List (Addr × Obj)} {σ : St} {fp : List Addr} {tn : Nat → Heap → Prop} {g i : Nat} {H : Hp} {s : Shared} {gs : GenState} (I : GI G pg σ fp tn g i H s) (hb : gs.bare = true) : GI G pg σ fp tn g i H (s.setGen g gs) :=
  ⟨I.inv.setGen hb, I.st, I.fr, by rw [GenW.setGen_size]; exact I.gl⟩
def GR (G : Cx) (pg : List (Addr × Obj)) (σ : St) (g : Nat) (QT : Hp → Prop) (_n : Nat) (_s0 s1 : Shared) : Prop := ∃ H', Inv G pg σ H' s1 ∧ g + 1 ≤ s1.gens.size ∧ QT H'
def GY (G : Cx) (pg : List (Addr × Obj)) (σ : St) (fp : List Addr) (tn : Nat → Heap → Prop) (g : Nat) (W : Nat → Hp → Prop) (QF : Hp → Prop) : Protocol := fun _ _ v s kap =>
  ∃ i b H', v = .bool b ∧ GI G pg σ fp tn g i H' s ∧ (if b = true then W i H' else QF H') ∧ ∀ s'', GI G pg σ fp tn g i H' s'' → W i H' → kap (.send .none) s''
section
variable {X : Cx} {s1 : Shared} {H1 : Hp} {cenv : Env} {fp : List Addr} {pg : List (Addr × Obj)} {σ : St} {vs : List Nat} {tn : Nat → Heap → Prop} {g it : Nat} {J : It} {N : Nat} {W : Nat → Hp → Prop} {QT QF : Hp → Prop}
  {elt tg iter : Expr} {ifs : List Expr} {scope : Scope} {pos : Pos} {tg' : TG} {tt : TT} {te : TE}
theorem seg_gen (hc : X.calm = true) (T : Turn X.prog X.w X.K tg J fp it tn) (stat : ∀ {H' : Hp}, (∀ b ∈ fp, H' b = none) → ∀ b ∈ fp, FpOk (X.gen s1 H1 cenv fp) pg H' b)
    (hg : PG (X.gen s1 H1 cenv fp) tg tg') (ht : PTs (X.gen s1 H1 cenv fp) ifs tt) (he : PE (X.gen s1 H1 cenv fp) elt te) (hco : cenv.scope.isCoroutine = false)
    (step : ∀ i H, W i H → (J.stop i H ∧ QT H) ∨ (J.go i H ∧ i < N ∧ ∀ x H', J.yld i H x H' → tg' x (wipe σ vs) H' fun σ2 H3 => wipe σ2 vs = wipe σ vs ∧ tt σ2 H3 fun b H4 =>
      if b = true then te σ2 H4 fun y H5 => ∃ c, y = .bl c ∧ (if c = true then W (i + 1) H5 else QF H5) else W (i + 1) H4)) :
    ∀ (k i n : Nat) (s₀ s : Shared) (H : Hp), N - i = k → k ≤ n → GI (X.gen s1 H1 cenv fp) pg (wipe σ vs) fp tn g i H s → W i H →
      Seg (model X.prog X.w) X.A.in1.in1 (fun n s₀ r s₁ => r = .ok .next ∧ GR (X.gen s1 H1 cenv fp) pg (wipe σ vs) g QT n s₀ s₁) (GY (X.gen s1 H1 cenv fp) pg (wipe σ vs) fp tn g W QF) n s₀
        (.compLoop (.GeneratorExp elt [⟨tg, iter, ifs, 0⟩] scope pos) 0 (.ref it) .none cenv) ((model X.prog X.w).den (.compLoop (.GeneratorExp elt [⟨tg, iter, ifs, 0⟩] scope pos) 0 (.ref it) .none cenv)) [] s := by
  have ov : ∀ {α : Type} {m : Sem α} {Q : α → Shared → Prop} {E : Value → Shared → Prop} {s : Shared}, wpAny (model X.prog X.w) (X.gen s1 H1 cenv fp).A m Q E s →
      wpAny (model X.prog X.w) (X.A.in1.in1.over (.compLoop (.GeneratorExp elt [⟨tg, iter, ifs, 0⟩] scope pos) 0 (.ref it) .none cenv) []) m Q E s := fun h => by rw [over_gen]; exact h
  intro k
  induction k with
  | zero =>
    intro i n s₀ s H hk hn gi w
    show Seg _ _ _ _ _ s₀ _ ((compTurn (.GeneratorExp elt [⟨tg, iter, ifs, 0⟩] scope pos) 0 (.ref it) .none cenv).onRaise (leaving cenv)) [] s
    rw [compTurn_gen, Sem.onRaise_eq_wrap]
    refine seg_bind_wrap (wpAny_standAt ?_)
    rcases step i H w with ⟨stop, qt⟩ | ⟨_, hlt, _⟩
    · refine seg_bind_wrap (ov (GenW.wpAny_gsz gi.gl (thnF (T.done (X.gen s1 H1 cenv fp) rfl rfl rfl hc i pg s _ H (fun _ _ => False) gi.inv (stat gi.fr) gi.st stop) fun r s6 ⟨hr, I6⟩ => ?_)))
      subst hr
      exact fun gl => seg_end (.ok .next) ⟨rfl, H, I6, gl, qt⟩
    · omega
  | succ k ih =>
    intro i n s₀ s H hk hn gi w
    show Seg _ _ _ _ _ s₀ _ ((compTurn (.GeneratorExp elt [⟨tg, iter, ifs, 0⟩] scope pos) 0 (.ref it) .none cenv).onRaise (leaving cenv)) [] s
    rw [compTurn_gen, Sem.onRaise_eq_wrap]
    refine seg_bind_wrap (wpAny_standAt ?_)
    rcases step i H w with ⟨stop, qt⟩ | ⟨go, hlt, step⟩
    · refine seg_bind_wrap (ov (GenW.wpAny_gsz gi.gl (thnF (T.done (X.gen s1 H1 cenv fp) rfl rfl rfl hc i pg s _ H (fun _ _ => False) gi.inv (stat gi.fr) gi.st stop) fun r s6 ⟨hr, I6⟩ => ?_)))
      subst hr
      exact fun gl => seg_end (.ok .next) ⟨rfl, H, I6, gl, qt⟩
    · refine seg_bind_wrap (ov (GenW.wpAny_gsz gi.gl (thnF (T.item (X.gen s1 H1 cenv fp) rfl rfl rfl hc i pg s _ H (fun _ _ => False) gi.inv (stat gi.fr) gi.st go) fun r s4 ⟨u, hr, h4⟩ => ?_)))
      subst hr
      intro gl4
      refine seg_bind_wrap (ov (GenW.wpAny_gsz gl4 (thnF h4 fun _ s5 ⟨x, H5, I5, r5, y5, st5, fr5⟩ => ?_)))
      intro gl5
      have I5' := I5.pinned (stat fr5) (T.obj _ _ st5)
      refine seg_bind_wrap (ov (GenW.wpAny_gsz gl5 (thnF (hg.run _ s5 _ H5 x u _ I5' r5 (step x H5 y5)) fun _ s6 ⟨σ6, H6, I6, hw6, q6⟩ => ?_)))
      intro gl6
      refine seg_bind_wrap (ov (GenW.wpAny_gsz gl6 (thnF (ht.run _ s6 σ6 H6 _ I6 q6) fun b s7 ⟨H7, I7, q7⟩ => ?_)))
      intro gl7
      have hl6 : (wipe σ vs).length = σ6.length := by rw [← hw6, wipe_length]
      have fin : ∀ {s' : Shared} {H' : Hp}, Inv (X.gen s1 H1 cenv fp) (pg ++ pinsAt fp s5.heap) σ6 H' s' → g + 1 ≤ s'.gens.size → GI (X.gen s1 H1 cenv fp) pg (wipe σ vs) fp tn g (i + 1) H' s' := fun {s' H'} I' gl => by
        have pin' : ∀ b ∈ fp, ∀ o, s5.heap.get? b = some o → s'.heap.get? b = some o ∧ H' b = none := fun b hb o e =>
          let z := I'.pin (b, o) (List.mem_append_right _ (List.mem_append_right _ (mem_pinsAt hb e)))
          ⟨z.1, z.2.1⟩
        refine ⟨(I'.unpinned (pins := pg)).weak hl6 (fun j v e => ?_), T.keep _ _ _ st5 fun b hb o e => (pin' b hb o e).1, fun b hb => ?_, gl⟩
        · rw [← hw6] at e
          exact (wipe_some e).1
        · obtain ⟨o, e, _⟩ := T.obj _ _ st5 b hb
          exact (pin' b hb o e).2
      cases b with
      | false =>
        simp only [Bool.false_eq_true, if_false] at q7 ⊢
        exact seg_again rfl (ih (i + 1) n s₀ s7 H7 (by omega) (by omega) (fin I7 gl7) q7)
      | true =>
        simp only [if_true] at q7 ⊢
        have hy : ∀ v, yieldOut cenv v = yieldValue v := fun v => by simp only [yieldOut, hco, Bool.false_eq_true, if_false]
        simp only [hy]
        rw [Sem.bind_eq_wrap', Sem.bind_eq_wrap', Sem.wrap_wrap, Sem.wrap_wrap]
        refine seg_wrap (ov (GenW.wpAny_gsz gl7 (thnF (he.run _ s7 σ6 H7 _ I7 q7) fun y s8 ⟨yv, H8, I8, r8, c, hc8, q8⟩ => ?_)))
        intro gl8
        subst hc8
        cases r8
        obtain ⟨n', rfl⟩ : ∃ n', n = n' + 1 := ⟨n - 1, by omega⟩
        exact seg_at (seg_yield rfl rfl rfl ⟨i + 1, c, H8, rfl, fin I8 gl8, q8, fun s'' gi'' w'' => seg_again rfl (ih (i + 1) n' s'' s'' H8 (by omega) (by omega) gi'' w'')⟩)
theorem seg_gen0 (T : Turn X.prog X.w X.K tg J fp it tn) {n : Nat} {s₀ s : Shared} {R : GenEnd} {Y : Protocol} (hst : tn 0 s.heap)
    (loop : Seg (model X.prog X.w) X.A.in1.in1 R Y n s₀ (.compLoop (.GeneratorExp elt [⟨tg, iter, ifs, 0⟩] scope pos) 0 (.ref it) .none cenv) ((model X.prog X.w).den (.compLoop (.GeneratorExp elt [⟨tg, iter, ifs, 0⟩] scope pos) 0 (.ref it) .none cenv)) [] s) :
    Seg (model X.prog X.w) X.A.in1.in1 R Y n s₀ (.compStart (.GeneratorExp elt [⟨tg, iter, ifs, 0⟩] scope pos) 0 (.ref it) .none cenv) ((model X.prog X.w).den (.compStart (.GeneratorExp elt [⟨tg, iter, ifs, 0⟩] scope pos) 0 (.ref it) .none cenv)) [] s := by
  show Seg _ _ _ _ _ s₀ _ ((compStart (.GeneratorExp elt [⟨tg, iter, ifs, 0⟩] scope pos) 0 (.ref it) .none cenv).onRaise (leaving cenv)) [] s
  unfold compStart
  rw [Sem.onRaise_eq_wrap]
  show Seg _ _ _ _ _ s₀ _ ((ask >>= _).wrap _ _ _ _) [] s
  refine seg_bind_wrap (wpAny_askSetting ?_)
  split
  · exact seg_again rfl loop
  · first
      | exact seg_bind_wrap (wpAny_rule (seg_bind_wrap (wpAny_standAt (seg_bind_wrap (T.self _ 0 s _ _ hst (seg_again rfl loop))))))
      | (refine seg_bind_wrap (wpAny_rule ?_); show Seg _ _ _ _ _ s₀ _ ((standAt iter.pos >>= _).wrap _ _ _ _) [] s; exact seg_bind_wrap (wpAny_standAt (seg_bind_wrap (T.self _ 0 s _ _ hst (seg_again rfl loop)))))
theorem all_gen {a : Addr} {RR : Result → Shared → Prop} (hh : X.A.handled = none) (hroom : X.A.depth < recursionLimit) (hgen : ∀ s H, Inv (X.gen s1 H1 cenv fp) pg (wipe σ vs) H s → s.heap.IsGen a g)
    (hT : ∀ s' H', Inv (X.gen s1 H1 cenv fp) pg (wipe σ vs) H' s' → QT H' → RR (.ok (.ret (.bool true))) s') (hF : ∀ s' H', Inv (X.gen s1 H1 cenv fp) pg (wipe σ vs) H' s' → QF H' → RR (.ok (.ret (.bool false))) s') :
    ∀ (n i : Nat) (s : Shared) (H : Hp) (gs : GenState), GI (X.gen s1 H1 cenv fp) pg (wipe σ vs) fp tn g i H s → s.gens[g]? = some gs → W i H →
      (∀ s'', GI (X.gen s1 H1 cenv fp) pg (wipe σ vs) fp tn g i H s'' → W i H → gs.Goes (model X.prog X.w) X.A.in1.in1 (fun n s₀ r s₁ => r = .ok .next ∧ GR (X.gen s1 H1 cenv fp) pg (wipe σ vs) g QT n s₀ s₁) (GY (X.gen s1 H1 cenv fp) pg (wipe σ vs) fp tn g W QF) n (.send .none) s'') →
      codeAny (model X.prog X.w) X.A (.builtin "all.loop" ⟨[.ref a], []⟩) RR s := by
  intro n
  induction n with
  | zero =>
    intro i s H gs gi hgs w hgo
    refine codeAny_builtin F.entry_all_loop ?_
    rw [Around.under_plainId F.plain_all_loop _]
    show wpAny _ X.A.in1 (pyNext (.ref a) >>= _) _ _ s
    refine wpAny_bind (wpAny_pyNext_genexpQ (P := GR (X.gen s1 H1 cenv fp) pg (wipe σ vs) g QT) hh gi.inv.nolimit hroom (hgen s H gi.inv) hgs (hgo _ (gi.setGen rfl) w) (fun v s₁ gs' hb hv => ?_) (fun s₁ hp h' hk => ?_))
    · obtain ⟨j, b, H', rfl, gi', q, kap⟩ := hv
      cases b with
      | true => exact False.elim (kap _ gi' q)
      | false =>
        refine wpAny_bind (wpAny_holding (wpAny_truthy_bool ?_))
        refine wpAny_bind (wpAny_letGo ?_)
        exact wpAny_bind (wpAny_rule (wpAny_pure (hF _ H' (gi'.inv.setGen hb) q)))
    · obtain ⟨H', I', gl', qt⟩ := hp
      exact wpAny_bind (wpAny_rule (wpAny_pure (hT _ H' ((I'.setGen (gs := .finished) rfl).kept hk) qt)))
  | succ n ih =>
    intro i s H gs gi hgs w hgo
    refine codeAny_builtin F.entry_all_loop ?_
    rw [Around.under_plainId F.plain_all_loop _]
    show wpAny _ X.A.in1 (pyNext (.ref a) >>= _) _ _ s
    refine wpAny_bind (wpAny_pyNext_genexpQ (P := GR (X.gen s1 H1 cenv fp) pg (wipe σ vs) g QT) hh gi.inv.nolimit hroom (hgen s H gi.inv) hgs (hgo _ (gi.setGen rfl) w) (fun v s₁ gs' hb hv => ?_) (fun s₁ hp h' hk => ?_))
    · obtain ⟨j, b, H', rfl, gi', q, kap⟩ := hv
      cases b with
      | true =>
        refine wpAny_bind (wpAny_holding (wpAny_truthy_bool ?_))
        refine wpAny_bind (wpAny_letGo ?_)
        simp only [if_true] at q ⊢
        refine wpAny_pure ⟨plainId_quiet F.plain_all_loop _, ih j _ H' gs' (gi'.setGen hb) ?_ q kap⟩
        have := gi'.gl
        simp only [Shared.setGen]
        exact Array.getElem?_setIfInBounds_self_of_lt (by omega)
      | false =>
        refine wpAny_bind (wpAny_holding (wpAny_truthy_bool ?_))
        refine wpAny_bind (wpAny_letGo ?_)
        exact wpAny_bind (wpAny_rule (wpAny_pure (hF _ H' (gi'.inv.setGen hb) q)))
    · obtain ⟨H', I', gl', qt⟩ := hp
      exact wpAny_bind (wpAny_rule (wpAny_pure (hT _ H' ((I'.setGen (gs := .finished) rfl).kept hk) qt)))
end
section
variable {X : Cx}
/-- behind the iterator's making the def's table of code objects may have grown -/
def tAllG (P : Addr) (wi : TI) (g : TG) (tt : TT) (te : TE) (vs : List Nat) : TE := fun σ H Q => wi σ H fun J H1 => GxR.TabG H1 P ∧ ∀ H2, GxR.Tabbed P H1 H2 → (∃ ps more, H1 P = some (.tbl ps) ∧ H2 = upd H1 P (.tbl (ps ++ more)) ∧ TriplesOk (ps ++ more).toList) → ∃ (N : Nat) (W : Nat → Hp → Prop), W 0 H2 ∧
  ∀ i H, W i H → (J.stop i H ∧ Q (.bl true) H) ∨ (J.go i H ∧ i < N ∧ ∀ x H', J.yld i H x H' → g x (wipe σ vs) H' fun σ2 H3 => wipe σ2 vs = wipe σ vs ∧ tt σ2 H3 fun b H4 =>
      if b = true then te σ2 H4 fun y H5 => ∃ c, y = .bl c ∧ (if c = true then W (i + 1) H5 else Q (.bl false) H5) else W (i + 1) H4)
theorem pe_allG {c P : Addr} {elt tg iter : Expr} {ifs : List Expr} {scope : Scope} {own : List (Str × Nat)} {p pos gpos : Pos} {wi : TI} {g : TG} {tt : TT} {te : TE} {k : Nat} (hr : Room k X.A) (hc : X.calm = true) (hN : X.N.Nodup) (hm : X.mg "all" = none) (hb : bootBuiltins "all" = some (.builtin "all"))
    (TB : GxR.TabB X.base X.mg c P) (hcode : X.env.code = .ref c) (hi : PI X tg iter wi) (ok : BlkOk X.N X.env.scope scope own) (gk : GenK scope)
    (hg : ∀ (s : Shared) (H : Hp) (C : Addr) (code : Value) (fp : List Addr), PG (X.gen s H (genE X scope C code) fp) tg g) (ht : ∀ (s : Shared) (H : Hp) (C : Addr) (code : Value) (fp : List Addr), PTs (X.gen s H (genE X scope C code) fp) ifs tt)
    (he : ∀ (s : Shared) (H : Hp) (C : Addr) (code : Value) (fp : List Addr), PE (X.gen s H (genE X scope C code) fp) elt te) (hgl : Gl X "all" := by rfl) (hs : ∀ v, genFold iter X.env v = pure v := by intro _; rfl)
    (hst : starEach [.GeneratorExp elt [⟨tg, iter, ifs, 0⟩] scope gpos] X.env = (false, eval (.GeneratorExp elt [⟨tg, iter, ifs, 0⟩] scope gpos) X.env) :: starEach [] X.env := by rfl) :
    PE X (.Call (.Name "all" p) [.GeneratorExp elt [⟨tg, iter, ifs, 0⟩] scope gpos] [] pos) (tAllG P wi g tt te (own.map (·.2))) := by
  refine ⟨fun pins s σ H Q I h => ?_⟩
  refine wpAny_Call_Name_kw (ld_blt I hgl hm hb ?_)
  refine PyProof.Rows.callWith_builtin1 ?_ hst (by rfl)
  rw [hst]
  show wpAny _ _ (spliced ((false, eval (.GeneratorExp elt [⟨tg, iter, ifs, 0⟩] scope gpos) X.env) :: backTo pos (starEach [] X.env))) _ _ s
  have hfree : ∀ y ∈ scope.names, y.2 = .free → ∃ c, X.env.cells.lookup y.1 = some c := fun y hy e => by
    rcases ok.free y hy e with k | k
    · exact I.ok.has _ (.inl k)
    · exact I.ok.has _ (.inr k)
  have hdp : X.A.depth < recursionLimit := by have := hr.dp; omega
  refine Calls.spliced_cons (wpAny_GeneratorExp_make gk.co (closure_ok hfree) gk.cell gk.dot ok.kind hdp (thn (hi.run pins s σ H _ I h) fun xv s1 hx => thn hx fun itv s2 h2 => ?_) hs)
  obtain ⟨it, fp, tn, J, H2, e, I2, T, st2, f2, ⟨ps, hP, htr⟩, q⟩ := h2
  subst e
  refine ⟨I2.nolimit, ?_⟩
  have hPs : s2.heap.get? P = some { cls := .none, data := .fields ps } := I2.hok P _ hP
  have hPlt : P < s2.heap.objs.size := Heap.lt_size hPs
  have cd : PySem.W.CodeHd s2.heap c P := TB.code.keeps fun b u e => I2.bk b u e
  have cont : ∀ (code : Value) (h3 : Heap) (tk : Nat) (ps' : Array Value), Heap.ExtBut P s2.heap h3 → s2.heap.objs.size ≤ h3.objs.size → h3.get? P = some { cls := .none, data := .fields ps' } → (∃ more, ps' = ps ++ more) → TriplesOk ps'.toList →
      wpAny (model X.prog X.w) X.A (builtinsFor X.env.globals X.env.builtins) (fun bi s₄ => ∀ h', h'.Ns s₄.heap.objs.size (fun y => if y = ".0" then some (.ref it) else none) → Heap.SameBut s₄.heap.objs.size (s₄.heap.push { cls := .type "frame", data := .dict #[] }) h' →
          (fun (gv : Value) (s5 : Shared) => wpAny (model X.prog X.w) X.A (spliced (backTo pos (starEach [] X.env))) (fun vs s' => wpAny (model X.prog X.w) X.A (call (.builtin "all") (gv :: vs)) (EP X pins σ Q) X.xe s') X.xe s5) (.ref h'.objs.size) { s₄ with
            gens := s₄.gens.push (.fresh (.compStart (.GeneratorExp elt [⟨tg, iter, ifs, 0⟩] scope gpos) 0 (.ref it) .none (genEnv scope (cloFrom X.env.cells scope.names []) s₄.heap.objs.size code bi X.env))),
            toks := s₄.toks + 1 + 1 + 1,
            heap := h'.push { cls := .type "generator", data := .fields #[.int s₄.gens.size 0, .str "<genexpr>" (s₄.toks + 1), .str (X.env.qual ++ "<genexpr>") (s₄.toks + 1 + 1)] } }) X.xe { s2 with heap := h3, toks := tk } := by
    intro code h3 tk ps' hx hsz hP3 hmore ht3
    obtain ⟨bm, ob, e1, e2, e3, e4, e5, e6, e7, e8⟩ := TB.bm
    refine wpAny_builtinsFor (m := X.mg) (by rw [I2.ok.glob]; exact (I2.mod.glob.keeps I2.bk).extBut hx TB.gP) e1 e2 (hx _ _ e4 (I2.bk _ _ e5)) e6 e7 e8 ?_
    intro h' hn hsb
    refine Calls.spliced_nil ?_
    obtain ⟨more, rfl⟩ := hmore
    have I3 : Inv X pins σ (upd H2 P (.tbl (ps ++ more))) { s2 with heap := h3, toks := tk } := GxR.inv_tab (more := more) (h' := h3) (g' := s2.gens) (d' := s2.drawn) (t' := tk) I2 hP (fun b o hb e => hx b o hb e) hP3 I2.bare
    obtain ⟨N, W, w0, step⟩ := q _ ⟨⟨ps ++ more, upd_same, ht3⟩, fun b hb => upd_ne hb⟩ ⟨ps, more, hP, rfl, ht3⟩
    have fne : ∀ b ∈ fp, b ≠ P := fun b hb z => by
      have := (f2 b hb).1
      rw [z, hP] at this
      cases this
    have f3 : ∀ b ∈ fp, FpOk X pins (upd H2 P (.tbl (ps ++ more))) b ∧ b < h3.objs.size := fun b hb => by
      obtain ⟨o, e, _⟩ := T.obj _ _ st2 b hb
      exact ⟨⟨by rw [upd_ne (fne b hb)]; exact (f2 b hb).1, (f2 b hb).2⟩, Nat.lt_of_lt_of_le (Heap.lt_size e) hsz⟩
    have J0 := gen_start (code := code) (og := { cls := .type "generator", data := .fields #[.int s2.gens.size 0, .str "<genexpr>" (tk + 1), .str (X.env.qual ++ "<genexpr>") (tk + 1 + 1)] })
      (gs := .fresh (.compStart (.GeneratorExp elt [⟨tg, iter, ifs, 0⟩] scope gpos) 0 (.ref it) .none (genE X scope h3.objs.size code))) (tk := tk + 1 + 1 + 1) I3 ok gk hN f3 hn hsb (fun v z => by cases z) rfl rfl
    have sz' : h'.objs.size = h3.objs.size + 1 := by rw [hsb.1, Heap.size_push]
    have kp3 : ∀ b o, h3.get? b = some o → h'.get? b = some o := fun b o e => hsb.extBut b o (Nat.ne_of_lt (Heap.lt_size e)) (Heap.get?_push_of_some _ e)
    have gi : GI (X.gen { s2 with heap := h3, toks := tk } (upd H2 P (.tbl (ps ++ more))) (genE X scope h3.objs.size code) fp) [(h'.objs.size, { cls := .type "generator", data := .fields #[.int s2.gens.size 0, .str "<genexpr>" (tk + 1), .str (X.env.qual ++ "<genexpr>") (tk + 1 + 1)] })] (wipe σ (own.map (·.2))) fp tn s2.gens.size 0 (upd H2 P (.tbl (ps ++ more)))
        { s2 with heap := h'.push { cls := .type "generator", data := .fields #[.int s2.gens.size 0, .str "<genexpr>" (tk + 1), .str (X.env.qual ++ "<genexpr>") (tk + 1 + 1)] }, gens := s2.gens.push (.fresh (.compStart (.GeneratorExp elt [⟨tg, iter, ifs, 0⟩] scope gpos) 0 (.ref it) .none (genE X scope h3.objs.size code))), toks := tk + 1 + 1 + 1 } :=
      ⟨J0, T.keep _ _ _ st2 fun b hb o e => Heap.get?_push_of_some _ (kp3 b o (hx b o (fne b hb) e)), fun b hb => (f3 b hb).1.1, by rw [Array.size_push]; exact Nat.le_refl _⟩
    have stat : ∀ {H' : Hp}, (∀ b ∈ fp, H' b = none) → ∀ b ∈ fp, FpOk (X.gen { s2 with heap := h3, toks := tk } (upd H2 P (.tbl (ps ++ more))) (genE X scope h3.objs.size code) fp) [(h'.objs.size, { cls := .type "generator", data := .fields #[.int s2.gens.size 0, .str "<genexpr>" (tk + 1), .str (X.env.qual ++ "<genexpr>") (tk + 1 + 1)] })] H' b := fun {H'} hn b hb =>
      ⟨hn b hb, (J0.ok.exf b hb).1, J0.ok.exfs b hb, .inl hb, fun x c e => (J0.ok.exf b hb).2 x c e, fun p hp => by
        have e : p = (h'.objs.size, { cls := .type "generator", data := .fields #[.int s2.gens.size 0, .str "<genexpr>" (tk + 1), .str (X.env.qual ++ "<genexpr>") (tk + 1 + 1)] }) := by simpa using hp
        rw [e]
        intro z
        have := (f3 b hb).2
        have z : h'.objs.size = b := z
        rw [← z, sz'] at this
        exact absurd this (Nat.not_lt.mpr (Nat.le_succ _))⟩
    have back : ∀ s' H', Inv (X.gen { s2 with heap := h3, toks := tk } (upd H2 P (.tbl (ps ++ more))) (genE X scope h3.objs.size code) fp) [(h'.objs.size, { cls := .type "generator", data := .fields #[.int s2.gens.size 0, .str "<genexpr>" (tk + 1), .str (X.env.qual ++ "<genexpr>") (tk + 1 + 1)] })] (wipe σ (own.map (·.2))) H' s' → Inv X pins σ H' s' := fun s' H' I6 =>
      I3.call' (ch := fp) I6.os I6.base I6.hok I6.bare fun b hb => ⟨(f3 b hb).1.2.2.2.1, (f3 b hb).1.2.1, (f3 b hb).1.2.2.2.2.1, (f3 b hb).1.2.2.2.2.2⟩
    refine call_function_tree F.kind_all F.plain_all F.entry_all (F.args_all1 _) ?_
    unfold Builtin.«all»
    refine wpAny_bind (m := oneArg "all" _) (wpAny_pure ?_)
    have isg : ∀ s H, Inv (X.gen { s2 with heap := h3, toks := tk } (upd H2 P (.tbl (ps ++ more))) (genE X scope h3.objs.size code) fp) [(h'.objs.size, { cls := .type "generator", data := .fields #[.int s2.gens.size 0, .str "<genexpr>" (tk + 1), .str (X.env.qual ++ "<genexpr>") (tk + 1 + 1)] })] (wipe σ (own.map (·.2))) H s → s.heap.IsGen h'.objs.size s2.gens.size := fun s H I6 =>
      ⟨_, _, _, (I6.pin _ (List.mem_append_right _ (List.mem_singleton.mpr rfl))).1, rfl, rfl, rfl⟩
    refine wpAny_bind (wpAny_pyIter_gen (isg _ _ gi.inv) ?_)
    refine wpAny_pure ⟨plainId_quiet F.plain_all_loop _, ?_⟩
    refine all_gen (QT := fun H' => Q (.bl true) H') (QF := fun H' => Q (.bl false) H') (fp := fp) (tn := tn) (W := W) hr.hd hdp isg (fun s' H' I6 q => ⟨.bl true, H', back s' H' I6, rfl, q⟩) (fun s' H' I6 q => ⟨.bl false, H', back s' H' I6, rfl, q⟩) N 0 _ _ _ gi (Array.getElem?_push_size ..) w0 (fun s'' gi'' w'' => ⟨rfl, ?_⟩)
    exact seg_gen0 T gi''.st (seg_gen (N := N) hc T stat (hg _ _ _ _ _) (ht _ _ _ _ _) (he _ _ _ _ _) gk.co step N 0 N _ _ _ (Nat.sub_zero _) (Nat.le_refl _) gi'' w'')
  cases hf : codeAmong gpos ps.toList with
  | none =>
    refine wpAny_genexprCodeX hcode (cd.code hPs htr) (cd.tab hPs) hf fun c' h' tk hx hge hlt hco' _ htab' _ => ?_
    obtain ⟨o1, vs, f1, tf, fl, tg, inF, tx, tt, op, _, _, _, _, _, _, _, _, _, htr, _⟩ := hco'
    exact cont _ h' tk _ hx (Nat.le_trans hge (Nat.le_of_lt hlt)) htab'.2 ⟨_, rfl⟩ htr
  | some cv =>
    refine wpAny_genexprCode_hit hcode (cd.code hPs htr) hf ?_
    exact cont cv s2.heap s2.toks ps (Heap.ExtBut.refl _ _) (Nat.le_refl _) hPs ⟨#[], by simp⟩ htr
end
end L2

set_option Elab.async false
set_option linter.all false
set_option maxRecDepth 100000
set_option maxHeartbeats 4000000
namespace DV
open PySem PySem.Spec PyProof.Rows L2

theorem tab_step {C : Cfg} {Z Fr : Addr → Prop} {H : Hp} {P : Addr} {ps ps' : Array Value} (ok : Ok C Z Fr H) (hP : P ∈ C.tb) (e : H P = some (.tbl ps)) : Step Z Fr H Z (upd H P (.tbl ps')) := by
  have ne : ∀ b u, H b = some u → (∀ q, u ≠ .tbl q) → b ≠ P := fun b u q n y => by rw [y, e] at q; cases q; exact n ps rfl
  refine ⟨fun _ h => h, fun b h => upd_ne fun y => ?_, fun b vs h => by rw [upd_ne (ne b _ h fun _ z => by cases z)]; exact h, fun b o u h => by rw [upd_ne (ne b _ h fun _ z => by cases z)]; exact h, fun _ h _ => h, fun b h => ?_⟩
  · rw [y] at h
    exact h.elim (ok.nz P hP).1 (ok.nz P hP).2
  · by_cases y : b = P
    · rw [y, upd_same]; exact fun z => by cases z
    · rw [upd_ne y]; exact h
theorem EnvR.tab {C : Cfg} {Z Fr : Addr → Prop} {As : Nat → Addr} {σ : L2.St} {H : Hp} {env : En} {P : Addr} {ps ps' : Array Value} (I : EnvR C Z Fr As σ H env) (hP : P ∈ C.tb) (e : H P = some (.tbl ps)) (t : TriplesOk ps'.toList) :
    EnvR C Z Fr As σ (upd H P (.tbl ps')) env := by
  have st : Step Z Fr H Z (upd H P (.tbl ps')) := tab_step I.ok hP e
  have ne : ∀ b u, H b = some u → (∀ q, u ≠ .tbl q) → b ≠ P := fun b u q n y => by rw [y, e] at q; cases q; exact n ps rfl
  refine ⟨⟨fun b h => st.non b (I.ok.z b h), fun b h => st.non b (I.ok.f b h), I.ok.zf, fun P' hP' => ?_, I.ok.nz⟩, I.len, fun i v x h1 h2 => ?_, I.apart⟩
  · by_cases y : P' = P
    · exact ⟨ps', by rw [y, upd_same], t⟩
    · obtain ⟨q, h, k⟩ := I.ok.tab P' hP'
      exact ⟨q, by rw [upd_ne y]; exact h, k⟩
  · have s := I.slot i v x h1 h2
    rcases x with _ | ⟨d | ⟨t2, m2⟩ | ns⟩
    · exact True.intro
    · obtain ⟨u, q, y⟩ := s
      exact ⟨u, q, y.step st⟩
    · obtain ⟨b, q, y, z2, f2, k2⟩ := s
      refine ⟨b, q, y.step st (upd_ne fun z => ?_), z2, f2, k2⟩
      have mu := y.mut
      rw [z, e] at mu
      exact mu
    · obtain ⟨u, q, y⟩ := s
      exact ⟨u, q, st.sqs y⟩
theorem wipe_wipe {σ : L2.St} {vs : List Nat} : wipe (wipe σ vs) vs = wipe σ vs := by
  have : ∀ us : List Nat, (∀ u ∈ us, u ∈ vs) → wipe (wipe σ us) vs = wipe σ vs := by
    intro us
    induction us with
    | nil => intro _; rfl
    | cons u us ih =>
      intro h
      show wipe ((wipe σ us).set u none) vs = _
      rw [wipe_set (h u (by simp)), ih fun x hx => h x (by simp [hx])]
  exact this vs fun _ h => h

/-! ### all(elt for tg in iter if ..) -/
def dAllL (g : DG) (t : DT) (w : DE) (vs : List Nat) : List D → En → (Bool → En → Prop) → Prop
  | [], env, Q => Q true env
  | d :: ds, env, Q => g (.val d) (wipeE vs env) fun e1 => t e1 fun b e2 => if b = true then w e2 fun r e3 => need (isB r) fun c => if c = true then dAllL g t w vs ds e3 Q else Q false e3 else dAllL g t w vs ds e2 Q
theorem dAllL_mono {g : DG} {t : DT} {w : DE} {vs : List Nat} (mg : MonoT g) (mt : Mono t) (mw : Mono w) : ∀ ds env Q Q', (∀ r e, Q r e → Q' r e) → dAllL g t w vs ds env Q → dAllL g t w vs ds env Q'
  | [], _, _, _, k, q => k _ _ q
  | d :: ds, env, Q, Q', k, q => mg _ _ _ _ (fun e1 q => mt e1 _ _ (fun b e2 q => by
    cases b with
    | true => exact mw e2 _ _ (fun r e3 q => by
        obtain ⟨c, ec, q⟩ := need_out q
        refine need_in ec ?_
        cases c with
        | true => exact dAllL_mono mg mt mw ds e3 _ _ k q
        | false => exact k _ _ q) q
    | false => exact dAllL_mono mg mt mw ds e2 _ _ k q) q) q
def dAll (wi : DI) (g : DG) (t : DT) (w : DE) (vs : List Nat) : DE := fun env Q => wi env fun ds e => dAllL g t w vs ds (wipeE vs e) fun c e' => Q (.val (.bool c)) (backE e vs (wipeE vs e'))
theorem dAll_mono {wi : DI} {g : DG} {t : DT} {w : DE} {vs : List Nat} (mi : Mono wi) (mg : MonoT g) (mt : Mono t) (mw : Mono w) : Mono (dAll wi g t w vs) := fun env Q Q' k q =>
  mi env _ _ (fun ds e q => dAllL_mono mg mt mw ds _ _ _ (fun _ _ => k _ _) q) q
theorem all_lift {C : Cfg} {P : Addr} {wi : DI} {g : DG} {t : DT} {w : DE} {vs : List Nat} (hP : P ∈ C.tb) (mi : Mono wi) (mg : MonoT g) (mt : Mono t) (mw : Mono w) : ∀ σ H Q, tE C (dAll wi g t w vs) σ H Q → tAllG P (tI C wi) (tGW C vs g) (tT C t) (tE C w) vs σ H Q := fun σ H Q ⟨Z, Fr, As, env, I, q⟩ => by
  refine ⟨Z, Fr, As, env, I, mi env _ _ (fun ds e1 q J H1 Z1 st1 I1 ok => ⟨I1.ok.tab P hP, fun H2 _ hx => ?_⟩) q⟩
  obtain ⟨ps, more, eP, rfl, tr⟩ := hx
  have I2 := I1.tab hP eP tr
  have st2 : Step Z1 Fr H1 Z1 (upd H1 P (.tbl (ps ++ more))) := tab_step I1.ok hP eP
  generalize upd H1 P (.tbl (ps ++ more)) = H2 at I2 st2
  have Iw : EnvR C Z1 Fr As (wipe σ vs) H2 (wipeE vs (wipeE vs e1)) := by
    have := (I2.wipe vs).wipe vs
    rw [wipe_wipe] at this
    exact this
  refine ⟨ds.length, fun i H3 => i ≤ ds.length ∧ ∃ Z3 env3, Step Z1 Fr H1 Z3 H3 ∧ EnvR C Z3 Fr As (wipe σ vs) H3 (wipeE vs env3) ∧
      dAllL g t w vs (ds.drop i) env3 fun c e' => ∀ v H' Z', Step Z3 Fr H3 Z' H' → EnvR C Z' Fr As σ H' (backE e1 vs (wipeE vs e')) → ResR C Z' Fr σ (backE e1 vs (wipeE vs e')) H' v (.val (.bool c)) → Q v H',
    ⟨Nat.zero_le _, Z1, wipeE vs e1, st2, Iw, dAllL_mono mg mt mw ds _ _ _ (fun c e' q v H' Z' st I' R => q v H' Z' ((st1.trans st2).trans st) I' R) q⟩, ?_⟩
  rintro i H3 ⟨hi, Z3, env3, st3, I3, q3⟩
  obtain ⟨go, stop⟩ := ok _ Z3 H3 i st3 I3.ok
  by_cases hlt : i < ds.length
  · refine .inr ?_
    have ed : ds[i]? = some ds[i] := List.getElem?_eq_getElem hlt
    obtain ⟨go, yl⟩ := go _ ed
    rw [List.drop_eq_getElem_cons hlt] at q3
    refine ⟨go, hlt, fun x H4 y => ?_⟩
    obtain ⟨y1, rx⟩ := yl x H4 y
    obtain ⟨I4, st4⟩ := yld_env I3 y1
    refine ⟨Z3, Fr, As, wipeE vs env3, .val ds[i], I4, rx, mg _ _ _ _ (fun e5 q5 σ5 H5 Z5 st5 I5 hw5 => ?_) q3⟩
    have hw : wipe σ5 vs = wipe σ vs := hw5.trans wipe_wipe
    refine ⟨hw, Z5, Fr, As, e5, I5, mt e5 _ _ (fun b e6 q6 H6 Z6 st6 I6 => ?_) q5⟩
    have st36 : Step Z3 Fr H3 Z6 H6 := (st4.trans st5).trans st6
    cases b with
    | false =>
      simp only [Bool.false_eq_true, if_false] at q6 ⊢
      have I7 := I6.wipe vs
      rw [hw] at I7
      exact ⟨hlt, Z6, e6, st3.trans st36, I7, dAllL_mono mg mt mw _ _ _ _ (fun c e' q v H' Z' st I' R => q v H' Z' (st36.trans st) I' R) q6⟩
    | true =>
      simp only [if_true] at q6 ⊢
      refine ⟨Z6, Fr, As, e6, I6, mw e6 _ _ (fun r e7 q7 yv H7 Z7 st7 I7 ry => ?_) q6⟩
      obtain ⟨c, ec, q7⟩ := need_out q7
      have er := isB_eq ec
      subst er
      cases ry
      have st37 : Step Z3 Fr H3 Z7 H7 := st36.trans st7
      have I8 := I7.wipe vs
      rw [hw] at I8
      refine ⟨c, rfl, ?_⟩
      cases c with
      | true =>
        simp only [if_true] at q7 ⊢
        exact ⟨hlt, Z7, e7, st3.trans st37, I8, dAllL_mono mg mt mw _ _ _ _ (fun c e' q v H' Z' st I' R => q v H' Z' (st37.trans st) I' R) q7⟩
      | false =>
        simp only [Bool.false_eq_true, if_false] at q7 ⊢
        exact q7 _ H7 Z7 st37 (I1.back (st3.trans st37) I8) (Rp.bl _)
  · refine .inl ⟨stop (by omega), ?_⟩
    rw [List.drop_eq_nil_of_le (by omega)] at q3
    exact q3 _ H3 Z3 Step.refl (I1.back st3 I3) (Rp.bl _)
section
variable {tb : List Addr} {X : Cx}
theorem se_all {c P : Addr} {elt tg iter : Expr} {ifs : List Expr} {scope : Scope} (own : List (Str × Nat)) {p pos gpos : Pos} {wi : DI} {g : DG} {t : DT} {w : DE} {k : Nat} (hr : RoomG k X.A) (hc : X.calm = true) (hN : X.N.Nodup) (hP : P ∈ tb) (TB : GxR.TabB X.base X.mg c P) (hcode : X.env.code = .ref c) (hm : X.mg "all" = none)
    (hb : bootBuiltins "all" = some (.builtin "all")) (hi : SI tb X tg iter wi) (ok : BlkOk X.N X.env.scope scope own) (gk : GenK scope)
    (hg : ∀ (s : Shared) (H : Hp) (C : Addr) (code : Value) (fp : List Addr), SGb (own.map (·.2)) tb (X.gen s H (genE X scope C code) fp) tg g) (ht : ∀ (s : Shared) (H : Hp) (C : Addr) (code : Value) (fp : List Addr), STs tb (X.gen s H (genE X scope C code) fp) ifs t)
    (he : ∀ (s : Shared) (H : Hp) (C : Addr) (code : Value) (fp : List Addr), SE tb (X.gen s H (genE X scope C code) fp) elt w) (hgl : Gl X "all" := by rfl) (hs : ∀ v, genFold iter X.env v = pure v := by intro _; rfl)
    (hst : starEach [.GeneratorExp elt [⟨tg, iter, ifs, 0⟩] scope gpos] X.env = (false, eval (.GeneratorExp elt [⟨tg, iter, ifs, 0⟩] scope gpos) X.env) :: starEach [] X.env := by rfl) :
    SE tb X (.Call (.Name "all" p) [.GeneratorExp elt [⟨tg, iter, ifs, 0⟩] scope gpos] [] pos) (dAll wi g t w (own.map (·.2))) :=
  have s0 : Shared := X.s_0
  have mg := (hg s0 (fun _ => none) 0 .none []).mono
  have mt := (ht s0 (fun _ => none) 0 .none []).mono
  have mw := (he s0 (fun _ => none) 0 .none []).mono
  ⟨dAll_mono hi.mono mg mt mw, (pe_allG hr.room hc hN hm hb TB hcode hi.pi ok gk (fun s H C code fp => (hg s H C code fp).pg) (fun s H C code fp => (ht s H C code fp).pt) (fun s H C code fp => (he s H C code fp).pe) hgl hs hst).imp (all_lift (C := ⟨X.K, tb⟩) hP hi.mono mg mt mw)⟩
/-- the room in the generator's frame -/
theorem RoomG.gen {k : Nat} {A : Around} {env : Env} (h : RoomG (k + 1) A) : RoomG k (A.in1.in1.deeper env) :=
  ⟨⟨h.room.hd, by have := h.room.dp; show A.depth + 1 + 3 * k + 5 < _; omega, by have := h.room.un; show A.units + 1 + 1 + 3 + 16 * k + 200 < _; omega⟩, h.gd⟩
theorem boot_all : bootBuiltins "all" = some (.builtin "all") := by first | exact PyProof.Rows.boot_all | decide +kernel
end
end DV

set_option Elab.async false
set_option linter.all false
set_option maxRecDepth 100000
set_option maxHeartbeats 4000000
/-! the end of a law row -/
namespace DV
open PySem PySem.Spec PyProof.Rows L2

/-- what is tracked at the law's entry: the tables, the script if it is no written object -/
def hpL (K : Frag) (a : Addr) (oa : Obj) (xs : List V) (ts : List Addr) : Hp := fun b => if b ∈ ts then some (.tbl #[]) else if b = a ∧ K.lookup a = none then some (.frz oa (.lst xs)) else none
section
variable {P : Program} {w : World} {K : Frag} {mg mb : Str → Option Value} {k : Nat} {fa a : Addr} {cs : List (Addr × Addr)} {fd : FuncData} {x : Str} {fs : FS} {s₁ : Shared} {vs : List Value} {ns : List Int}
theorem law_callG (KX : K.In s₁.heap) (hns : s₁.heap.Ns mainGlobals mg) (hb : s₁.heap.Ns builtinsNs mb) (hbb : ∀ x : Str, x ≠ "__name__" → mb x = bootBuiltins x) (hlim : s₁.heap.NoLimit) (hg : s₁.gens = #[])
    (hT : ∀ p ∈ cs, s₁.heap.get? p.2 = some { cls := .none, data := .fields #[] }) (nT : ∀ p ∈ cs, K.lookup p.2 = none) (C : ∀ p ∈ cs, PySem.W.CodeHd s₁.heap p.1 p.2)
    (hbm : ∃ (bm : Addr) (ob : Obj), mg "__builtins__" = some (.ref bm) ∧ bm ≠ builtinsNs ∧ s₁.heap.get? bm = some ob ∧ ob.cls = .type "module" ∧ ob.dict = some builtinsNs ∧ ob.data = .plain)
    (ha : s₁.heap.get? a = some { cls := .type "list", data := .seq vs.toArray }) (hi : IntsAre vs ns) (hl : ns.length ≤ sizeLine) (hr : RoomG k callerA)
    (F : ∀ base : Heap, K.In base → base.Ns mainGlobals mg → (∀ p ∈ cs, GxR.TabB base mg p.1 p.2) → FnG P w K mg base CX0 (cs.map (·.2)) k fa fd [x] fs) (hbind : ∀ (s : Shared) (u : Value), BindsTo s fd ⟨[u], []⟩ [(x, u)])
    (hfs : fs [.scr ns] (fun r _ => r = .val (.bool true)) fun _ => False) :
    codeAny (model P w) callerA (.call (.ref fa) ⟨[.ref a], []⟩) (fun r s' => r = .ok (.ret (.bool true)) ∧ OldK s₁.heap s'.heap ∧ s'.os = s₁.os ∧ AllBare s'.gens) s₁ := by
  have rv := vals_ints hi
  have lenV := hi.length
  generalize hts : cs.map (·.2) = ts at F ⊢
  have ofT : ∀ b, b ∈ ts → ∃ p ∈ cs, p.2 = b := fun b h => List.mem_map.mp (by rw [hts]; exact h)
  have isT : ∀ b, b ∈ ts → s₁.heap.get? b = some { cls := .none, data := .fields #[] } := fun b h => by
    obtain ⟨p, hp, rfl⟩ := ofT b h
    exact hT p hp
  have memT : ∀ p ∈ cs, p.2 ∈ ts := fun p hp => by rw [← hts]; exact List.mem_map.mpr ⟨p, hp, rfl⟩
  have aT : a ∉ ts := fun z => by
    have q := isT a z
    rw [ha] at q
    cases q
  generalize hH : hpL K a { cls := .type "list", data := .seq vs.toArray } (ns.map V.int) ts = H
  have H1 : ∀ b, b ∈ ts → H b = some (.tbl #[]) := fun b h => by rw [← hH]; exact if_pos h
  have H2 : K.lookup a = none → H a = some (.frz { cls := .type "list", data := .seq vs.toArray } (.lst (ns.map V.int))) := fun h => by rw [← hH]; exact (if_neg aT).trans (if_pos ⟨rfl, h⟩)
  have H3 : ∀ b, b ∉ ts → (b = a → K.lookup a ≠ none) → H b = none := fun b h1 h2 => by rw [← hH]; exact (if_neg h1).trans (if_neg fun z => h2 z.1 z.2)
  -- what is no table and no script is not tracked
  have none_of : ∀ {b : Addr} {o : Obj}, s₁.heap.get? b = some o → o.data ≠ .fields #[] → (∀ us n, o.data ≠ .seq us n) → H b = none := fun {b o} e h1 h2 => by
    refine H3 b (fun hb => ?_) fun hb _ => ?_
    · rw [isT b hb] at e; cases e; exact h1 rfl
    · rw [hb, ha] at e; cases e; exact h2 _ _ rfl
  have dictN : ∀ {b : Addr} {o : Obj} {es : Array DictEntry} {ep : Nat}, s₁.heap.get? b = some o → o.data = .dict es ep → H b = none := fun {b o es ep} e d =>
    none_of e (by rw [d]; exact fun z => by cases z) fun us n z => by rw [d] at z; cases z
  have nsK : ∀ {b : Addr} {m : Str → Option Value}, s₁.heap.Ns b m → (hidT s₁.heap H).Ns b m := fun {b m} ⟨o, es, ep, e, d, r⟩ => ⟨o, es, ep, hidT_get e (dictN e d), d, r⟩
  have hKb : K.In (hidT s₁.heap H) := fun b o e => hidT_get (KX b o e) (H3 b (fun hb => by
    obtain ⟨p, hp, rfl⟩ := ofT b hb
    rw [nT p hp] at e
    cases e) fun hb z => by
    rw [hb] at e
    rw [z] at e
    cases e)
  have hM : L2.Mod K mg (hidT s₁.heap H) := ⟨hKb, nsK hns, ⟨mb, nsK hb, hbb⟩, let ⟨mc, h1, h2⟩ := hlim; ⟨mc, nsK h1, h2⟩⟩
  have TB : ∀ p ∈ cs, GxR.TabB (hidT s₁.heap H) mg p.1 p.2 := fun p hp => by
    refine ⟨?_, ?_, fun z => ?_⟩
    · obtain ⟨o, us, file, tf, flags, tg, inF, text, tt, e1, r1, r2, r3, r⟩ := C p hp
      refine ⟨o, us, file, tf, flags, tg, inF, text, tt, hidT_get e1 (none_of e1 (fun z => ?_) fun us n z => ?_), r1, r2, r3, r⟩
      · rw [r2] at z; cases z; simp at r3
      · rw [r2] at z; cases z
    · obtain ⟨bm, ob, b1, b2, b3, b4, b5, b6⟩ := hbm
      refine ⟨bm, ob, b1, b2, fun q => ?_, fun q => ?_, hidT_get b3 (none_of b3 (by rw [b6]; exact fun z => by cases z) fun us n z => by rw [b6] at z; cases z), b4, b5, b6⟩
      · obtain ⟨o, es, ep, e, hd, _⟩ := hns
        rw [q, e] at b3
        cases b3
        rw [hd] at b6
        cases b6
      · rw [q, hT p hp] at b3
        cases b3
        cases b6
    · obtain ⟨o, es, ep, e, hd, _⟩ := hns
      rw [z, hT p hp] at e
      cases e
      cases hd
  have hok : HOk P w H s₁.heap := fun b u e => by
    by_cases hb : b ∈ ts
    · rw [H1 b hb] at e
      cases e
      exact isT b hb
    · by_cases hb2 : b = a ∧ K.lookup a = none
      · obtain ⟨rfl, hk⟩ := hb2
        rw [H2 hk] at e
        cases e
        exact ⟨ha, by rw [List.length_map]; exact hl, vs, _, rv, ha⟩
      · rw [H3 b hb fun z y => hb2 ⟨z, y⟩] at e
        cases e
  have e0 : Env0 P w K mg (hidT s₁.heap H) callerA [] s₁ H := ⟨rfl, hM, fun b o e => of_hidT e, Nat.le_of_eq (hidT_size _ _), trivial, fun b hb => absurd (show b ∈ ([] : List Addr) from hb) (by simp), hok, .of_eq hg⟩
  have hS : SqS K H a (ns.map V.int) := by
    cases hk : K.lookup a with
    | none => exact .inl ⟨_, H2 hk⟩
    | some o =>
      have e := KX a o hk
      rw [ha] at e
      cases e
      exact .inr (.inr ⟨_, vs.toArray, _, hk, rfl, rfl, rfl, by rw [List.size_toArray, lenV]; exact hl, by simpa using rv⟩)
  have sp : spOf ⟨K, ts⟩ fs [.ref a] H (fun v _ => v = .bl true) fun _ _ _ => False := by
    refine ⟨fun _ => False, fun _ => False, [.scr ns], ⟨⟨fun _ h => h.elim, fun _ h => h.elim, fun _ h => h.elim, fun P' hP' => ⟨#[], H1 P' hP', trivial⟩, fun _ _ => ⟨fun h => h, fun h => h⟩⟩, rfl, fun i v y h1 h2 => ?_, fun b i j h1 h2 => ?_⟩, fun s hs t m e => ?_, ?_⟩
    · match i with
      | 0 =>
        cases h1
        cases h2
        exact ⟨a, rfl, hS⟩
      | i + 1 => cases h2
    · obtain ⟨_, t, m, h⟩ := h1
      match i with
      | 0 => cases h
      | i + 1 => cases h
    · rw [List.mem_singleton.mp hs] at e
      cases e
    · refine (F _ hKb (nsK hns) TB).mono _ _ _ _ _ (fun r args' e v H' Z' st I' R => ?_) (fun c z => z.elim) hfs
      subst e
      cases R
      rfl
  refine codeAny_mono ((F _ hKb (nsK hns) TB).run callerA [] s₁ H ⟨[.ref a], []⟩ [.ref a] [.ref a] _ _ hr e0 (hbind s₁ (.ref a)) (.cons rfl .nil) sp) fun r s' h => ?_
  match r, h with
  | .ok (.ret u), ⟨v, H', os, bare, un, hok', r', q⟩ =>
    have q' : v = .bl true := q
    subst q'
    obtain rfl : u = Value.bool true := r'
    have key : ∀ b o, b ∉ ts → s₁.heap.get? b = some o → s'.heap.get? b = some o := fun b o nb e => by
      by_cases hb2 : b = a ∧ K.lookup a = none
      · obtain ⟨rfl, hk⟩ := hb2
        obtain ⟨e1, _⟩ := hok b _ (H2 hk)
        obtain ⟨e2, _⟩ := hok' b _ (un.frzs b _ _ (H2 hk))
        rw [e] at e1; cases e1
        exact e2
      · exact un.keep b o e (H3 b nb fun z y => hb2 ⟨z, y⟩) (by intro z; exact absurd (show b ∈ ([] : List Addr) from z) (by simp)) (by simp)
    have grown : ∀ p ∈ cs, ∃ more : Array Value, s'.heap.get? p.2 = some { cls := .none, data := .fields more } := fun p hp => by
      obtain ⟨more, z⟩ := un.tbls p.2 #[] (H1 _ (memT p hp))
      exact ⟨_, hok' p.2 _ z⟩
    refine ⟨rfl, ⟨fun b o e => ?_, fun b o e => ?_⟩, os, bare⟩
    · by_cases hb : b ∈ ts
      · obtain ⟨p, hp, rfl⟩ := ofT b hb
        obtain ⟨more, hm⟩ := grown p hp
        rw [hT p hp] at e
        cases e
        exact .inr (.inl ⟨((C p hp).tab (hT p hp)).isCodeTable, rfl, #[], more, rfl, by rw [Array.empty_append]; exact hm⟩)
      · exact .inl (key b o hb e)
    · by_cases hb : b ∈ ts
      · obtain ⟨p, hp, rfl⟩ := ofT b hb
        obtain ⟨more, hm⟩ := grown p hp
        exact ⟨_, hm⟩
      · exact ⟨o, key b o hb e⟩
end
/-- the walk of a law row whose head tells K, the defs' tables -/
theorem walk_ofG {l : PySem.W.OpenLaw} {n k : Nat} {q : Program} {loose : List Str} {XP : (Str → Option Value) → Heap → Prop} {d : DefRec} {x : Str} {fa0 : List He.Fa} {fn : List He.DefD} {ts : List He.Tab} {tf : List He.Defn} {ex : Frag → Bool} {nf : Nat}
    (hn : l.most = some n) (hn2 : n ≤ sizeLine) (hdf : d.params.defaults = []) (hr : RoomG k callerA)
    (F : ∀ (w : World) (mg : Str → Option Value) (fa : Addr) (h : Heap) (K : Frag), K.In h → He.SaysX fa0 fn ts tf ex w h K → h.Ns mainGlobals mg → mg d.name = some (.ref fa) →
      ∃ (fd : FuncData) (fs : FS), (∀ (s : Shared) (u : Value), BindsTo s fd ⟨[u], []⟩ [(x, u)]) ∧
        (∀ base : Heap, K.In base → base.Ns mainGlobals mg → (∀ p ∈ tf.map (He.cT K), GxR.TabB base mg p.1 p.2) → FnG l.prog w K mg base CX0 ((tf.map (He.cT K)).map (·.2)) k fa fd [x] fs) ∧
        ∀ ns : List Int, ns.length ≤ n → (∀ z ∈ ns, Builtin.Int.intBits z ≤ 1048576) → fs [.scr ns] (fun r _ => r = .val (.bool true)) fun _ => False) :
    PySem.W.WalkO q loose XP (He.hookX nf fa0 fn ts tf ex).says l.row.toRowW d [] (fun f vs => PySem.call f vs) := by
  refine Att.attach_callB hn hdf fun w s₀ s₁ mg mb fa o pm cd doc a vs ns G Y ho hd hcd hmg hobj hints hlen hbits hg => ?_
  obtain ⟨K, KX, c⟩ := Y
  obtain ⟨fd, fs, hb, hF, hsp⟩ := F w mg fa _ K KX c G.T.g hmg
  have mem : ∀ {p : Addr × Addr}, p ∈ tf.map (He.cT K) → ∃ t ∈ tf, He.cT K t = p := fun h => List.mem_map.mp h
  exact law_callG (cs := tf.map (He.cT K)) KX G.T.g G.T.b G.T.builtins G.T.nolimit hg (fun p hp => by obtain ⟨t, ht, rfl⟩ := mem hp; exact c.empty t ht) (fun p hp => by obtain ⟨t, ht, rfl⟩ := mem hp; exact c.out t ht)
    (fun p hp => by obtain ⟨t, ht, rfl⟩ := mem hp; exact PySem.W.codeHd_of_K KX (c.hd t ht)) G.T.bmain hobj hints (Nat.le_trans hlen hn2) hr hF hb (hsp ns hlen hbits)
/-- a def told by the head, without defaults -/
theorem fun_of {K : Frag} {x qual : Str} {st : Stmt} {f : Addr} {fd : FuncData} (F : FunD K x qual (defArgs st) (defBody st) (defScope st) [] [] f fd) : L2.Fun K x qual st f fd := by
  obtain ⟨oc, od, dV, kV, doc, pm, an, cdv, ct, osl, e, lk, hcd, dfl, _⟩ := F.ex
  rcases dfl with ⟨_, rfl⟩ | ⟨z, _⟩
  · exact ⟨⟨oc, od, kV, doc, pm, an, cdv, ct, osl, e, lk, hcd⟩, F.kp⟩
  · exact absurd rfl z
end DV

set_option Elab.async false
set_option linter.all false
set_option maxRecDepth 100000
set_option maxHeartbeats 4000000
/-! short forms for the printed derivations -/
namespace DV
open PySem PySem.Spec PyProof.Rows L2
/-- what a def does, by its body's reading -/
def fsOf (N ps : List Str) (wb : DS) : FS := fun args Q _ => args.length = ps.length ∧ wb (entryE N args) { nx := finE args Q (.val .none), rt := finE args Q }
theorem fsOf_mono {N ps : List Str} {wb : DS} (m : MonoS wb) : ∀ args Q Q' X X', (∀ r a, Q r a → Q' r a) → (∀ c, X c → X' c) → fsOf N ps wb args Q X → fsOf N ps wb args Q' X' := fun args Q Q' X X' k _ ⟨l, q⟩ =>
  have fin : ∀ r e, finE args Q r e → finE args Q' r e := fun r e q => let ⟨_, c, q⟩ := need_out q; need_in c (k _ _ q)
  ⟨l, m _ { nx := finE args Q (.val .none), rt := finE args Q } _ ⟨fun e q => fin _ e q, fin, fun _ q => q, fun _ q => q⟩ q⟩
theorem room_at {k : Nat} {env : Env} (h : k ≤ 40) : RoomG k (callerA.deeper env) :=
  ⟨⟨rfl, by show callerA.depth + 1 + 3 * k + 5 < recursionLimit; have : callerA.depth + 1 + 3 * 40 + 5 < recursionLimit := (by decide); omega, by show callerA.units + 3 + 16 * k + 200 < cLine; have : callerA.units + 3 + 16 * 40 + 200 < cLine := (by decide); omega⟩, rfl⟩
theorem room_top {k : Nat} (h : k ≤ 40) : RoomG k callerA :=
  ⟨⟨rfl, by have : callerA.depth + 3 * 40 + 5 < recursionLimit := (by decide); omega, by have : callerA.units + 16 * 40 + 200 < cLine := (by decide); omega⟩, rfl⟩
section
variable {P : Program} {w : World} {K : Frag} {mg : Str → Option Value} {base : Heap} {tb : List Addr} {f : Addr}
theorem fn_by {x qual : Str} {st : Stmt} {fd : FuncData} {N ps : List Str} {k : Nat} {wb : DS} (F : L2.Fun K x qual st f fd) (S : FnScope N ps (defScope st)) (hk : k ≤ 40)
    (hbody : ∀ (cdv : Value) (A : Around) (outer : List Env) (s : Shared) (H : Hp) (E : XK), PySem.W.codeIn K cdv qual = true → RoomG k (A.deeper (envOfC qual (defScope st) s.heap.objs.size f cdv)) → fd.code = cdv →
      SSs tb (cxOf CX0 P w K mg base N qual (defScope st) f cdv A outer s H E).nox (defBody st) wb) : FnG P w K mg base CX0 tb (k + 1) f fd ps (fsOf N ps wb) := by
  have m : MonoS wb := by
    obtain ⟨oc, od, kV, doc, pm, an, cdv, ct, osl, e, lk, hcd⟩ := F.ex
    exact (hbody cdv callerA [] {} (fun _ => none) (fun _ _ _ => False) hcd (room_at hk) (by rw [e])).mono
  exact fnG_of F S (fsOf_mono m) (fun args Q X q => q.1) (fun args Q X q _ => q.2) hbody
end
section
variable {tb : List Addr} {X : Cx} {k : Nat} {a b c : Expr} {pos : Pos} {wa wb wc : DO}
theorem RoomG.u64 (hr : RoomG k X.A) : X.A.units + 64 < cLine := by have := hr.room.un; omega
theorem RoomG.u65 (hr : RoomG k X.A) : X.A.units + 65 < cLine := by have := hr.room.un; omega
theorem RoomG.u0 (hr : RoomG k X.A) : X.A.units < cLine := by have := hr.room.un; omega
theorem se_eq (hr : RoomG k X.A) (ha : SO tb X a wa) (hb : SO tb X b wb) : SE tb X (.Compare a [.Eq] [b] pos) (dOp2 (gEq false) wa wb) := se_cmp ((op_eqD hr.u64).or op_eq) sem_eq (gEq_mono _) ha hb (nomark _)
theorem se_ne (hr : RoomG k X.A) (ha : SO tb X a wa) (hb : SO tb X b wb) : SE tb X (.Compare a [.NotEq] [b] pos) (dOp2 (gEq true) wa wb) := se_cmp ((op_neD hr.u64).or op_ne) sem_ne (gEq_mono _) ha hb (nomark _)
theorem st_eq (hr : RoomG k X.A) (ha : SO tb X a wa) (hb : SO tb X b wb) : ST tb X (.Compare a [.Eq] [b] pos) (dTst (dOp2 (gEq false) wa wb)) := st_cmp ((op_eqD hr.u64).or op_eq) sem_eq (gEq_mono _) ha hb (nomark _)
theorem st_ne (hr : RoomG k X.A) (ha : SO tb X a wa) (hb : SO tb X b wb) : ST tb X (.Compare a [.NotEq] [b] pos) (dTst (dOp2 (gEq true) wa wb)) := st_cmp ((op_neD hr.u64).or op_ne) sem_ne (gEq_mono _) ha hb (nomark _)
theorem se_lt (hr : RoomG k X.A) (ha : SO tb X a wa) (hb : SO tb X b wb) : SE tb X (.Compare a [.Lt] [b] pos) (dOp2 gLt wa wb) := se_cmp (op_ltU hr.u0) sem_lt gLt_mono ha hb (nomark _)
theorem st_lt (hr : RoomG k X.A) (ha : SO tb X a wa) (hb : SO tb X b wb) : ST tb X (.Compare a [.Lt] [b] pos) (dTst (dOp2 gLt wa wb)) := st_cmp (op_ltU hr.u0) sem_lt gLt_mono ha hb (nomark _)
theorem se_le (ha : SO tb X a wa) (hb : SO tb X b wb) : SE tb X (.Compare a [.LtE] [b] pos) (dOp2 gLe wa wb) := se_cmp op_le sem_le (gI_mono _) ha hb (nomark _)
theorem st_le (ha : SO tb X a wa) (hb : SO tb X b wb) : ST tb X (.Compare a [.LtE] [b] pos) (dTst (dOp2 gLe wa wb)) := st_cmp op_le sem_le (gI_mono _) ha hb (nomark _)
theorem se_gt (ha : SO tb X a wa) (hb : SO tb X b wb) : SE tb X (.Compare a [.Gt] [b] pos) (dOp2 gGt wa wb) := se_cmp op_gt sem_gt (gI_mono _) ha hb (nomark _)
theorem st_gt (ha : SO tb X a wa) (hb : SO tb X b wb) : ST tb X (.Compare a [.Gt] [b] pos) (dTst (dOp2 gGt wa wb)) := st_cmp op_gt sem_gt (gI_mono _) ha hb (nomark _)
theorem se_ge (ha : SO tb X a wa) (hb : SO tb X b wb) : SE tb X (.Compare a [.GtE] [b] pos) (dOp2 gGe wa wb) := se_cmp op_ge sem_ge (gI_mono _) ha hb (nomark _)
theorem st_ge (ha : SO tb X a wa) (hb : SO tb X b wb) : ST tb X (.Compare a [.GtE] [b] pos) (dTst (dOp2 gGe wa wb)) := st_cmp op_ge sem_ge (gI_mono _) ha hb (nomark _)
theorem se_is (ha : SO tb X a wa) (hb : SO tb X b wb) : SE tb X (.Compare a [.Is] [b] pos) (dOp2 (gIs false) wa wb) := se_cmp op_isN sem_is (gIs_mono _) ha hb (nomark _)
theorem st_is (ha : SO tb X a wa) (hb : SO tb X b wb) : ST tb X (.Compare a [.Is] [b] pos) (dTst (dOp2 (gIs false) wa wb)) := st_cmp op_isN sem_is (gIs_mono _) ha hb (nomark _)
theorem se_isn (ha : SO tb X a wa) (hb : SO tb X b wb) : SE tb X (.Compare a [.IsNot] [b] pos) (dOp2 (gIs true) wa wb) := se_cmp op_notN sem_isNot (gIs_mono _) ha hb (nomark _)
theorem st_isn (ha : SO tb X a wa) (hb : SO tb X b wb) : ST tb X (.Compare a [.IsNot] [b] pos) (dTst (dOp2 (gIs true) wa wb)) := st_cmp op_notN sem_isNot (gIs_mono _) ha hb (nomark _)
theorem se_inL (hr : RoomG k X.A) (ha : SO tb X a wa) (hb : SO tb X b wb) (hm : behindInMarks .In b = false := by rfl) : SE tb X (.Compare a [.In] [b] pos) (dOp2 (gIn false) wa wb) := se_cmp (op_inU hr.u65) sem_in (gIn_mono _) ha hb hm
theorem st_inL (hr : RoomG k X.A) (ha : SO tb X a wa) (hb : SO tb X b wb) (hm : behindInMarks .In b = false := by rfl) : ST tb X (.Compare a [.In] [b] pos) (dTst (dOp2 (gIn false) wa wb)) := st_cmp (op_inU hr.u65) sem_in (gIn_mono _) ha hb hm
theorem se_notinL (hr : RoomG k X.A) (ha : SO tb X a wa) (hb : SO tb X b wb) (hm : behindInMarks .NotIn b = false := by rfl) : SE tb X (.Compare a [.NotIn] [b] pos) (dOp2 (gIn true) wa wb) := se_cmp (op_notInU hr.u65) sem_notIn (gIn_mono _) ha hb hm
theorem st_notinL (hr : RoomG k X.A) (ha : SO tb X a wa) (hb : SO tb X b wb) (hm : behindInMarks .NotIn b = false := by rfl) : ST tb X (.Compare a [.NotIn] [b] pos) (dTst (dOp2 (gIn true) wa wb)) := st_cmp (op_notInU hr.u65) sem_notIn (gIn_mono _) ha hb hm
/-- low <= x <= high -/
theorem se_lele (ha : SO tb X a wa) (hb : SO tb X b wb) (hc : SO tb X c wc) (hm : lastMarks [.LtE, .LtE] [b, c] = false := by with_unfolding_all rfl) : SE tb X (.Compare a [.LtE, .LtE] [b, c] pos) (dChain gLe gLe wa wb wc) := se_chain op_le op_le sem_le sem_le (gI_mono _) (gI_mono _) ha hb hc hm
theorem st_lele (ha : SO tb X a wa) (hb : SO tb X b wb) (hc : SO tb X c wc) (hm : lastMarks [.LtE, .LtE] [b, c] = false := by with_unfolding_all rfl) : ST tb X (.Compare a [.LtE, .LtE] [b, c] pos) (dTst (dChain gLe gLe wa wb wc)) := st_chain op_le op_le sem_le sem_le (gI_mono _) (gI_mono _) ha hb hc hm
end
end DV

set_option Elab.async false
set_option linter.all false
set_option maxRecDepth 100000
set_option maxHeartbeats 4000000
namespace DV
open PySem PySem.Spec PyProof.Rows L2
/-! ### a, b, c = e1, e2, e3 -/
def dPar3 (i j l : Nat) (ws : DOs) : DS := fun env D => ws env fun os e => match os with
  | [.res r1, .res r2, .res r3] => D.nx (((e.set i (some r1)).set j (some r2)).set l (some r3))
  | _ => False
theorem dPar3_mono {i j l : Nat} {ws : DOs} (m : Mono ws) : MonoS (dPar3 i j l ws) := fun env A B le q => m env _ _ (fun os e q => by
  revert q
  split
  · exact le.nx _
  · exact id) q
theorem OpdRs.setOther {C : Cfg} {Z : Addr → Prop} {σ : L2.St} {H : Hp} {env : En} {i : Nat} {v1 : V} {r1 : Slot} : ∀ {vs : List V} {rs : List Slot} {Fr : Addr → Prop}, OpdRs C Z σ env H (fun a => Fr a ∨ Own1 v1 r1 a) vs (rs.map Opd.res) → OpdRs C Z (σ.set i (some v1)) (env.set i (some r1)) H Fr vs (rs.map Opd.res)
  | [], [], _, h => h
  | v :: vs, r :: rs, Fr, h => ⟨ResR.setOther h.1, OpdRs.setOther (vs := vs) (rs := rs) (Fr := fun a => Fr a ∨ Own1 v r a) (by
      have h2 : OpdRs C Z σ env H (fun a => (Fr a ∨ Own1 v1 r1 a) ∨ Own1 v r a) vs (rs.map Opd.res) := h.2
      have e : (fun a => (Fr a ∨ Own1 v1 r1 a) ∨ Own1 v r a) = fun a => (Fr a ∨ Own1 v r a) ∨ Own1 v1 r1 a := funext fun a => propext ⟨fun h => h.elim (fun h => h.elim (fun h => .inl (.inl h)) .inr) fun h => .inl (.inr h), fun h => h.elim (fun h => h.elim (fun h => .inl (.inl h)) .inr) fun h => .inl (.inr h)⟩
      rw [e] at h2
      exact h2)⟩
  | [], _ :: _, _, h => h
  | _ :: _, [], _, h => h
theorem par3_env {C : Cfg} {Z Fr : Addr → Prop} {As : Nat → Addr} {σ : L2.St} {H : Hp} {env : En} {i j l : Nat} {v1 v2 v3 : V} {r1 r2 r3 : Slot} (I : EnvR C Z Fr As σ H env) (h : OpdRs C Z σ env H Fr [v1, v2, v3] [.res r1, .res r2, .res r3]) :
    EnvR C Z Fr As (((σ.set i (some v1)).set j (some v2)).set l (some v3)) H (((env.set i (some r1)).set j (some r2)).set l (some r3)) := by
  have h2 := OpdRs.setOther (i := i) (vs := [v2, v3]) (rs := [r2, r3]) h.2
  exact par_env (I.setRes h.1) h2
section
variable {tb : List Addr} {X : Cx}
theorem ss_par3 (i j l : Nat) {x y z : Str} {a b c : Expr} {px py pz pt pos : Pos} {kt k2 pt2} {ws : DOs} (hc : X.calm = true) (hN : X.N.Nodup) (ha : SOs tb X [a, b, c] ws) (hi : X.N[i]? = some x := by rfl) (hj : X.N[j]? = some y := by rfl) (hl : X.N[l]? = some z := by rfl)
    (hij : i ≠ j := by decide) (hil : i ≠ l := by decide) (hjl : j ≠ l := by decide)
    (hx : X.env.scope.names.lookup x = some .local := by rfl) (hy : X.env.scope.names.lookup y = some .local := by rfl) (hz : X.env.scope.names.lookup z = some .local := by rfl)
    (hw : swappedStores [.Tuple [.Name x px, .Name y py, .Name z pz] kt pt] (.Tuple [a, b, c] k2 pt2) X.env = pure (some [x, y, z]) := by rfl)
    (hs : swapsWithSole [.Tuple [.Name x px, .Name y py, .Name z pz] kt pt] (.Tuple [a, b, c] k2 pt2) pos.line X.env = pure false := by rfl) :
    SS tb X (.Assign [.Tuple [.Name x px, .Name y py, .Name z pz] kt pt] (.Tuple [a, b, c] k2 pt2) pos) (dPar3 i j l ws) :=
  ⟨dPar3_mono ha.mono, (ps_par3 hc hN hi hj hl hij hil hjl hx hy hz ha.pe hw hs).imp fun D σ H ⟨Z, Fr, As, env, I, q⟩ => ⟨Z, Fr, As, env, I, ha.mono env _ _ (fun os e q vs H' Z' st I' R => by
    revert q
    split
    · intro q
      match vs, R with
      | [v1, v2, v3], R => exact ⟨v1, v2, v3, rfl, q _ _ _ st (par3_env I' R)⟩
    · exact fun q => q.elim) q⟩⟩
end

/-! ### a def that may be called by its name -/
structure Cl (P : Program) (w : World) (K : Frag) (mg : Str → Option Value) (base : Heap) (tb : List Addr) (k : Nat) (x : Str) (ps : List Str) (fs : FS) : Prop where
  ex : ∃ f fd, FnG P w K mg base CX0 tb k f fd ps fs ∧ mg x = some (.ref f) ∧ PySem.W.keepIn K (.ref f) = true ∧ Binds K fd ps [] ∧ KB K fd ps
/-- what the head tells of a def -/
def Told (K : Frag) (mg : Str → Option Value) (x : Str) (st : Stmt) : Prop := ∃ fd, L2.Fun K x x st (He.fAd K (x, none)) fd ∧ mg x = some (.ref (He.fAd K (x, none)))
theorem code_is {K : Frag} {x qual : Str} {st : Stmt} {p : He.Defn} {fd : FuncData} {cdv : Value} (F : L2.Fun K x qual st (He.fAd K p) fd) (h : PySem.W.codeIn K cdv qual = true) (e : fd.code = cdv) : cdv = .ref (He.codeOf K p) := by
  obtain ⟨oc, od, kV, doc, pm, an, cd, ct, osl, efd, lk, hcd⟩ := F.ex
  obtain ⟨c, rfl⟩ := He.codeIn_ref h
  rw [He.codeOf_eq lk e]
section
variable {P : Program} {w : World} {K : Frag} {mg : Str → Option Value} {base : Heap} {tb : List Addr} {X : Cx} {j k : Nat} {fs : FS} {ws : DOs} {ps : List Str}
theorem cl_of {x : Str} {st : Stmt} {N : List Str} {wb : DS} (T : Told K mg x st) (S : FnScope N ps (defScope st)) (hk : k ≤ 40)
    (hb : ∀ (kV doc pm : Value) (an : Option Addr) (cdv ct : Value) (us : List Value), us.length = ps.length → bindArgs (PySem.W.fnOf x x (defArgs st) (defBody st) (defScope st) .none kV doc pm an cdv ct) ⟨us, []⟩ = pure (ps.zip us))
    (hkb : ∀ (kV doc pm : Value) (an : Option Addr) (cdv ct : Value) (us : List Value), us.length = ps.length → bindArgs (PySem.W.fnOf x x (defArgs st) (defBody st) (defScope st) .none kV doc pm an cdv ct) ⟨[], ps.zip us⟩ = pure (ps.zip us))
    (hbody : ∀ (cdv : Value) (A : Around) (outer : List Env) (s : Shared) (H : Hp) (E : XK), RoomG k (A.deeper (envOfC x (defScope st) s.heap.objs.size (He.fAd K (x, none)) cdv)) → cdv = .ref (He.codeOf K (x, none)) →
      SSs tb (cxOf CX0 P w K mg base N x (defScope st) (He.fAd K (x, none)) cdv A outer s H E).nox (defBody st) wb) : Cl P w K mg base tb (k + 1) x ps (fsOf N ps wb) := by
  obtain ⟨fd, F, m⟩ := T
  exact ⟨_, fd, fn_by F S hk fun cdv A outer s H E hcd hr e => hbody cdv A outer s H E hr (code_is F hcd e), m, F.kp, F.binds hb, kb_of F hkb⟩
theorem se_cl {x : Str} {e : Expr} {es : List Expr} {p pos : Pos} (c : Cl X.prog X.w X.K X.mg X.base tb k x ps fs) (hr : RoomG j X.A) (ha : SOs tb X (e :: es) ws) (hk : k ≤ j := by decide) (hg : Gl X x := by rfl) (hdb : (x == ("__debug__" : Str)) = false := by decide)
    (he : starEach (e :: es) X.env = (false, eval e X.env) :: starEach es X.env := by rfl) (hpl : (backTo pos (starEach es X.env)).any (·.1) = false := by rfl) : SE tb X (.Call (.Name x p) (e :: es) [] pos) (dCall fs ws) := by
  obtain ⟨f, fd, F, hm, kp, b, _⟩ := c
  exact se_call F (hr.mono hk) hm kp b ha hg hdb he hpl
theorem se_cl0 {x : Str} {p pos : Pos} (c : Cl X.prog X.w X.K X.mg X.base tb k x [] fs) (hr : RoomG j X.A) (hk : k ≤ j := by decide) (hg : Gl X x := by rfl) (hdb : (x == ("__debug__" : Str)) = false := by decide) : SE tb X (.Call (.Name x p) [] [] pos) (dCall fs dONil) := by
  obtain ⟨f, fd, F, hm, kp, b, _⟩ := c
  exact se_call0 F (hr.mono hk) hm kp b hg hdb
theorem se_clK {x : Str} {kws : List Keyword} {p pos : Pos} (c : Cl X.prog X.w X.K X.mg X.base tb k x ps fs) (hr : RoomG j X.A) (ha : SOk tb X kws ws) (hk : k ≤ j := by decide) (hks : (backToKw pos (keywordEach kws X.env)).filterMap (·.1) = ps := by rfl)
    (hall : (backToKw pos (keywordEach kws X.env)).all (·.1.isSome) = true := by rfl) (hg : Gl X x := by rfl) (hdb : (x == ("__debug__" : Str)) = false := by decide)
    (hpl : ((backTo pos (starEach [] X.env)).any (·.1) || (backToKw pos (keywordEach kws X.env)).any (·.1.isNone)) = false := by rfl) : SE tb X (.Call (.Name x p) [] kws pos) (dCall fs ws) := by
  obtain ⟨f, fd, F, hm, kp, _, b⟩ := c
  exact se_callK F (hr.mono hk) hm kp b ha hks hall hg hdb hpl
theorem se_gI {x : Str} {i : Int} {pos : Pos} (hm : ∃ t, X.mg x = some (.int i t)) (hg : Gl X x := by rfl) (hd : (x == ("__debug__" : Str)) = false := by decide) : SE tb X (.Name x pos) (dK (.int i)) := by
  obtain ⟨t, hm⟩ := hm
  exact se_globI hg hm hd
end
end DV

set_option Elab.async false
set_option linter.all false
set_option maxRecDepth 100000
set_option maxHeartbeats 4000000
/-! plain facts for the readings -/
namespace DV
open PySem PySem.Spec PyProof.Rows L2
section
variable {α : Type} {x y z u : α} {xs : List α}
theorem atI_0 : atI (x :: xs) 0 = some x := atI_nat (j := 0) rfl
theorem atI_1 : atI (x :: y :: xs) 1 = some y := atI_nat (j := 1) rfl
theorem atI_2 : atI (x :: y :: z :: xs) 2 = some z := atI_nat (j := 2) rfl
theorem atI_3 : atI (x :: y :: z :: u :: xs) 3 = some u := atI_nat (j := 3) rfl
end
theorem ixN_30 : ixN 3 0 = some 0 := rfl
theorem ixN_31 : ixN 3 1 = some 1 := rfl
theorem ixN_32 : ixN 3 2 = some 2 := rfl
theorem nb_mul {a b : Int} {p q : Nat} (ha : a.natAbs < 2 ^ p) (hb : b.natAbs < 2 ^ q) : (a * b).natAbs < 2 ^ (p + q) := by
  rw [Int.natAbs_mul, Nat.pow_add]
  exact Nat.mul_lt_mul'' ha hb
theorem nb_le {a : Int} {p q : Nat} (ha : a.natAbs < 2 ^ p) (h : p ≤ q) : a.natAbs < 2 ^ q := Nat.lt_of_lt_of_le ha (Nat.pow_le_pow_right (by decide) h)
theorem mul_ok {a b : Int} {p q : Nat} (ha : a.natAbs < 2 ^ p) (hb : b.natAbs < 2 ^ q) (h0 : 0 < p := by decide) (h1 : 0 < q := by decide) (h : p + q ≤ 1000000 := by decide) : CMul a b ∨ CMulW a b := .inr (wide_mul ha hb h0 h1 h)
theorem mul_l {a b : Int} (h1 : -(2 ^ 64) < a := by decide) (h2 : a < 2 ^ 64 := by decide) : CMul a b ∨ CMulW a b := .inl (.inl ⟨h1, h2⟩)
theorem mul_r {a b : Int} (h1 : -(2 ^ 64) < b) (h2 : b < 2 ^ 64) : CMul a b ∨ CMulW a b := .inl (.inr ⟨h1, h2⟩)
theorem div_ok {a b : Int} (h : 0 < b) (hb : b < 2 ^ 64) : CDivW a b := wide_div (b := 64) h (by omega) (by decide) (by decide)
theorem pow_ok {i j : Int} (h1 : 0 ≤ j := by decide) (h2 : j ≤ 1000000 := by decide) (h3 : i.natAbs < 2 ^ 64 := by decide) : CPow i j := ⟨h1, h2, h3⟩
theorem mod_lt {a m : Int} (h : 0 < m) : 0 ≤ a % m ∧ a % m < m := ⟨Int.emod_nonneg _ (by omega), Int.emod_lt_of_pos _ h⟩

/-! data that can be laid, of little depth -/
def Flat (k : Nat) (d : D) : Prop := d.canLay0 = true ∧ d.depth ≤ k
theorem Flat.le {j k : Nat} {d : D} (h : Flat j d) (l : j ≤ k) : Flat k d := ⟨h.1, Nat.le_trans h.2 l⟩
theorem flat_int {k : Nat} {i : Int} : Flat k (.int i) := ⟨by simp [PyData.canLay0], by simp [PyData.depth]⟩
theorem flat_none {k : Nat} : Flat k .none := ⟨by simp [PyData.canLay0], by simp [PyData.depth]⟩
theorem flat_bool {k : Nat} {b : Bool} : Flat k (.bool b) := ⟨by simp [PyData.canLay0], by simp [PyData.depth]⟩
theorem flat_all {k : Nat} : ∀ {ds : List D}, (∀ d ∈ ds, Flat k d) → PyData.canLayAll0 ds = true ∧ PyData.depthAll ds ≤ k
  | [], _ => ⟨by simp [PyData.canLayAll0], by simp [PyData.depthAll]⟩
  | d :: ds, h => by
    have h1 := h d (by simp)
    have h2 := flat_all (ds := ds) fun e he => h e (by simp [he])
    refine ⟨by simp [PyData.canLayAll0, h1.1, h2.1], ?_⟩
    simp only [PyData.depthAll]
    have := h1.2
    have := h2.2
    omega
theorem flat_tup {k : Nat} {ds : List D} (h : ∀ d ∈ ds, Flat k d) : Flat (k + 1) (.tuple ds) := ⟨by simp [PyData.canLay0, (flat_all h).1], by simp only [PyData.depth]; have := (flat_all h).2; omega⟩
theorem flat_list {k : Nat} {ds : List D} (h : ∀ d ∈ ds, Flat k d) : Flat (k + 1) (.list ds) := ⟨by simp [PyData.canLay0, (flat_all h).1], by simp only [PyData.depth]; have := (flat_all h).2; omega⟩
theorem Flat.shaped {k : Nat} {d : D} (h : Flat k d) (l : k ≤ 64 := by decide) : SeqAt.shaped d = true := by
  unfold SeqAt.shaped
  rw [h.1, Bool.true_and, decide_eq_true_eq]
  exact Nat.le_trans h.2 l
theorem shaped_int {i : Int} : SeqAt.shaped (.int i) = true := (flat_int (k := 0)).shaped
theorem shaped_ints {ns : List Int} : SeqAt.shaped (.list (ns.map .int)) = true := (flat_list (k := 0) fun d h => by obtain ⟨i, _, rfl⟩ := List.mem_map.mp h; exact flat_int).shaped
theorem shaped_nil : SeqAt.shaped (.list []) = true := (flat_list (k := 0) (ds := []) fun d h => by simp at h).shaped
theorem eqOk_int {i j : Int} : EqOk (.int i) (.int j) := .inl ⟨shaped_int, shaped_int⟩
theorem eqOk_str {x y : Str} : EqOk (.str x) (.str y) := .inr ⟨_, _, rfl, rfl⟩
theorem eqOk_flat {d e : D} (h : Flat 64 d) (h2 : Flat 64 e) : EqOk d e := .inl ⟨h.shaped, h2.shaped⟩
theorem eqv_int {i j : Int} : PyData.eqv (.int i) (.int j) = (i == j) := by simp [PyData.eqv]
theorem eqv_str {x y : Str} : PyData.eqv (.str x) (.str y) = (x == y) := by simp [PyData.eqv]
theorem eqv_list_nil {ds : List D} : PyData.eqv (.list ds) (.list []) = ds.isEmpty := by
  cases ds <;> simp [PyData.eqv, PyData.eqvAll]
theorem eqv_nil : PyData.eqv (.list []) (.list []) = true := by simp [PyData.eqv, PyData.eqvAll]
theorem atI_mem {α : Type} {xs : List α} {r : Int} (h0 : 0 ≤ r) (h1 : r < xs.length) : ∃ d ∈ xs, atI xs r = some d := by
  obtain ⟨n, rfl⟩ := Int.eq_ofNat_of_zero_le h0
  have hn : n < xs.length := by omega
  exact ⟨xs[n], List.getElem_mem hn, atI_nat (List.getElem?_eq_getElem hn)⟩
theorem atI_get {α : Type} {xs : List α} {r : Int} (h0 : 0 ≤ r) (h1 : r < xs.length) : ∃ d, xs[r.toNat]? = some d ∧ d ∈ xs ∧ atI xs r = some d := by
  obtain ⟨n, rfl⟩ := Int.eq_ofNat_of_zero_le h0
  have hn : n < xs.length := by omega
  exact ⟨xs[n], by simpa using List.getElem?_eq_getElem hn, List.getElem_mem hn, atI_nat (List.getElem?_eq_getElem hn)⟩
theorem rngD_mem {lo : Int} {n : Nat} {d : D} (h : d ∈ rngD lo n) : ∃ i : Nat, i < n ∧ d = .int (lo + (i : Nat)) := by
  obtain ⟨i, hi, rfl⟩ := List.mem_map.mp h
  exact ⟨i, List.mem_range.mp hi, rfl⟩

/-! written values -/
def dVK (d : D) : DV := fun env Q => Q d env
def dVKs (ds : List D) : DVs := fun env Q => Q ds env
section
variable {tb : List Addr} {X : Cx}
theorem sv_K {e : Expr} {d : D} (h : SE tb X e (dK d)) : SV tb X e (dVK d) := sv_se h
theorem svs_nilK : SVs tb X [] (dVKs []) := svs_nil
theorem svs_consK {e : Expr} {es : List Expr} {d : D} {ds : List D} (h : SE tb X e (dK d)) (hs : SVs tb X es (dVKs ds)) (hst : starEach (e :: es) X.env = (false, eval e X.env) :: starEach es X.env := by rfl) : SVs tb X (e :: es) (dVKs (d :: ds)) := svs_cons (sv_se h) hs hst
theorem se_tupK {es : List Expr} {k : Nat} {pos : Pos} {ds : List D} (h : SVs tb X es (dVKs ds)) (hl : ds.length ≤ sizeLine := by decide) : SE tb X (.Tuple es k pos) (dK (.tuple ds)) :=
  ⟨fun _ _ _ k q => k _ _ q, (se_tup (k := k) (pos := pos) h).pe.imp fun σ H Q ⟨Z, Fr, As, env, I, q⟩ => ⟨Z, Fr, As, env, I, hl, q⟩⟩
end
/-- a statement, then the rest -/
theorem seqI {w u : DS} {env : En} {D : DEnds} (h : ∀ U : En → Prop, (∀ e, u e D → U e) → w env { D with nx := U }) : dSeq w u env D := h _ fun _ q => q
theorem br {b : Bool} {A B : Prop} (h1 : b = true → A) (h2 : b = false → B) : if b = true then A else B := by
  cases b
  · exact h2 rfl
  · exact h1 rfl
end DV

set_option Elab.async false
set_option linter.all false
set_option maxRecDepth 100000
set_option maxHeartbeats 4000000
/-! dicts of one's own: displays, get -/
namespace L2
open PySem PySem.Spec PyProof.Rows
/-- {t: v}, the key a tuple -/
def tDispT (tk tv : TE) : TE := fun σ H Q => ∀ p, H p = none → tk σ (upd H p (.dT [])) fun x H1 => tv σ H1 fun y H2 => H2 p = some (.dT []) ∧ ∃ k b, x = .ref b ∧ H2 b = some (.tup (k.map kV)) ∧ Q (.ref p) (upd H2 p (.dT [(k, y)]))
theorem pe_dispT {X : Cx} {pos : Pos} {k v : Expr} {tk tv : TE} (hu : X.A.units + 1 < cLine) (hk : PE X k tk) (hv : PE X v tv) : PE X (.Dict [some k] [v] pos) (tDispT tk tv) := by
  refine ⟨fun pins s σ H Q I q => ?_⟩
  have hn := I.hok.fresh (Nat.le_refl s.heap.objs.size)
  have I1 := I.laid (a := s.heap.objs.size) (o := .dT []) (h' := s.heap.push { cls := .type "dict", data := .dict #[] }) (t' := s.toks) (fun _ _ q => Heap.get?_push_of_some _ q) (Nat.le_refl _) (dt_empty s.heap I.big)
  rw [arm_eval_Dict, zip_pairTrees [some k] [v] X.env pos rfl rfl, dictDisplay_pairs (pairTrees [some k] [v] X.env pos) (fun e => by have := pairTrees_length [some k] [v] X.env pos rfl rfl; rw [e] at this; cases this) (by rw [pairTrees_length [some k] [v] X.env pos rfl rfl]; show 1 < 17; decide)]
  refine wpAny_bind (wpAny_standAt (wpAny_bind ?_))
  refine wpAny_subDictH (knd := tupleKind (mixKind X.prog X.w)) (show X.A.units < cLine by omega) (by rw [pairTrees_length [some k] [v] X.env pos rfl rfl]; show 1 ≤ 15; decide) ?_
  refine pairTrees_cons_walk (thn (hk.run pins _ σ _ _ I1 (q _ hn)) fun u s1 ⟨x, H1, I2, rx, q1⟩ => thn (hv.run pins s1 σ H1 _ I2 q1) fun w2 s2 ⟨y, H2, I3, ry, e, kk, b, ex, eb, q2⟩ => pairTrees_nil_walk ?_)
  subst ex
  cases (show u = Value.ref b from rx)
  obtain ⟨z, hd, xs, rel, dd⟩ := dt_of I3.hok e
  cases rel
  refine ⟨[(kk, b, w2)], ⟨rfl, rfl, key_of I3.hok eb, True.intro⟩, dd, fun h' tk dd' hs => wpAny_pure ⟨.ref s.heap.objs.size, _, ?_, rfl, q2⟩⟩
  obtain ⟨o, es, ep, hq, h2, h3, h4, _, h5⟩ := dd'
  refine d_write I3 (by rw [e]; exact True.intro) hs ⟨o, hq⟩ ⟨by show 1 ≤ sizeLine; decide, hd, [(kk, b, w2)], .cons ⟨rfl, ?_, ry⟩ .nil, o, es, ep, hq, h2, h3, h4, h5⟩
  show (upd H2 s.heap.objs.size _) b = _
  rw [upd_ne (ne_of eb e (fun z => nomatch z))]
  exact eb
end L2
namespace DV
open PySem PySem.Spec PyProof.Rows L2
section
variable {tb : List Addr} {X : Cx}
/-- {}, of the kind that is wanted -/
def dNewD : DE := fun env Q => Q (.own none (.dK [])) env ∨ Q (.own none (.dT [])) env
theorem se_newD {pos : Pos} : SE tb X (.Dict [] [] pos) dNewD :=
  ⟨fun env Q Q' k q => q.imp (k _ _) (k _ _), ⟨fun pins s σ H Q I ⟨Z, Fr, As, env, J, q⟩ => q.elim
    (fun q => pe_dnewK.run pins s σ H Q I fun p np => q _ _ _ (Step.new J.ok np) (J.new np) (resNew J np fun st e => ⟨[], e, .nil⟩))
    (fun q => pe_dnewT.run pins s σ H Q I fun p np => q _ _ _ (Step.new J.ok np) (J.new np) (resNew J np fun st e => ⟨[], e, .nil⟩))⟩⟩
/-- {k: v} -/
def dDisK (wk wv : DV) : DE := fun env Q => wk env fun k e1 => wv e1 fun v e2 => need (keyD k) fun k => Q (.own none (.dK [(k, v)])) e2
def tupD : D → Option (List Key)
  | .tuple ds => keysD ds
  | _ => none
def dDisT (wk wv : DV) : DE := fun env Q => wk env fun k e1 => wv e1 fun v e2 => need (tupD k) fun k => Q (.own none (.dT [(k, v)])) e2
/-- while the new dict stands by -/
theorem EnvR.byNew {C : Cfg} {Z Fr : Addr → Prop} {As : Nat → Addr} {σ : L2.St} {H : Hp} {env : En} {p : Addr} {o : HO} {m : MO} (I : EnvR C Z Fr As σ H env) (np : H p = none) (h : ∀ {Z' H'}, Step Z Fr H Z' H' → H' p = some o → MOR C.K Z' H' p m) :
    EnvR C Z (fun a => Fr a ∨ a = p) As σ (upd H p o) env :=
  ((I.new np).prot (resNew I np h)).weak fun a q => q.imp id fun e => ⟨by rw [e], none, _, rfl⟩
theorem ends_new {C : Cfg} {Z Z2 Fr : Addr → Prop} {As : Nat → Addr} {σ : L2.St} {H H2 : Hp} {env e2 : En} {p : Addr} {o o2 : HO} {m : MO} (I : EnvR C Z Fr As σ H env) (np : H p = none) (st : Step Z (fun a => Fr a ∨ a = p) (upd H p o) Z2 H2) (mu : Mut (some o)) (I2 : EnvR C Z2 (fun a => Fr a ∨ a = p) As σ H2 e2)
    (new : ∀ {Z' H'}, Step Z2 Fr H2 Z' H' → H' p = some o2 → MOR C.K Z' H' p m) :
    H2 p = some o ∧ Step Z Fr H Z2 (upd H2 p o2) ∧ EnvR C Z2 Fr As σ (upd H2 p o2) e2 ∧ ResR C Z2 Fr σ e2 (upd H2 p o2) (.ref p) (.own none m) := by
  have hp : H2 p = some o := (st.keep p (.inr (.inr rfl))).trans upd_same
  have nb := I.nobody np
  obtain ⟨I3, st3⟩ := I2.updFr (o' := o2) hp mu
  have wk : ∀ a, Fr a → Fr a ∨ a = p := fun a => .inl
  have st3' : Step Z2 Fr H2 Z2 (upd H2 p o2) := st3 (fun _ h => h) fun a f e => nb.2.1 (by rw [← e]; exact f)
  refine ⟨hp, ((Step.new I.ok np).trans (st.weak wk)).trans st3', I3.weak wk, rfl, p, rfl, new st3' upd_same, fun z => ?_, nb.2.1, fun i ⟨h1, t, m', h2⟩ => ?_⟩
  · exact nb.1 (st.fr p z (.inr rfl))
  · obtain ⟨b, e, _, _, nf, _⟩ := I3.slot i _ _ h1 h2
    cases e
    exact nf (.inr rfl)
theorem se_disK {k v : Expr} {pos : Pos} {wk wv : DV} (hk : SV tb X k wk) (hv : SV tb X v wv) : SE tb X (.Dict [some k] [v] pos) (dDisK wk wv) :=
  ⟨fun env Q Q' kk q => hk.mono env _ _ (fun _ e1 q => hv.mono e1 _ _ (fun _ _ q => let ⟨_, e, q⟩ := need_out q; need_in e (kk _ _ q)) q) q,
    (pe_disp (pps_cons hk.pe hv.pe pps_nil) rfl rfl (by simp) (by simp)).imp fun σ H Q ⟨Z, Fr, As, env, I, q⟩ p np => by
      refine ⟨Z, _, As, env, I.byNew (o := .dK []) (m := .dK []) np (fun st e => ⟨[], e, .nil⟩), hk.mono env _ _ (fun kd e1 q v1 H1 Z1 st1 I1 r1 => ?_) q⟩
      refine ⟨Z1, _, As, e1, I1, hv.mono e1 _ _ (fun vd e2 q v2 H2 Z2 st2 I2 r2 => ?_) q⟩
      obtain ⟨kk, ek, q⟩ := need_out q
      obtain ⟨hp, st3, I3, R3⟩ := ends_new (o2 := .dK [(kk, v2)]) (m := .dK [(kk, vd)]) I np (st1.trans st2) True.intro I2 fun st e => ⟨_, e, .cons (r2.step st) .nil⟩
      exact ⟨hp, [(kk, v2)], by rw [r1.key ek]; rfl, by simp, q _ _ _ st3 I3 R3⟩⟩
theorem se_disT {k v : Expr} {pos : Pos} {wk wv : DV} (hu : X.A.units + 1 < cLine) (hk : SV tb X k wk) (hv : SV tb X v wv) : SE tb X (.Dict [some k] [v] pos) (dDisT wk wv) :=
  ⟨fun env Q Q' kk q => hk.mono env _ _ (fun _ e1 q => hv.mono e1 _ _ (fun _ _ q => let ⟨_, e, q⟩ := need_out q; need_in e (kk _ _ q)) q) q,
    (pe_dispT hu hk.pe hv.pe).imp fun σ H Q ⟨Z, Fr, As, env, I, q⟩ p np => by
      refine ⟨Z, _, As, env, I.byNew (o := .dT []) (m := .dT []) np (fun st e => ⟨[], e, .nil⟩), hk.mono env _ _ (fun kd e1 q v1 H1 Z1 st1 I1 r1 => ?_) q⟩
      refine ⟨Z1, _, As, e1, I1, hv.mono e1 _ _ (fun vd e2 q v2 H2 Z2 st2 I2 r2 => ?_) q⟩
      obtain ⟨kk, ek, q9⟩ := need_out q
      obtain ⟨hp, st3, I3, R3⟩ := ends_new (o2 := .dT [(kk, v2)]) (m := .dT [(kk, vd)]) I np (st1.trans st2) True.intro I2 fun st e => ⟨_, e, .cons (r2.step st) .nil⟩
      refine ⟨hp, kk, ?_⟩
      unfold tupD at ek
      split at ek
      · cases r1 with
        | tup h1 rs => exact ⟨_, rfl, by rw [← rs.keys ek]; exact st2.tup _ _ h1, q9 _ _ _ st3 I3 R3⟩
      · cases ek⟩
/-! d.get(k) -/
def getS (x s : Slot) (R : D → Prop) : Prop := match x with
  | .own _ (.dK kvs) => need (kyS s) fun k => R ((valD kvs k).getD .none)
  | .own _ (.dT kvs) => need (ksS s) fun k => R ((valD kvs k).getD .none)
  | .own _ (.lst _) => False
  | .val _ => False
  | .scr _ => False
theorem getS_mono {x s : Slot} {R R' : D → Prop} (k : ∀ r, R r → R' r) : getS x s R → getS x s R' := by
  unfold getS
  split
  · intro q
    obtain ⟨i, e, q⟩ := need_out q
    exact need_in e (k _ q)
  · intro q
    obtain ⟨i, e, q⟩ := need_out q
    exact need_in e (k _ q)
  · exact id
  · exact id
  · exact id
def isDic : Slot → Bool
  | .own _ (.dK _) => true
  | .own _ (.dT _) => true
  | _ => false
def dGet1 (i : Nat) (w : DO) : DE := fun env Q => need (sl env i) fun x => isDic x = true ∧ w env fun o e => need (con e o) fun s => need (sl e i) fun x => getS x s fun d => Q (.val d) e
theorem se_get1 (i : Nat) {x : Str} {e : Expr} {px apos cpos : Pos} {w : DO} (hu : X.A.units + 1 < cLine) (he : SO tb X e w) (hN : X.N[i]? = some x := by rfl) (hv : Vis X.env.scope x := by first | exact Or.inl rfl | exact Or.inr (Or.inl rfl) | exact Or.inr (Or.inr rfl)) (hd : (x == ("__debug__" : Str)) = false := by decide)
    (hcd : (x == ("__classdict__" : Str)) = false := by decide) (hbase : attributeBase (.Name x px) "get" X.env (eval (.Name x px) X.env) = eval (.Name x px) X.env := by rfl)
    (hfew : ((backTo cpos (starEach [e] X.env)).all (fun x => !x.1) && (backToKw cpos (keywordEach [] X.env)).all (fun x => x.1.isSome)
      && decide (([e] : List Expr).length + ([] : List Keyword).length + (if ([] : List Keyword).isEmpty then 0 else 1) < 30)) = true := by rfl)
    (hline : (apos.endLine == cpos.line) = true := by rfl) (hs : backTo cpos (starEach [e] X.env) = [(false, eval e X.env)] := by rfl) :
    SE tb X (.Call (.Attribute (.Name x px) "get" apos) [e] [] cpos) (dGet1 i w) :=
  ⟨fun env Q Q' k q => by
    obtain ⟨x, c, a, q⟩ := need_out q
    refine need_in c ⟨a, he.mono env _ _ (fun o e q => ?_) q⟩
    obtain ⟨s, c1, q⟩ := need_out q
    obtain ⟨x, c2, q⟩ := need_out q
    exact need_in c1 (need_in c2 (getS_mono (fun _ => k _ _) q)), (pe_dget1 hu (pe_var hN hv hd hcd) he.pe ⟨hbase, hfew, hline, hs⟩).imp fun σ H Q ⟨Z, Fr, As, env, I, q⟩ => by
    obtain ⟨x, c, a, q⟩ := need_out q
    have hx : ∃ b, σ[i]? = some (some (.ref b)) ∧ IsD H b := by
      unfold isDic at a
      split at a
      · obtain ⟨b, h0, ⟨l, hl, _⟩, _⟩ := I.atOwn (sl_at c)
        exact ⟨b, h0, .inl ⟨l, .inl hl⟩⟩
      · obtain ⟨b, h0, ⟨l, hl, _⟩, _⟩ := I.atOwn (sl_at c)
        exact ⟨b, h0, .inr ⟨l, .inl hl⟩⟩
      · cases a
    obtain ⟨b, h0, hb⟩ := hx
    refine ⟨_, h0, b, rfl, hb, Z, Fr, As, env, I, he.mono env _ _ (fun o e q v H1 Z1 st1 I1 r1 => ?_) q⟩
    obtain ⟨s, c1, q⟩ := need_out q
    obtain ⟨x, c2, q⟩ := need_out q
    have cr := r1.cr I1 c1
    unfold getS at q
    split at q
    · obtain ⟨k, ek, q⟩ := need_out q
      obtain ⟨b', g1, mr, z⟩ := I1.atOwn (sl_at c2)
      rw [h0] at g1
      cases g1
      obtain ⟨_, eb, h⟩ := CR.getK (C := ⟨X.K, tb⟩) (t := none) (x := .ref b) ⟨b, rfl, mr⟩ cr ek
      cases eb
      rcases h with ⟨e1, g⟩ | ⟨d, v', e1, g, r⟩
      · rw [e1] at q; exact ⟨_, g, q _ _ _ st1 I1 Rp.non⟩
      · rw [e1] at q; exact ⟨_, g, q _ _ _ st1 I1 r⟩
    · obtain ⟨k, ek, q⟩ := need_out q
      obtain ⟨b', g1, mr, z⟩ := I1.atOwn (sl_at c2)
      rw [h0] at g1
      cases g1
      obtain ⟨_, eb, h⟩ := CR.getT (C := ⟨X.K, tb⟩) (t := none) (x := .ref b) ⟨b, rfl, mr⟩ cr ek
      cases eb
      rcases h with ⟨e1, g⟩ | ⟨d, v', e1, g, r⟩
      · rw [e1] at q; exact ⟨_, g, q _ _ _ st1 I1 Rp.non⟩
      · rw [e1] at q; exact ⟨_, g, q _ _ _ st1 I1 r⟩
    · exact q.elim
    · exact q.elim
    · exact q.elim⟩
theorem RoomG.u1 {k : Nat} {A : Around} (hr : RoomG k A) : A.units + 1 < cLine := by have := hr.room.un; omega
end
end DV

set_option Elab.async false
set_option linter.all false
set_option maxRecDepth 100000
set_option maxHeartbeats 4000000
/-! [elt for tg in iter if .. for tg1 in iter1 if ..] -/
namespace DV
open PySem PySem.Spec PyProof.Rows L2
theorem wipe_sub {σ : L2.St} {vs : List Nat} : ∀ {us : List Nat}, (∀ u ∈ us, u ∈ vs) → wipe (wipe σ us) vs = wipe σ vs := by
  intro us
  induction us with
  | nil => intro _; rfl
  | cons u us ih =>
    intro h
    show wipe ((wipe σ us).set u none) vs = _
    rw [wipe_set (h u (by simp)), ih fun x hx => h x (by simp [hx])]
def dLc2L (g : DG) (t : DT) (wi1 : DI) (g1 : DG) (t1 : DT) (w : DV) (vs vs1 : List Nat) : List D → En → (List D → En → Prop) → Prop
  | [], env, Q => Q [] env
  | d :: ds, env, Q => g (.val d) (wipeE vs env) fun e1 => t e1 fun b e2 => if b = true then wi1 e2 fun ds1 e3 => ds1.length ≤ 4000 ∧ dLcL g1 t1 w vs1 ds1 (wipeE vs1 e3) fun ys e4 => dLc2L g t wi1 g1 t1 w vs vs1 ds (wipeE vs1 e4) fun ys' e => Q (ys ++ ys') e
      else dLc2L g t wi1 g1 t1 w vs vs1 ds e2 Q
section
variable {g : DG} {t : DT} {wi wi1 : DI} {g1 : DG} {t1 : DT} {w : DV} {vs vs1 : List Nat}
theorem dLc2L_mono (mg : MonoT g) (mt : Mono t) (mi1 : Mono wi1) (mg1 : MonoT g1) (mt1 : Mono t1) (mw : Mono w) : ∀ ds env Q Q', (∀ r e, Q r e → Q' r e) → dLc2L g t wi1 g1 t1 w vs vs1 ds env Q → dLc2L g t wi1 g1 t1 w vs vs1 ds env Q'
  | [], _, _, _, k, q => k _ _ q
  | d :: ds, env, Q, Q', k, q => mg _ _ _ _ (fun e1 q => mt e1 _ _ (fun b e2 q => by
    cases b with
    | true => exact mi1 e2 _ _ (fun ds1 e3 ⟨l, q⟩ => ⟨l, dLcL_mono mg1 mt1 mw ds1 _ _ _ (fun ys e4 q => dLc2L_mono mg mt mi1 mg1 mt1 mw ds _ _ _ (fun _ _ => k _ _) q) q⟩) q
    | false => exact dLc2L_mono mg mt mi1 mg1 mt1 mw ds e2 _ _ k q) q) q
def dLc2 (wi : DI) (g : DG) (t : DT) (wi1 : DI) (g1 : DG) (t1 : DT) (w : DV) (vs vs1 : List Nat) : DE := fun env Q => wi env fun ds e => ds.length ≤ 4000 ∧ dLc2L g t wi1 g1 t1 w vs vs1 ds (wipeE vs e) fun ys e' => Q (.own none (.lst ys)) (backE e vs (wipeE vs e'))
theorem dLc2_mono (mi : Mono wi) (mg : MonoT g) (mt : Mono t) (mi1 : Mono wi1) (mg1 : MonoT g1) (mt1 : Mono t1) (mw : Mono w) : Mono (dLc2 wi g t wi1 g1 t1 w vs vs1) := fun env Q Q' k q =>
  mi env _ _ (fun ds e ⟨l, q⟩ => ⟨l, dLc2L_mono mg mt mi1 mg1 mt1 mw ds _ _ _ (fun _ _ => k _ _) q⟩) q
theorem big_line : 16000000 < sizeLine := by decide
theorem lc2_lift {C : Cfg} (hsub : ∀ i ∈ vs1, i ∈ vs) (mi : Mono wi) (mg : MonoT g) (mt : Mono t) (mi1 : Mono wi1) (mg1 : MonoT g1) (mt1 : Mono t1) (mw : Mono w) :
    ∀ σ H Q, tE C (dLc2 wi g t wi1 g1 t1 w vs vs1) σ H Q → tLc2 (tI C wi) (tGW C vs g) (tT C t) (tI C wi1) (tGW C vs1 g1) (tT C t1) (tV C w) vs vs1 σ H Q := fun σ H Q ⟨Z, Fr, As, env, I, q⟩ => by
  refine ⟨Z, Fr, As, env, I, mi env _ _ (fun ds e1 ⟨hl, q⟩ J H1 Z1 st1 I1 ok p np => ?_) q⟩
  have nb := I1.nobody np
  have I1n : EnvR C Z1 Fr As σ (upd H1 p (.lst [])) e1 := I1.new np
  have stn : Step Z1 Fr H1 Z1 (upd H1 p (.lst [])) := Step.new I1.ok np
  have I1p : EnvR C Z1 (fun a => Fr a ∨ a = p) As σ (upd H1 p (.lst [])) e1 := I1.byNew (m := .lst []) np fun st2 e => ⟨[], e, .nil⟩
  have wk : ∀ a, Fr a → Fr a ∨ a = p := fun a => .inl
  have nfp : ∀ a, Fr a → a ≠ p := fun a f e => nb.2.1 (by rw [← e]; exact f)
  let KK : (Addr → Prop) → Hp → List D → List D → En → Prop := fun Z2 H2 ys ys' e' => ∀ v H' Z', Step Z2 Fr H2 Z' H' → EnvR C Z' Fr As σ H' (backE e1 vs (wipeE vs e')) → ResR C Z' Fr σ (backE e1 vs (wipeE vs e')) H' v (.own none (.lst (ys ++ ys'))) → Q v H'
  have kks : ∀ {Z2 H2 Z3 H3 ys ys' e'}, Step Z2 Fr H2 Z3 H3 → KK Z2 H2 ys ys' e' → KK Z3 H3 ys ys' e' := fun st q v H' Z' st' I' R => q v H' Z' (st.trans st') I' R
  refine ⟨fun i m H2 => i + m = ds.length ∧ ∃ Z2 env2 acc ys, Step Z1 Fr H1 Z2 H2 ∧ (∀ a, Z2 a → a ≠ p) ∧ EnvR C Z2 (fun a => Fr a ∨ a = p) As (wipe σ vs) H2 (wipeE vs env2) ∧ H2 p = some (.lst acc) ∧ Rps C.K Z2 H2 acc ys ∧ ys.length + 4000 * m ≤ 16000000 ∧
      dLc2L g t wi1 g1 t1 w vs vs1 (ds.drop i) env2 (KK Z2 H2 ys),
    ⟨ds.length, Nat.zero_add _, Z1, wipeE vs e1, [], [], stn, fun a z e => nb.1 (by rw [← e]; exact z), ?_, upd_same, .nil, by simp only [List.length_nil]; omega, ?_⟩, ?_⟩
  · have h2 := (I1p.wipe vs).wipe vs
    rw [wipe_wipe] at h2
    exact h2
  · exact dLc2L_mono mg mt mi1 mg1 mt1 mw ds _ _ _ (fun ys' e' q v H' Z' st I' R => q v H' Z' ((st1.trans stn).trans st) I' R) q
  · rintro i m H2 ⟨im, Z2, env2, acc, ys, st2, zp, I2, hp, ra, hy, q2⟩
    have okp : Ok C Z2 Fr H2 := (I2.weak (fun a h => .inl h)).ok
    obtain ⟨go, stop⟩ := ok _ Z2 H2 i st2 okp
    by_cases hlt : i < ds.length
    · refine .inr ?_
      have ed : ds[i]? = some ds[i] := List.getElem?_eq_getElem hlt
      obtain ⟨go, yl⟩ := go _ ed
      rw [List.drop_eq_getElem_cons hlt] at q2
      refine ⟨go, fun H' => ∃ Z2 env2 acc ys, Step Z1 Fr H1 Z2 H' ∧ (∀ a, Z2 a → a ≠ p) ∧ EnvR C Z2 (fun a => Fr a ∨ a = p) As (wipe σ vs) H' (wipeE vs env2) ∧ H' p = some (.lst acc) ∧ Rps C.K Z2 H' acc ys ∧ ys.length + 4000 * (m - 1) ≤ 16000000 ∧
        dLc2L g t wi1 g1 t1 w vs vs1 (ds.drop (i + 1)) env2 (KK Z2 H' ys), fun H' h => ⟨m - 1, by omega, by omega, h⟩, fun x H3 y => ?_⟩
      obtain ⟨y1, rx⟩ := yl x H3 y
      obtain ⟨I3, st3⟩ := yld_env I2 y1
      refine ⟨Z2, _, As, wipeE vs env2, .val ds[i], I3, rx, mg _ _ _ _ (fun e4 q4 σ4 H4 Z4 st4 I4 hw4 => ?_) q2⟩
      have hw : wipe σ4 vs = wipe σ vs := hw4.trans wipe_wipe
      refine ⟨hw, Z4, _, As, e4, I4, mt e4 _ _ (fun b e5 q5 H5 Z5 st5 I5 => ?_) q4⟩
      have st25 : Step Z2 (fun a => Fr a ∨ a = p) H2 Z5 H5 := (st3.trans st4).trans st5
      cases b with
      | false =>
        simp only [Bool.false_eq_true, if_false] at q5 ⊢
        have I6 := I5.wipe vs
        rw [hw] at I6
        refine ⟨Z5, e5, acc, ys, st2.trans (st25.weak wk), fun a z e => zp a (st25.fr a z (.inr e)) e, I6, (st25.keep p (.inr (.inr rfl))).trans hp, ra.step st25, by omega, ?_⟩
        exact dLc2L_mono mg mt mi1 mg1 mt1 mw _ _ _ _ (fun ys' e' q => kks (st25.weak wk) q) q5
      | true =>
        simp only [if_true] at q5 ⊢
        refine ⟨Z5, _, As, e5, I5, mi1 e5 _ _ (fun ds1 e6 ⟨hl1, q6⟩ J1 H6 Z6 st6 I6 ok1 => ?_) q5⟩
        have st26 : Step Z2 (fun a => Fr a ∨ a = p) H2 Z6 H6 := st25.trans st6
        have hp6 : H6 p = some (.lst acc) := (st26.keep p (.inr (.inr rfl))).trans hp
        refine ⟨fun j k H7 => j + k = ds1.length ∧ ∃ Z7 env7 acc7 ys7, Step Z6 Fr H6 Z7 H7 ∧ (∀ a, Z7 a → a ≠ p) ∧ EnvR C Z7 (fun a => Fr a ∨ a = p) As (wipe σ4 vs1) H7 (wipeE vs1 env7) ∧ H7 p = some (.lst acc7) ∧ Rps C.K Z7 H7 acc7 ys7 ∧ ys7.length + k + 4000 * (m - 1) ≤ 16000000 ∧
            dLcL g1 t1 w vs1 (ds1.drop j) env7 (fun ys'' e'' => dLc2L g t wi1 g1 t1 w vs vs1 (ds.drop (i + 1)) (wipeE vs1 e'') fun ys' e' => KK Z7 H7 ys7 (ys'' ++ ys') e'),
          ⟨ds1.length, Nat.zero_add _, Z6, wipeE vs1 e6, acc, ys, Step.refl, fun a z e => zp a (st26.fr a z (.inr e)) e, ?_, hp6, ra.step st26, by omega, ?_⟩, ?_⟩
        · have h2 := (I6.wipe vs1).wipe vs1
          rw [wipe_wipe] at h2
          exact h2
        · exact dLcL_mono mg1 mt1 mw ds1 _ _ _ (fun ys'' e'' q => dLc2L_mono mg mt mi1 mg1 mt1 mw _ _ _ _ (fun ys' e' q => kks (st26.weak wk) q) q) q6
        · rintro j k H7 ⟨jk, Z7, env7, acc7, ys7, st7, zp7, I7, hp7, ra7, hy7, q7⟩
          have okp7 : Ok C Z7 (fun a => Fr a ∨ a = p) H7 := I7.ok
          by_cases hlt1 : j < ds1.length
          · refine .inr ?_
            have ed1 : ds1[j]? = some ds1[j] := List.getElem?_eq_getElem hlt1
            obtain ⟨go1, stop1⟩ := ok1 _ Z7 H7 j st7 (I7.weak (fun a h => .inl h)).ok
            obtain ⟨go1, yl1⟩ := go1 _ ed1
            rw [List.drop_eq_getElem_cons hlt1] at q7
            refine ⟨go1, fun H' => ∃ Z7 env7 acc7 ys7, Step Z6 Fr H6 Z7 H' ∧ (∀ a, Z7 a → a ≠ p) ∧ EnvR C Z7 (fun a => Fr a ∨ a = p) As (wipe σ4 vs1) H' (wipeE vs1 env7) ∧ H' p = some (.lst acc7) ∧ Rps C.K Z7 H' acc7 ys7 ∧ ys7.length + (k - 1) + 4000 * (m - 1) ≤ 16000000 ∧
              dLcL g1 t1 w vs1 (ds1.drop (j + 1)) env7 (fun ys'' e'' => dLc2L g t wi1 g1 t1 w vs vs1 (ds.drop (i + 1)) (wipeE vs1 e'') fun ys' e' => KK Z7 H' ys7 (ys'' ++ ys') e'), fun H' h => ⟨k - 1, by omega, by omega, h⟩, fun x1 H8 y1 => ?_⟩
            obtain ⟨y2, rx1⟩ := yl1 x1 H8 y1
            obtain ⟨I8, st8⟩ := yld_env I7 y2
            refine ⟨Z7, _, As, wipeE vs1 env7, .val ds1[j], I8, rx1, mg1 _ _ _ _ (fun e9 q9 σ9 H9 Z9 st9 I9 hw9 => ?_) q7⟩
            have hw19 : wipe σ9 vs1 = wipe σ4 vs1 := hw9.trans wipe_wipe
            refine ⟨hw19, Z9, _, As, e9, I9, mt1 e9 _ _ (fun b e10 q10 H10 Z10 st10 I10 => ?_) q9⟩
            have st70 : Step Z7 (fun a => Fr a ∨ a = p) H7 Z10 H10 := (st8.trans st9).trans st10
            cases b with
            | false =>
              simp only [Bool.false_eq_true, if_false] at q10 ⊢
              have I11 := I10.wipe vs1
              rw [hw19] at I11
              refine ⟨Z10, e10, acc7, ys7, st7.trans (st70.weak wk), fun a z e => zp7 a (st70.fr a z (.inr e)) e, I11, (st70.keep p (.inr (.inr rfl))).trans hp7, ra7.step st70, by omega, ?_⟩
              exact dLcL_mono mg1 mt1 mw _ _ _ _ (fun ys'' e'' q => dLc2L_mono mg mt mi1 mg1 mt1 mw _ _ _ _ (fun ys' e' q => kks (st70.weak wk) q) q) q10
            | true =>
              simp only [if_true] at q10 ⊢
              refine ⟨Z10, _, As, e10, I10, mw e10 _ _ (fun yd e11 q11 yv H11 Z11 st11 I11 ry => ?_) q10⟩
              have st71 : Step Z7 (fun a => Fr a ∨ a = p) H7 Z11 H11 := st70.trans st11
              have hp11 : H11 p = some (.lst acc7) := (st71.keep p (.inr (.inr rfl))).trans hp7
              have hlen := (ra7.step st71).length
              obtain ⟨I12, st12⟩ := I11.updFr (o' := .lst (acc7 ++ [yv])) hp11 True.intro
              have st12' : Step Z11 Fr H11 Z11 (upd H11 p (.lst (acc7 ++ [yv]))) := st12 (fun _ h => h) fun a f e => nb.2.1 (by rw [← e]; exact f)
              have I13 := I12.wipe vs1
              rw [hw19] at I13
              have hbl := big_line
              refine ⟨acc7, hp11, by omega, Z11, e11, acc7 ++ [yv], ys7 ++ [yd], (st7.trans (st71.weak wk)).trans st12', fun a z e => zp7 a (st71.fr a z (.inr e)) e, I13, upd_same, ((ra7.step st71).app (.cons ry .nil)).step st12', by rw [List.length_append]; simp only [List.length_cons, List.length_nil]; omega, ?_⟩
              refine dLcL_mono mg1 mt1 mw _ _ _ _ (fun ys'' e'' q => dLc2L_mono mg mt mi1 mg1 mt1 mw _ _ _ _ (fun ys' e' q v H' Z' st I' R => ?_) q) q11
              rw [List.append_assoc] at R
              exact q v H' Z' (((st71.weak wk).trans st12').trans st) I' R
          · refine .inl ⟨(ok1 _ Z7 H7 j st7 (I7.weak (fun a h => .inl h)).ok).2 (by omega), ?_⟩
            rw [List.drop_eq_nil_of_le (by omega)] at q7
            have I14 := I7.wipe vs
            rw [wipe_sub hsub, hw] at I14
            exact ⟨Z7, wipeE vs1 env7, acc7, ys7, (st2.trans (st26.weak wk)).trans st7, zp7, I14, hp7, ra7, by omega, q7⟩
    · refine .inl ⟨stop (by omega), ?_⟩
      rw [List.drop_eq_nil_of_le (by omega)] at q2
      have Ib : EnvR C Z2 (fun a => Fr a ∨ a = p) As σ H2 (backE e1 vs (wipeE vs env2)) := by
        refine (I1.back (st2) (vs := vs) (env := wipeE vs env2) (I2.weak fun a h => .inl h)) |> fun B => ?_
        refine ⟨⟨I2.ok.z, I2.ok.f, I2.ok.zf, I2.ok.tab, I2.ok.nz⟩, B.len, fun j u x g1 g2 => ?_, B.apart⟩
        have s := B.slot j u x g1 g2
        rcases x with _ | ⟨d | ⟨t2, m2⟩ | ns⟩
        · exact True.intro
        · exact s
        · obtain ⟨b, q, y, z2, f2, k2⟩ := s
          rcases backE_in g2 with ⟨mm, e⟩ | ⟨mm, g2⟩
          · cases q' : sl e1 j with
            | none => rw [q'] at e; cases e
            | some s => rw [q'] at e; cases s <;> cases e
          · obtain ⟨b', q', _, _, f', _⟩ := I2.slot j u _ (by rw [wipe_out mm]; exact g1) g2
            rw [q] at q'
            cases q'
            exact ⟨b, q, y, z2, f', k2⟩
        · exact s
      refine q2 (.ref p) H2 Z2 Step.refl (Ib.weak fun a h => .inl h) ⟨rfl, p, rfl, ⟨acc, hp, by rw [List.append_nil]; exact ra⟩, fun z => zp p z rfl, nb.2.1, fun k ⟨h1, t2, m2, h2⟩ => ?_⟩
      obtain ⟨b, e, _, _, nf, _⟩ := Ib.slot k _ _ h1 h2
      cases e
      exact nf (.inr rfl)
end
section
variable {tb : List Addr} {X : Cx} {elt tg iter tg1 iter1 : Expr} {ifs ifs1 : List Expr} {scope : Scope} {pos : Pos} {wi wi1 : DI} {g g1 : DG} {t t1 : DT} {w : DV} {vs1 : List Nat}
theorem se_lc2 (own : List (Str × Nat)) (hc : X.calm = true) (hN : X.N.Nodup) (hi : SI tb X tg iter wi) (ok : BlkOk X.N X.env.scope scope own) (hv : ∀ i ∈ vs1, i ∈ own.map (·.2))
    (hg : ∀ (s : Shared) (H : Hp) (C : Addr) (cl : List (Str × Addr)) (fp : List Addr), SGb (own.map (·.2)) tb (X.blk s H scope (compEnvC scope cl C X.env) fp) tg g) (ht : ∀ (s : Shared) (H : Hp) (C : Addr) (cl : List (Str × Addr)) (fp : List Addr), STs tb (X.blk s H scope (compEnvC scope cl C X.env) fp) ifs t)
    (hi1 : ∀ (s : Shared) (H : Hp) (C : Addr) (cl : List (Str × Addr)) (fp : List Addr), SI tb (X.blk s H scope (compEnvC scope cl C X.env) fp) tg1 iter1 wi1)
    (hg1 : ∀ (s : Shared) (H : Hp) (C : Addr) (cl : List (Str × Addr)) (fp : List Addr), SGb vs1 tb (X.blk s H scope (compEnvC scope cl C X.env) fp) tg1 g1) (ht1 : ∀ (s : Shared) (H : Hp) (C : Addr) (cl : List (Str × Addr)) (fp : List Addr), STs tb (X.blk s H scope (compEnvC scope cl C X.env) fp) ifs1 t1)
    (he : ∀ (s : Shared) (H : Hp) (C : Addr) (cl : List (Str × Addr)) (fp : List Addr), SV tb (X.blk s H scope (compEnvC scope cl C X.env) fp) elt w) (hs : ∀ x, foldedSetIterable iter X.env x = pure x := by intro _; rfl) (hs1 : ∀ env x, foldedSetIterable iter1 env x = pure x := by intro _ _; rfl) :
    SE tb X (.ListComp elt [⟨tg, iter, ifs, 0⟩, ⟨tg1, iter1, ifs1, 0⟩] scope pos) (dLc2 wi g t wi1 g1 t1 w (own.map (·.2)) vs1) :=
  have s0 : Shared := X.s_0
  have mg := (hg s0 (fun _ => none) 0 [] []).mono
  have mt := (ht s0 (fun _ => none) 0 [] []).mono
  have mi1 := (hi1 s0 (fun _ => none) 0 [] []).mono
  have mg1 := (hg1 s0 (fun _ => none) 0 [] []).mono
  have mt1 := (ht1 s0 (fun _ => none) 0 [] []).mono
  have mw := (he s0 (fun _ => none) 0 [] []).mono
  ⟨dLc2_mono hi.mono mg mt mi1 mg1 mt1 mw, (pe_lc2 hc hN hi.pi ok hv (fun s H C cl fp => (hg s H C cl fp).pg) (fun s H C cl fp => (ht s H C cl fp).pt) (fun s H C cl fp => (hi1 s H C cl fp).pi) (fun s H C cl fp => (hg1 s H C cl fp).pg) (fun s H C cl fp => (ht1 s H C cl fp).pt) (fun s H C cl fp => (he s H C cl fp).pe) hs hs1).imp (lc2_lift (C := ⟨X.K, tb⟩) hv hi.mono mg mt mi1 mg1 mt1 mw)⟩
theorem ss_setLc2 (i : Nat) {y : Str} {py : Pos} {spos : Pos} (own : List (Str × Nat)) (hc : X.calm = true) (hN : X.N.Nodup) (hi : SI tb X tg iter wi) (ok : BlkOk X.N X.env.scope scope own) (hv : ∀ i ∈ vs1, i ∈ own.map (·.2))
    (hg : ∀ (s : Shared) (H : Hp) (C : Addr) (cl : List (Str × Addr)) (fp : List Addr), SGb (own.map (·.2)) tb (X.blk s H scope (compEnvC scope cl C X.env) fp) tg g) (ht : ∀ (s : Shared) (H : Hp) (C : Addr) (cl : List (Str × Addr)) (fp : List Addr), STs tb (X.blk s H scope (compEnvC scope cl C X.env) fp) ifs t)
    (hi1 : ∀ (s : Shared) (H : Hp) (C : Addr) (cl : List (Str × Addr)) (fp : List Addr), SI tb (X.blk s H scope (compEnvC scope cl C X.env) fp) tg1 iter1 wi1)
    (hg1 : ∀ (s : Shared) (H : Hp) (C : Addr) (cl : List (Str × Addr)) (fp : List Addr), SGb vs1 tb (X.blk s H scope (compEnvC scope cl C X.env) fp) tg1 g1) (ht1 : ∀ (s : Shared) (H : Hp) (C : Addr) (cl : List (Str × Addr)) (fp : List Addr), STs tb (X.blk s H scope (compEnvC scope cl C X.env) fp) ifs1 t1)
    (he : ∀ (s : Shared) (H : Hp) (C : Addr) (cl : List (Str × Addr)) (fp : List Addr), SV tb (X.blk s H scope (compEnvC scope cl C X.env) fp) elt w)
    (hsw : swapsWith (.ListComp elt [⟨tg, iter, ifs, 0⟩, ⟨tg1, iter1, ifs1, 0⟩] scope pos) (some (.Name y py)) spos.line X.env = pure true) (hy : X.N[i]? = some y := by rfl) (hyl : X.env.scope.names.lookup y = some .local := by rfl)
    (hs : ∀ x, foldedSetIterable iter X.env x = pure x := by intro _; rfl) (hs1 : ∀ env x, foldedSetIterable iter1 env x = pure x := by intro _ _; rfl) :
    SS tb X (.Assign [.Name y py] (.ListComp elt [⟨tg, iter, ifs, 0⟩, ⟨tg1, iter1, ifs1, 0⟩] scope pos) spos) (dAsg (dLc2 wi g t wi1 g1 t1 w (own.map (·.2)) vs1) (gNm i)) :=
  have s0 : Shared := X.s_0
  have mg := (hg s0 (fun _ => none) 0 [] []).mono
  have mt := (ht s0 (fun _ => none) 0 [] []).mono
  have mi1 := (hi1 s0 (fun _ => none) 0 [] []).mono
  have mg1 := (hg1 s0 (fun _ => none) 0 [] []).mono
  have mt1 := (ht1 s0 (fun _ => none) 0 [] []).mono
  have mw := (he s0 (fun _ => none) 0 [] []).mono
  have M : Mono (dLc2 wi g t wi1 g1 t1 w (own.map (·.2)) vs1) := dLc2_mono hi.mono mg mt mi1 mg1 mt1 mw
  ⟨dAsg_mono M fun _ _ _ _ k q => k _ q, (ps_setLc2 hc hN hy hyl hsw hi.pi ok hv (fun s H C cl fp => (hg s H C cl fp).pg) (fun s H C cl fp => (ht s H C cl fp).pt) (fun s H C cl fp => (hi1 s H C cl fp).pi) (fun s H C cl fp => (hg1 s H C cl fp).pg) (fun s H C cl fp => (ht1 s H C cl fp).pt) (fun s H C cl fp => (he s H C cl fp).pe) hs hs1).imp fun D σ H ⟨Z, Fr, As, env, I, q⟩ =>
    lc2_lift (C := ⟨X.K, tb⟩) hv hi.mono mg mt mi1 mg1 mt1 mw σ H _ ⟨Z, Fr, As, env, I, M env (fun r e => (upE ⟨X.K, tb⟩ Z Fr As H D).nx (e.set i (some r))) _ (fun r e q v H' Z' st I' R => q _ _ _ st (I'.setRes R)) q⟩⟩
end
end DV


set_option Elab.async false
set_option linter.all false
set_option maxRecDepth 100000
set_option maxHeartbeats 4000000
/-! all(elt for tg in iter if .. for tg1 in iter1 if ..) -/
namespace L2
open PySem PySem.Spec PyProof.Rows
theorem compTurnG_0 (elt t0 i0 t1 i1 : Expr) (ifs0 ifs1 : List Expr) (scope : Scope) (pos : Pos) (it acc : Value) (env : Env) :
    compTurn (.GeneratorExp elt [⟨t0, i0, ifs0, 0⟩, ⟨t1, i1, ifs1, 0⟩] scope pos) 0 it acc env = (do
      standAt i0.pos
      match ← pyNext it with
      | none => pure (.done .next)
      | some v =>
        letOwnedTupleGo t0 it v
        assign t0 env v
        let mut ok := true
        for c in ifs0 do
          if ok then ok ← isTrue c env (eval c env)
        if ok then
          let x ← eval i1 env
          standAt i1.pos
          let x ← foldedSetIterable i1 env x
          let _ ← runOwn (.compStart (.GeneratorExp elt [⟨t0, i0, ifs0, 0⟩, ⟨t1, i1, ifs1, 0⟩] scope pos) 1 (← holding [x] (pyIter x)) acc env) env
        again (.compLoop (.GeneratorExp elt [⟨t0, i0, ifs0, 0⟩, ⟨t1, i1, ifs1, 0⟩] scope pos) 0 it acc env)) := by rfl
theorem compTurnG_1 (elt t0 i0 t1 i1 : Expr) (ifs0 ifs1 : List Expr) (scope : Scope) (pos : Pos) (it acc : Value) (env : Env) :
    compTurn (.GeneratorExp elt [⟨t0, i0, ifs0, 0⟩, ⟨t1, i1, ifs1, 0⟩] scope pos) 1 it acc env = (do
      standAt i1.pos
      match ← pyNext it with
      | none => pure (.done .next)
      | some v =>
        letOwnedTupleGo t1 it v
        assign t1 env v
        let mut ok := true
        for c in ifs1 do
          if ok then ok ← isTrue c env (eval c env)
        if ok then
          (do let v ← eval elt env; standAt elt.pos; let _ ← yieldOut env v)
        again (.compLoop (.GeneratorExp elt [⟨t0, i0, ifs0, 0⟩, ⟨t1, i1, ifs1, 0⟩] scope pos) 1 it acc env)) := by rfl
theorem over_genA {A : Around} {elt tg iter tg1 iter1 : Expr} {ifs ifs1 : List Expr} {scope : Scope} {pos : Pos} {it acc : Value} {env : Env} : A.over (.compLoop (.GeneratorExp elt [⟨tg, iter, ifs, 0⟩, ⟨tg1, iter1, ifs1, 0⟩] scope pos) 0 it acc env) [] = A.deeper env := by
  first
    | rfl
    | (obtain ⟨hd, d, fr, gs, u⟩ := A; simp [Around.over, Around.deeper, marksOver, frameCount, unitsOf, envsOf, guardsOf, pushEnvs, pushGuards, Code.envs, Code.env?, Code.isFrame, Code.guards, Code.isGuard, Code.weight, Code.frames, Code.isCreation, Code.isCaller, Code.cUnits])
/-- a state in which the generator stands: what it keeps -/
def SOk (G : Cx) (pg : List (Addr × Obj)) (σ : St) (g : Nat) (S : Hp → Shared → Prop) : Prop := (∀ H s, S H s → Inv G pg σ H s ∧ g + 1 ≤ s.gens.size) ∧ ∀ H s gs, S H s → GenState.bare gs = true → S H (s.setGen g gs)
def GYX (G : Cx) (pg : List (Addr × Obj)) (σ : St) (g : Nat) (QF : Hp → Prop) : Protocol := fun _ _ v s kap =>
  ∃ (S : Hp → Shared → Prop) (b : Bool) (H' : Hp), v = .bool b ∧ SOk G pg σ g S ∧ S H' s ∧ (b = true → ∀ s'', S H' s'' → kap (.send .none) s'') ∧ (b = false → QF H')
section
variable {X : Cx} {s1 : Shared} {H1 : Hp} {cenv : Env} {fp : List Addr} {pg : List (Addr × Obj)} {σ : St} {vs vs1 : List Nat} {tn : Nat → Heap → Prop} {g it : Nat} {J : It} {N Mx : Nat} {W : Nat → Hp → Prop} {QT QF : Hp → Prop}
  {elt tg iter tg1 iter1 : Expr} {ifs ifs1 : List Expr} {scope : Scope} {pos : Pos} {tg' tg1' : TG} {tt tt1 : TT} {te : TE} {wi1 : TI}
theorem all_genX {a : Addr} {RR : Result → Shared → Prop} (hh : X.A.handled = none) (hroom : X.A.depth < recursionLimit) (hgen : ∀ s H, Inv (X.gen s1 H1 cenv fp) pg σ H s → s.heap.IsGen a g)
    (hT : ∀ s' H', Inv (X.gen s1 H1 cenv fp) pg σ H' s' → QT H' → RR (.ok (.ret (.bool true))) s') (hF : ∀ s' H', Inv (X.gen s1 H1 cenv fp) pg σ H' s' → QF H' → RR (.ok (.ret (.bool false))) s') :
    ∀ (n : Nat) (S : Hp → Shared → Prop) (s : Shared) (H : Hp) (gs : GenState), SOk (X.gen s1 H1 cenv fp) pg σ g S → S H s → s.gens[g]? = some gs →
      (∀ s'', S H s'' → gs.Goes (model X.prog X.w) X.A.in1.in1 (fun n s₀ r s₁ => r = .ok .next ∧ GR (X.gen s1 H1 cenv fp) pg σ g QT n s₀ s₁) (GYX (X.gen s1 H1 cenv fp) pg σ g QF) n (.send .none) s'') →
      codeAny (model X.prog X.w) X.A (.builtin "all.loop" ⟨[.ref a], []⟩) RR s := by
  intro n
  induction n with
  | zero =>
    intro S s H gs ok hS hgs hgo
    obtain ⟨I, gl⟩ := ok.1 H s hS
    refine codeAny_builtin F.entry_all_loop ?_
    rw [Around.under_plainId F.plain_all_loop _]
    show wpAny _ X.A.in1 (pyNext (.ref a) >>= _) _ _ s
    refine wpAny_bind (wpAny_pyNext_genexpQ (P := GR (X.gen s1 H1 cenv fp) pg σ g QT) hh I.nolimit hroom (hgen s H I) hgs (hgo _ (ok.2 _ _ _ hS rfl)) (fun v s₁ gs' hb hv => ?_) (fun s₁ hp h' hk => ?_))
    · obtain ⟨S', b, H', rfl, ok', hS', kap, q⟩ := hv
      cases b with
      | true => exact False.elim (kap rfl _ hS')
      | false =>
        refine wpAny_bind (wpAny_holding (wpAny_truthy_bool ?_))
        refine wpAny_bind (wpAny_letGo ?_)
        exact wpAny_bind (wpAny_rule (wpAny_pure (hF _ H' ((ok'.1 _ _ hS').1.setGen hb) (q rfl))))
    · obtain ⟨H', I', gl', qt⟩ := hp
      exact wpAny_bind (wpAny_rule (wpAny_pure (hT _ H' ((I'.setGen (gs := .finished) rfl).kept hk) qt)))
  | succ n ih =>
    intro S s H gs ok hS hgs hgo
    obtain ⟨I, gl⟩ := ok.1 H s hS
    refine codeAny_builtin F.entry_all_loop ?_
    rw [Around.under_plainId F.plain_all_loop _]
    show wpAny _ X.A.in1 (pyNext (.ref a) >>= _) _ _ s
    refine wpAny_bind (wpAny_pyNext_genexpQ (P := GR (X.gen s1 H1 cenv fp) pg σ g QT) hh I.nolimit hroom (hgen s H I) hgs (hgo _ (ok.2 _ _ _ hS rfl)) (fun v s₁ gs' hb hv => ?_) (fun s₁ hp h' hk => ?_))
    · obtain ⟨S', b, H', rfl, ok', hS', kap, q⟩ := hv
      cases b with
      | true =>
        refine wpAny_bind (wpAny_holding (wpAny_truthy_bool ?_))
        refine wpAny_bind (wpAny_letGo ?_)
        refine wpAny_pure ⟨plainId_quiet F.plain_all_loop _, ih S' _ H' gs' ok' (ok'.2 _ _ _ hS' hb) ?_ (kap rfl)⟩
        have := (ok'.1 _ _ hS').2
        simp only [Shared.setGen]
        exact Array.getElem?_setIfInBounds_self_of_lt (by omega)
      | false =>
        refine wpAny_bind (wpAny_holding (wpAny_truthy_bool ?_))
        refine wpAny_bind (wpAny_letGo ?_)
        exact wpAny_bind (wpAny_rule (wpAny_pure (hF _ H' ((ok'.1 _ _ hS').1.setGen hb) (q rfl))))
    · obtain ⟨H', I', gl', qt⟩ := hp
      exact wpAny_bind (wpAny_rule (wpAny_pure (hT _ H' ((I'.setGen (gs := .finished) rfl).kept hk) qt)))
abbrev e2X (elt tg iter tg1 iter1 : Expr) (ifs ifs1 : List Expr) (scope : Scope) (pos : Pos) : Expr := .GeneratorExp elt [⟨tg, iter, ifs, 0⟩, ⟨tg1, iter1, ifs1, 0⟩] scope pos
theorem seg_runOwn {M : Model} {A : Around} {R : GenEnd} {Y : Protocol} {n : Nat} {s₀ s : Shared} {c c' : Code} {fs : List Frame} {α : Type} {env : Env} {K : Flow → Sem α} {K' : α → Sem PySem.Fin} {H' : Value → Sem PySem.Fin} {gd lv}
    (h : ∀ (p : Pos) (kk : Result → Sem PySem.Fin), (∀ n' s₀' f s', Seg M A R Y n' s₀' c ((K f).wrap K' H' gd lv) fs s' → Seg M A R Y n' s₀' c (kk (.ok f)) fs s') → Seg M A R Y n s₀ c' (M.den c') (.ret kk none (gd false) (lv []) c p [] :: fs) s) :
    Seg M A R Y n s₀ c ((runOwn c' env >>= K).wrap K' H' gd lv) fs s := seg_call fun p => h p _ fun _ _ _ _ h' => h'
theorem seg_start1 {A : Around} (T1 : Turn X.prog X.w X.K tg1 J fp it tn) {n : Nat} {s₀ s : Shared} {R : GenEnd} {Y : Protocol} {fs : List Frame} (hst : tn 0 s.heap)
    (loop : Seg (model X.prog X.w) A R Y n s₀ (.compLoop (e2X elt tg iter tg1 iter1 ifs ifs1 scope pos) 1 (.ref it) .none cenv) ((model X.prog X.w).den (.compLoop (e2X elt tg iter tg1 iter1 ifs ifs1 scope pos) 1 (.ref it) .none cenv)) fs s) :
    Seg (model X.prog X.w) A R Y n s₀ (.compStart (e2X elt tg iter tg1 iter1 ifs ifs1 scope pos) 1 (.ref it) .none cenv) ((model X.prog X.w).den (.compStart (e2X elt tg iter tg1 iter1 ifs ifs1 scope pos) 1 (.ref it) .none cenv)) fs s := by
  show Seg _ _ _ _ _ s₀ _ ((compStart (e2X elt tg iter tg1 iter1 ifs ifs1 scope pos) 1 (.ref it) .none cenv).onRaise (fun x => do noteFrame x cenv; standAt theWindowsPlace)) fs s
  unfold compStart
  rw [Sem.onRaise_eq_wrap]
  show Seg _ _ _ _ _ s₀ _ ((ask >>= _).wrap _ _ _ _) fs s
  refine seg_bind_wrap (wpAny_askSetting ?_)
  split
  · exact seg_again rfl loop
  · first
      | exact seg_bind_wrap (wpAny_rule (seg_bind_wrap (wpAny_standAt (seg_bind_wrap (T1.self _ 0 s _ _ hst (seg_again rfl loop))))))
      | (refine seg_bind_wrap (wpAny_rule ?_); show Seg _ _ _ _ _ s₀ _ ((standAt iter1.pos >>= _).wrap _ _ _ _) fs s; exact seg_bind_wrap (wpAny_standAt (seg_bind_wrap (T1.self _ 0 s _ _ hst (seg_again rfl loop)))))
theorem seg_gen2 (hc : X.calm = true) (T : Turn X.prog X.w X.K tg J fp it tn) (stat : ∀ {H' : Hp}, (∀ b ∈ fp, H' b = none) → ∀ b ∈ fp, FpOk (X.gen s1 H1 cenv fp) pg H' b)
    (hg : PG (X.gen s1 H1 cenv fp) tg tg') (ht : PTs (X.gen s1 H1 cenv fp) ifs tt) (hi1 : PI (X.gen s1 H1 cenv fp) tg1 iter1 wi1) (hg1 : PG (X.gen s1 H1 cenv fp) tg1 tg1') (ht1 : PTs (X.gen s1 H1 cenv fp) ifs1 tt1) (he : PE (X.gen s1 H1 cenv fp) elt te) (hco : cenv.scope.isCoroutine = false)
    (hs1 : ∀ x, foldedSetIterable iter1 cenv x = pure x) (hv : ∀ i ∈ vs1, i ∈ vs)
    (step : ∀ i H, W i H → (J.stop i H ∧ QT H) ∨ (J.go i H ∧ i < N ∧ ∀ x H', J.yld i H x H' → tg' x (wipe σ vs) H' fun σ2 H3 => wipe σ2 vs = wipe σ vs ∧ tt σ2 H3 fun b H4 =>
      if b = true then wi1 σ2 H4 fun J1 H5 => ∃ W1 : Nat → Hp → Prop, W1 0 H5 ∧ ∀ j H, W1 j H → (J1.stop j H ∧ W (i + 1) H) ∨ (J1.go j H ∧ j < Mx ∧ ∀ x H', J1.yld j H x H' → tg1' x (wipe σ2 vs1) H' fun σ3 H6 => wipe σ3 vs1 = wipe σ2 vs1 ∧ tt1 σ3 H6 fun b H7 =>
          if b = true then te σ3 H7 fun y H8 => ∃ c, y = .bl c ∧ (if c = true then W1 (j + 1) H8 else QF H8) else W1 (j + 1) H7)
      else W (i + 1) H4)) :
    ∀ (k i n : Nat) (s₀ s : Shared) (H : Hp), N - i = k → k * Mx ≤ n → GI (X.gen s1 H1 cenv fp) pg (wipe σ vs) fp tn g i H s → W i H →
      Seg (model X.prog X.w) X.A.in1.in1 (fun n s₀ r s₁ => r = .ok .next ∧ GR (X.gen s1 H1 cenv fp) pg (wipe σ vs) g QT n s₀ s₁) (GYX (X.gen s1 H1 cenv fp) pg (wipe σ vs) g QF) n s₀
        (.compLoop (e2X elt tg iter tg1 iter1 ifs ifs1 scope pos) 0 (.ref it) .none cenv) ((model X.prog X.w).den (.compLoop (e2X elt tg iter tg1 iter1 ifs ifs1 scope pos) 0 (.ref it) .none cenv)) [] s := by
  have ov : ∀ {α : Type} {m : Sem α} {Q : α → Shared → Prop} {E : Value → Shared → Prop} {s : Shared}, wpAny (model X.prog X.w) (X.gen s1 H1 cenv fp).A m Q E s →
      wpAny (model X.prog X.w) (X.A.in1.in1.over (.compLoop (e2X elt tg iter tg1 iter1 ifs ifs1 scope pos) 0 (.ref it) .none cenv) []) m Q E s := fun h => by rw [over_genA]; exact h
  intro k
  induction k with
  | zero =>
    intro i n s₀ s H hk hn gi w
    show Seg _ _ _ _ _ s₀ _ ((compTurn (.GeneratorExp elt [⟨tg, iter, ifs, 0⟩, ⟨tg1, iter1, ifs1, 0⟩] scope pos) 0 (.ref it) .none cenv).onRaise (leaving cenv)) [] s
    rw [compTurnG_0, Sem.onRaise_eq_wrap]
    refine seg_bind_wrap (wpAny_standAt ?_)
    rcases step i H w with ⟨stop, qt⟩ | ⟨_, hlt, _⟩
    · refine seg_bind_wrap (ov (GenW.wpAny_gsz gi.gl (thnF (T.done (X.gen s1 H1 cenv fp) rfl rfl rfl hc i pg s _ H (fun _ _ => False) gi.inv (stat gi.fr) gi.st stop) fun r s6 ⟨hr, I6⟩ => ?_)))
      subst hr
      exact fun gl => seg_end (.ok .next) ⟨rfl, H, I6, gl, qt⟩
    · omega
  | succ k ih =>
    intro i n s₀ s H hk hn gi w
    show Seg _ _ _ _ _ s₀ _ ((compTurn (.GeneratorExp elt [⟨tg, iter, ifs, 0⟩, ⟨tg1, iter1, ifs1, 0⟩] scope pos) 0 (.ref it) .none cenv).onRaise (leaving cenv)) [] s
    rw [compTurnG_0, Sem.onRaise_eq_wrap]
    refine seg_bind_wrap (wpAny_standAt ?_)
    rcases step i H w with ⟨stop, qt⟩ | ⟨go, hlt, step⟩
    · refine seg_bind_wrap (ov (GenW.wpAny_gsz gi.gl (thnF (T.done (X.gen s1 H1 cenv fp) rfl rfl rfl hc i pg s _ H (fun _ _ => False) gi.inv (stat gi.fr) gi.st stop) fun r s6 ⟨hr, I6⟩ => ?_)))
      subst hr
      exact fun gl => seg_end (.ok .next) ⟨rfl, H, I6, gl, qt⟩
    · refine seg_bind_wrap (ov (GenW.wpAny_gsz gi.gl (thnF (T.item (X.gen s1 H1 cenv fp) rfl rfl rfl hc i pg s _ H (fun _ _ => False) gi.inv (stat gi.fr) gi.st go) fun r s4 ⟨u, hr, h4⟩ => ?_)))
      subst hr
      intro gl4
      refine seg_bind_wrap (ov (GenW.wpAny_gsz gl4 (thnF h4 fun _ s5 ⟨x, H5, I5, r5, y5, st5, fr5⟩ => ?_)))
      intro gl5
      have I5' := I5.pinned (stat fr5) (T.obj _ _ st5)
      refine seg_bind_wrap (ov (GenW.wpAny_gsz gl5 (thnF (hg.run _ s5 _ H5 x u _ I5' r5 (step x H5 y5)) fun _ s6 ⟨σ6, H6, I6, hw6, q6⟩ => ?_)))
      intro gl6
      refine seg_bind_wrap (ov (GenW.wpAny_gsz gl6 (thnF (ht.run _ s6 σ6 H6 _ I6 q6) fun b s7 ⟨H7, I7, q7⟩ => ?_)))
      intro gl7
      have hl6 : (wipe σ vs).length = σ6.length := by rw [← hw6, wipe_length]
      have fin : ∀ {σ' : St} {s' : Shared} {H' : Hp}, Inv (X.gen s1 H1 cenv fp) (pg ++ pinsAt fp s5.heap) σ' H' s' → σ'.length = σ6.length → (∀ (j : Nat) v, (wipe σ vs)[j]? = some (some v) → σ'[j]? = some (some v)) → g + 1 ≤ s'.gens.size → GI (X.gen s1 H1 cenv fp) pg (wipe σ vs) fp tn g (i + 1) H' s' := fun {σ' s' H'} I' hl hk gl => by
        have pin' : ∀ b ∈ fp, ∀ o, s5.heap.get? b = some o → s'.heap.get? b = some o ∧ H' b = none := fun b hb o e =>
          let z := I'.pin (b, o) (List.mem_append_right _ (List.mem_append_right _ (mem_pinsAt hb e)))
          ⟨z.1, z.2.1⟩
        refine ⟨(I'.unpinned (pins := pg)).weak (hl6.trans hl.symm) hk, T.keep _ _ _ st5 fun b hb o e => (pin' b hb o e).1, fun b hb => ?_, gl⟩
        obtain ⟨o, e, _⟩ := T.obj _ _ st5 b hb
        exact (pin' b hb o e).2
      have hk6 : ∀ (j : Nat) v, (wipe σ vs)[j]? = some (some v) → σ6[j]? = some (some v) := fun j v e => by
        rw [← hw6] at e
        exact (wipe_some e).1
      have hle : k * Mx ≤ n := Nat.le_trans (Nat.mul_le_mul_right _ (Nat.le_succ k)) hn
      cases b with
      | false =>
        simp only [Bool.false_eq_true, if_false] at q7 ⊢
        exact seg_again rfl (ih (i + 1) n s₀ s7 H7 (by omega) hle (fin I7 rfl hk6 gl7) q7)
      | true =>
        simp only [if_true] at q7 ⊢
        refine seg_bind_wrap (ov (GenW.wpAny_gsz gl7 (thnF (hi1.run _ s7 σ6 H7 _ I7 q7) fun xv s8 hx => ?_)))
        intro gl8
        refine seg_bind_wrap (wpAny_standAt ?_)
        rw [hs1]
        refine seg_bind_wrap (wpAny_pure ?_)
        refine seg_bind_wrap (wpAny_holding (ov (GenW.wpAny_gsz gl8 (thnF hx fun itv s9 h9 => ?_))))
        intro gl9
        obtain ⟨it1, fp1, tn1, J1, H9, e1, I9, T1, st9, f9, W1, w1, turn1⟩ := h9
        subst e1
        refine seg_runOwn fun p kk hkk => ?_
        have ov1 : ∀ {α : Type} {m : Sem α} {Q : α → Shared → Prop} {E : Value → Shared → Prop} {s : Shared}, wpAny (model X.prog X.w) (X.gen s1 H1 cenv fp).A m Q E s →
            wpAny (model X.prog X.w) (X.A.in1.in1.over (.compLoop (e2X elt tg iter tg1 iter1 ifs ifs1 scope pos) 1 (.ref it1) .none cenv) [.ret kk none (id false) (id []) (.compLoop (e2X elt tg iter tg1 iter1 ifs ifs1 scope pos) 0 (.ref it) .none cenv) p []]) m Q E s := fun h => by
          rw [GenW.over_loop (c' := .compLoop (e2X elt tg iter tg1 iter1 ifs ifs1 scope pos) 1 (.ref it1) .none cenv) rfl rfl, over_genA]; exact h
        have stat1 : ∀ {H' : Hp}, (∀ b ∈ fp1, H' b = none) → ∀ b ∈ fp1, FpOk (X.gen s1 H1 cenv fp) (pg ++ pinsAt fp s5.heap) H' b := fun hn b hb => ⟨hn b hb, (f9 b hb).2⟩
        have hk9 : ∀ (j : Nat) v, (wipe σ vs)[j]? = some (some v) → (wipe σ6 vs1)[j]? = some (some v) := fun j v e => by
          rw [← hw6] at e
          obtain ⟨e1, e2⟩ := wipe_some e
          rw [wipe_out fun z => e2 (hv j z)]
          exact e1
        have loop : ∀ (k1 j n : Nat) (s₀ s : Shared) (H : Hp), Mx - j = k1 → k1 + k * Mx ≤ n → GI (X.gen s1 H1 cenv fp) (pg ++ pinsAt fp s5.heap) (wipe σ6 vs1) fp1 tn1 g j H s → W1 j H →
            Seg (model X.prog X.w) X.A.in1.in1 (fun n s₀ r s₁ => r = .ok .next ∧ GR (X.gen s1 H1 cenv fp) pg (wipe σ vs) g QT n s₀ s₁) (GYX (X.gen s1 H1 cenv fp) pg (wipe σ vs) g QF) n s₀
              (.compLoop (e2X elt tg iter tg1 iter1 ifs ifs1 scope pos) 1 (.ref it1) .none cenv) ((model X.prog X.w).den (.compLoop (e2X elt tg iter tg1 iter1 ifs ifs1 scope pos) 1 (.ref it1) .none cenv))
              [.ret kk none (id false) (id []) (.compLoop (e2X elt tg iter tg1 iter1 ifs ifs1 scope pos) 0 (.ref it) .none cenv) p []] s := by
          intro k1
          induction k1 with
          | zero =>
            intro j n s₀ s H hk1 hn1 gi1 w1
            show Seg _ _ _ _ _ s₀ _ ((compTurn (.GeneratorExp elt [⟨tg, iter, ifs, 0⟩, ⟨tg1, iter1, ifs1, 0⟩] scope pos) 1 (.ref it1) .none cenv).onRaise (fun x => do noteFrame x cenv; theTreesLotGoes x)) _ s
            rw [compTurnG_1, Sem.onRaise_eq_wrap]
            refine seg_bind_wrap (wpAny_standAt ?_)
            rcases turn1 j H w1 with ⟨stop1, nx⟩ | ⟨_, hlt1, _⟩
            · refine seg_bind_wrap (ov1 (GenW.wpAny_gsz gi1.gl (thnF (T1.done (X.gen s1 H1 cenv fp) rfl rfl rfl hc j _ s _ H (fun _ _ => False) gi1.inv (stat1 gi1.fr) gi1.st stop1) fun r s10 ⟨hr, I10⟩ => ?_)))
              subst hr
              exact fun gl => seg_leaf (.ok .next) (hkk _ _ _ _ (seg_again rfl (ih (i + 1) n s₀ s10 H (by omega) (by omega) (fin I10 (wipe_length _ _) hk9 gl) nx)))
            · omega
          | succ k1 ih1 =>
            intro j n s₀ s H hk1 hn1 gi1 w1
            show Seg _ _ _ _ _ s₀ _ ((compTurn (.GeneratorExp elt [⟨tg, iter, ifs, 0⟩, ⟨tg1, iter1, ifs1, 0⟩] scope pos) 1 (.ref it1) .none cenv).onRaise (fun x => do noteFrame x cenv; theTreesLotGoes x)) _ s
            rw [compTurnG_1, Sem.onRaise_eq_wrap]
            refine seg_bind_wrap (wpAny_standAt ?_)
            rcases turn1 j H w1 with ⟨stop1, nx⟩ | ⟨go1, hlt1, step1⟩
            · refine seg_bind_wrap (ov1 (GenW.wpAny_gsz gi1.gl (thnF (T1.done (X.gen s1 H1 cenv fp) rfl rfl rfl hc j _ s _ H (fun _ _ => False) gi1.inv (stat1 gi1.fr) gi1.st stop1) fun r s10 ⟨hr, I10⟩ => ?_)))
              subst hr
              exact fun gl => seg_leaf (.ok .next) (hkk _ _ _ _ (seg_again rfl (ih (i + 1) n s₀ s10 H (by omega) (by omega) (fin I10 (wipe_length _ _) hk9 gl) nx)))
            · refine seg_bind_wrap (ov1 (GenW.wpAny_gsz gi1.gl (thnF (T1.item (X.gen s1 H1 cenv fp) rfl rfl rfl hc j _ s _ H (fun _ _ => False) gi1.inv (stat1 gi1.fr) gi1.st go1) fun r s10 ⟨u1, hr, h10⟩ => ?_)))
              subst hr
              intro gl10
              refine seg_bind_wrap (ov1 (GenW.wpAny_gsz gl10 (thnF h10 fun _ s11 ⟨x1, H11, I11, r11, y11, st11, fr11⟩ => ?_)))
              intro gl11
              have I11' := I11.pinned (stat1 fr11) (T1.obj _ _ st11)
              refine seg_bind_wrap (ov1 (GenW.wpAny_gsz gl11 (thnF (hg1.run _ s11 _ H11 x1 u1 _ I11' r11 (step1 x1 H11 y11)) fun _ s12 ⟨σ12, H12, I12, hw12, q12⟩ => ?_)))
              intro gl12
              refine seg_bind_wrap (ov1 (GenW.wpAny_gsz gl12 (thnF (ht1.run _ s12 σ12 H12 _ I12 q12) fun b1 s13 ⟨H13, I13, q13⟩ => ?_)))
              intro gl13
              have hl12 : (wipe σ6 vs1).length = σ12.length := by rw [← hw12, wipe_length]
              have fin1 : ∀ {s' : Shared} {H' : Hp}, Inv (X.gen s1 H1 cenv fp) ((pg ++ pinsAt fp s5.heap) ++ pinsAt fp1 s11.heap) σ12 H' s' → g + 1 ≤ s'.gens.size → GI (X.gen s1 H1 cenv fp) (pg ++ pinsAt fp s5.heap) (wipe σ6 vs1) fp1 tn1 g (j + 1) H' s' := fun {s' H'} I' gl => by
                have pin' : ∀ b ∈ fp1, ∀ o, s11.heap.get? b = some o → s'.heap.get? b = some o ∧ H' b = none := fun b hb o e =>
                  let z := I'.pin (b, o) (List.mem_append_right _ (List.mem_append_right _ (mem_pinsAt hb e)))
                  ⟨z.1, z.2.1⟩
                refine ⟨(I'.unpinned (pins := pg ++ pinsAt fp s5.heap)).weak hl12 (fun j v e => ?_), T1.keep _ _ _ st11 fun b hb o e => (pin' b hb o e).1, fun b hb => ?_, gl⟩
                · rw [← hw12] at e
                  exact (wipe_some e).1
                · obtain ⟨o, e, _⟩ := T1.obj _ _ st11 b hb
                  exact (pin' b hb o e).2
              cases b1 with
              | false =>
                simp only [Bool.false_eq_true, if_false] at q13 ⊢
                exact seg_again rfl (ih1 (j + 1) n s₀ s13 H13 (by omega) (by omega) (fin1 I13 gl13) q13)
              | true =>
                simp only [if_true] at q13 ⊢
                have hy : ∀ v, yieldOut cenv v = yieldValue v := fun v => by simp only [yieldOut, hco, Bool.false_eq_true, if_false]
                simp only [hy]
                rw [Sem.bind_eq_wrap', Sem.bind_eq_wrap', Sem.wrap_wrap, Sem.wrap_wrap]
                refine seg_wrap (ov1 (GenW.wpAny_gsz gl13 (thnF (he.run _ s13 σ12 H13 _ I13 q13) fun y s14 ⟨yv, H14, I14, r14, c, hc14, q14⟩ => ?_)))
                intro gl14
                subst hc14
                cases r14
                obtain ⟨n', rfl⟩ : ∃ n', n = n' + 1 := ⟨n - 1, by omega⟩
                refine seg_at (seg_yield rfl rfl rfl ⟨fun H s => GI (X.gen s1 H1 cenv fp) (pg ++ pinsAt fp s5.heap) (wipe σ6 vs1) fp1 tn1 g (j + 1) H s ∧ (c = true → W1 (j + 1) H), c, H14, rfl, ⟨fun H s h => ⟨(h.1.inv.unpinned (pins := pg)).weak (hl6.trans (wipe_length _ _).symm) hk9, h.1.gl⟩, fun H s gs h hb => ⟨h.1.setGen hb, h.2⟩⟩, ⟨fin1 I14 gl14, fun e => ?_⟩, fun e s'' h => ?_, fun e => ?_⟩)
                · rw [if_pos e] at q14; exact q14
                · exact seg_again rfl (ih1 (j + 1) n' s'' s'' H14 (by omega) (by omega) h.1 (h.2 e))
                · rw [e, if_neg Bool.false_ne_true] at q14; exact q14
        exact seg_start1 T1 st9 (loop Mx 0 n s₀ s9 H9 (Nat.sub_zero _) (by rw [Nat.add_comm, ← Nat.succ_mul]; exact hn) ⟨I9.weak (wipe_length _ _) (fun j v e => (wipe_some e).1), st9, fun b hb => (f9 b hb).1, gl9⟩ w1)
end
end L2

set_option Elab.async false
set_option linter.all false
set_option maxRecDepth 100000
set_option maxHeartbeats 4000000
namespace L2
open PySem PySem.Spec PyProof.Rows
theorem sok_gi {G : Cx} {pg : List (Addr × Obj)} {σ : St} {fp : List Addr} {tn : Nat → Heap → Prop} {g i : Nat} {W : Nat → Hp → Prop} : SOk G pg σ g (fun H s => GI G pg σ fp tn g i H s ∧ W i H) :=
  ⟨fun _ _ h => ⟨h.1.inv, h.1.gl⟩, fun _ _ _ h hb => ⟨h.1.setGen hb, h.2⟩⟩
/-- the generator is made -/
theorem make_gen2 {M : Model} {A : Around} {E : Value → Shared → Prop} {s : Shared} {env : Env} {elt tg iter tg1 iter1 : Expr} {ifs ifs1 : List Expr} {scope : Scope} {cl : List (Str × Addr)} {pos : Pos} {Q : Value → Shared → Prop}
    (k1 : scope.isCoroutine = false) (k2 : closureFor scope env = pure cl) (k3 : ∀ y ∈ scope.names, y.2 ≠ .cell) (k4 : scope.names.lookup (".0" : Str) = some NameKind.local) (k5 : scope.kind = .function) (k6 : A.depth < recursionLimit)
    (q : wpAny M A (eval iter env) (fun xv t1 => wpAny M A (pyIter xv) (fun it t2 => t2.heap.NoLimit ∧ wpAny M A (genexprCode env pos (env.qual ++ "<genexpr>") scope) (fun code t3 => wpAny M A (builtinsFor env.globals env.builtins) (fun bi t4 =>
        ∀ h', h'.Ns t4.heap.objs.size (fun y => if y = ".0" then some it else none) → Heap.SameBut t4.heap.objs.size (t4.heap.push { cls := .type "frame", data := .dict #[] }) h' →
          Q (.ref h'.objs.size) { t4 with
            gens := t4.gens.push (.fresh (.compStart (e2X elt tg iter tg1 iter1 ifs ifs1 scope pos) 0 it .none (genEnv scope cl t4.heap.objs.size code bi env))),
            toks := t4.toks + 1 + 1 + 1,
            heap := h'.push { cls := .type "generator", data := .fields #[.int t4.gens.size 0, .str "<genexpr>" (t4.toks + 1), .str (env.qual ++ "<genexpr>") (t4.toks + 1 + 1)] } }) E t3) E t2) E t1) E s)
    (k7 : ∀ x, genFold iter env x = pure x) : wpAny M A (eval (e2X elt tg iter tg1 iter1 ifs ifs1 scope pos) env) Q E s := by
  have ev : eval (e2X elt tg iter tg1 iter1 ifs ifs1 scope pos) env = (do
      let x0 ← eval iter env
      standAt iter.pos
      let x0 ← genFold iter env x0
      let i0 ← holding [x0] (pyIter x0)
      enterFrame
      let c0 ← closureFor scope env
      let co ← genexprCode env pos (env.qual ++ "<genexpr>") scope
      let b0 ← builtinsFor env.globals env.builtins
      let e0 ← newFunctionEnv scope env.globals c0 [(".0", i0)] (env.qual ++ "<genexpr>.") none co none b0
      newGenerator (.compStart (e2X elt tg iter tg1 iter1 ifs ifs1 scope pos) 0 i0 .none e0) "<genexpr>" (env.qual ++ "<genexpr>")) := by
    rw [arm_eval_GeneratorExp]
    simp only [k1, Bool.false_eq_true, if_false]
    cases iter <;> rfl
  rw [ev, k2]
  refine wpAny_bind (wpAny_mono q (fun xv t1 q1 => ?_) fun _ _ z => z)
  refine wpAny_bind (wpAny_standAt (wpAny_bind (wpAny_of_eq (k7 xv) (wpAny_bind (wpAny_holding (wpAny_mono q1 (fun it t2 q2 => ?_) fun _ _ z => z))))))
  refine wpAny_bind (wpAny_enterFrame q2.1 k6 (wpAny_bind (wpAny_pure (wpAny_bind (wpAny_mono q2.2 (fun code t3 q3 => ?_) fun _ _ z => z)))))
  refine wpAny_bind (wpAny_mono q3 (fun bi t4 q4 => ?_) fun _ _ z => z)
  have one : ∀ y ∈ ([((".0" : Str), it)] : List (Str × Value)), scope.names.lookup y.1 = some NameKind.local := fun y hy => by
    rw [List.mem_singleton.mp hy]; exact k4
  refine wpAny_bind (wpAny_newFunctionEnv k3 one (fun h' n1 n2 => ?_) k5)
  have same : (fun y : Str => ([((".0" : Str), it)] : List (Str × Value)).reverse.lookup y) = fun y : Str => if y = (".0" : Str) then some it else none := funext fun y => by
    by_cases hy : y = ".0"
    · subst hy; simp
    · have z : (y == (".0" : Str)) = false := by simpa using hy
      simp [List.lookup, z, hy]
  rw [same] at n1
  simp only [newGenerator, newFields]
  exact wpAny_bind (wpAny_newGen (wpAny_bind (wpAny_mkText (wpAny_bind (wpAny_mkText (wpAny_newObj_type (q4 h' n1 n2) (by size_fits)))))))
theorem seg_gen02 {X : Cx} {cenv : Env} {fp : List Addr} {tn : Nat → Heap → Prop} {it : Nat} {J : It} {elt tg iter tg1 iter1 : Expr} {ifs ifs1 : List Expr} {scope : Scope} {pos : Pos} (T : Turn X.prog X.w X.K tg J fp it tn) {n : Nat} {s₀ s : Shared} {R : GenEnd} {Y : Protocol} (hst : tn 0 s.heap)
    (loop : Seg (model X.prog X.w) X.A.in1.in1 R Y n s₀ (.compLoop (e2X elt tg iter tg1 iter1 ifs ifs1 scope pos) 0 (.ref it) .none cenv) ((model X.prog X.w).den (.compLoop (e2X elt tg iter tg1 iter1 ifs ifs1 scope pos) 0 (.ref it) .none cenv)) [] s) :
    Seg (model X.prog X.w) X.A.in1.in1 R Y n s₀ (.compStart (e2X elt tg iter tg1 iter1 ifs ifs1 scope pos) 0 (.ref it) .none cenv) ((model X.prog X.w).den (.compStart (e2X elt tg iter tg1 iter1 ifs ifs1 scope pos) 0 (.ref it) .none cenv)) [] s := by
  show Seg _ _ _ _ _ s₀ _ ((compStart (e2X elt tg iter tg1 iter1 ifs ifs1 scope pos) 0 (.ref it) .none cenv).onRaise (leaving cenv)) [] s
  unfold compStart
  rw [Sem.onRaise_eq_wrap]
  show Seg _ _ _ _ _ s₀ _ ((ask >>= _).wrap _ _ _ _) [] s
  refine seg_bind_wrap (wpAny_askSetting ?_)
  split
  · exact seg_again rfl loop
  · first
      | exact seg_bind_wrap (wpAny_rule (seg_bind_wrap (wpAny_standAt (seg_bind_wrap (T.self _ 0 s _ _ hst (seg_again rfl loop))))))
      | (refine seg_bind_wrap (wpAny_rule ?_); show Seg _ _ _ _ _ s₀ _ ((standAt iter.pos >>= _).wrap _ _ _ _) [] s; exact seg_bind_wrap (wpAny_standAt (seg_bind_wrap (T.self _ 0 s _ _ hst (seg_again rfl loop)))))
section
variable {X : Cx}
def tAllG2 (P : Addr) (wi : TI) (g : TG) (tt : TT) (wi1 : TI) (g1 : TG) (tt1 : TT) (te : TE) (vs vs1 : List Nat) : TE := fun σ H Q => wi σ H fun J H1 => GxR.TabG H1 P ∧ ∀ H2, GxR.Tabbed P H1 H2 → (∃ ps more, H1 P = some (.tbl ps) ∧ H2 = upd H1 P (.tbl (ps ++ more)) ∧ TriplesOk (ps ++ more).toList) → ∃ (N Mx : Nat) (W : Nat → Hp → Prop), W 0 H2 ∧
  ∀ i H, W i H → (J.stop i H ∧ Q (.bl true) H) ∨ (J.go i H ∧ i < N ∧ ∀ x H', J.yld i H x H' → g x (wipe σ vs) H' fun σ2 H3 => wipe σ2 vs = wipe σ vs ∧ tt σ2 H3 fun b H4 =>
      if b = true then wi1 σ2 H4 fun J1 H5 => ∃ W1 : Nat → Hp → Prop, W1 0 H5 ∧ ∀ j H, W1 j H → (J1.stop j H ∧ W (i + 1) H) ∨ (J1.go j H ∧ j < Mx ∧ ∀ x H', J1.yld j H x H' → g1 x (wipe σ2 vs1) H' fun σ3 H6 => wipe σ3 vs1 = wipe σ2 vs1 ∧ tt1 σ3 H6 fun b H7 =>
          if b = true then te σ3 H7 fun y H8 => ∃ c, y = .bl c ∧ (if c = true then W1 (j + 1) H8 else Q (.bl false) H8) else W1 (j + 1) H7)
      else W (i + 1) H4)
theorem pe_allG2 {c P : Addr} {elt tg iter tg1 iter1 : Expr} {ifs ifs1 : List Expr} {wi1 : TI} {g1 : TG} {tt1 : TT} {vs1 : List Nat} {scope : Scope} {own : List (Str × Nat)} {p pos gpos : Pos} {wi : TI} {g : TG} {tt : TT} {te : TE} {k : Nat} (hr : Room k X.A) (hc : X.calm = true) (hN : X.N.Nodup) (hm : X.mg "all" = none) (hb : bootBuiltins "all" = some (.builtin "all"))
    (TB : GxR.TabB X.base X.mg c P) (hcode : X.env.code = .ref c) (hi : PI X tg iter wi) (ok : BlkOk X.N X.env.scope scope own) (gk : GenK scope)
    (hg : ∀ (s : Shared) (H : Hp) (C : Addr) (code : Value) (fp : List Addr), PG (X.gen s H (genE X scope C code) fp) tg g) (ht : ∀ (s : Shared) (H : Hp) (C : Addr) (code : Value) (fp : List Addr), PTs (X.gen s H (genE X scope C code) fp) ifs tt)
    (hv1 : ∀ i ∈ vs1, i ∈ own.map (·.2)) (hi1 : ∀ (s : Shared) (H : Hp) (C : Addr) (code : Value) (fp : List Addr), PI (X.gen s H (genE X scope C code) fp) tg1 iter1 wi1)
    (hg1 : ∀ (s : Shared) (H : Hp) (C : Addr) (code : Value) (fp : List Addr), PG (X.gen s H (genE X scope C code) fp) tg1 g1) (ht1 : ∀ (s : Shared) (H : Hp) (C : Addr) (code : Value) (fp : List Addr), PTs (X.gen s H (genE X scope C code) fp) ifs1 tt1) (hs1 : ∀ env x, foldedSetIterable iter1 env x = pure x)
    (he : ∀ (s : Shared) (H : Hp) (C : Addr) (code : Value) (fp : List Addr), PE (X.gen s H (genE X scope C code) fp) elt te) (hgl : Gl X "all" := by rfl) (hs : ∀ v, genFold iter X.env v = pure v := by intro _; rfl)
    (hst : starEach [.GeneratorExp elt [⟨tg, iter, ifs, 0⟩, ⟨tg1, iter1, ifs1, 0⟩] scope gpos] X.env = (false, eval (.GeneratorExp elt [⟨tg, iter, ifs, 0⟩, ⟨tg1, iter1, ifs1, 0⟩] scope gpos) X.env) :: starEach [] X.env := by rfl) :
    PE X (.Call (.Name "all" p) [.GeneratorExp elt [⟨tg, iter, ifs, 0⟩, ⟨tg1, iter1, ifs1, 0⟩] scope gpos] [] pos) (tAllG2 P wi g tt wi1 g1 tt1 te (own.map (·.2)) vs1) := by
  refine ⟨fun pins s σ H Q I h => ?_⟩
  refine wpAny_Call_Name_kw (ld_blt I hgl hm hb ?_)
  refine PyProof.Rows.callWith_builtin1 ?_ hst (by rfl)
  rw [hst]
  show wpAny _ _ (spliced ((false, eval (.GeneratorExp elt [⟨tg, iter, ifs, 0⟩, ⟨tg1, iter1, ifs1, 0⟩] scope gpos) X.env) :: backTo pos (starEach [] X.env))) _ _ s
  have hfree : ∀ y ∈ scope.names, y.2 = .free → ∃ c, X.env.cells.lookup y.1 = some c := fun y hy e => by
    rcases ok.free y hy e with k | k
    · exact I.ok.has _ (.inl k)
    · exact I.ok.has _ (.inr k)
  have hdp : X.A.depth < recursionLimit := by have := hr.dp; omega
  refine Calls.spliced_cons (make_gen2 gk.co (closure_ok hfree) gk.cell gk.dot ok.kind hdp (thn (hi.run pins s σ H _ I h) fun xv s1 hx => thn hx fun itv s2 h2 => ?_) hs)
  obtain ⟨it, fp, tn, J, H2, e, I2, T, st2, f2, ⟨ps, hP, htr⟩, q⟩ := h2
  subst e
  refine ⟨I2.nolimit, ?_⟩
  have hPs : s2.heap.get? P = some { cls := .none, data := .fields ps } := I2.hok P _ hP
  have hPlt : P < s2.heap.objs.size := Heap.lt_size hPs
  have cd : PySem.W.CodeHd s2.heap c P := TB.code.keeps fun b u e => I2.bk b u e
  have cont : ∀ (code : Value) (h3 : Heap) (tk : Nat) (ps' : Array Value), Heap.ExtBut P s2.heap h3 → s2.heap.objs.size ≤ h3.objs.size → h3.get? P = some { cls := .none, data := .fields ps' } → (∃ more, ps' = ps ++ more) → TriplesOk ps'.toList →
      wpAny (model X.prog X.w) X.A (builtinsFor X.env.globals X.env.builtins) (fun bi s₄ => ∀ h', h'.Ns s₄.heap.objs.size (fun y => if y = ".0" then some (.ref it) else none) → Heap.SameBut s₄.heap.objs.size (s₄.heap.push { cls := .type "frame", data := .dict #[] }) h' →
          (fun (gv : Value) (s5 : Shared) => wpAny (model X.prog X.w) X.A (spliced (backTo pos (starEach [] X.env))) (fun vs s' => wpAny (model X.prog X.w) X.A (call (.builtin "all") (gv :: vs)) (EP X pins σ Q) X.xe s') X.xe s5) (.ref h'.objs.size) { s₄ with
            gens := s₄.gens.push (.fresh (.compStart (.GeneratorExp elt [⟨tg, iter, ifs, 0⟩, ⟨tg1, iter1, ifs1, 0⟩] scope gpos) 0 (.ref it) .none (genEnv scope (cloFrom X.env.cells scope.names []) s₄.heap.objs.size code bi X.env))),
            toks := s₄.toks + 1 + 1 + 1,
            heap := h'.push { cls := .type "generator", data := .fields #[.int s₄.gens.size 0, .str "<genexpr>" (s₄.toks + 1), .str (X.env.qual ++ "<genexpr>") (s₄.toks + 1 + 1)] } }) X.xe { s2 with heap := h3, toks := tk } := by
    intro code h3 tk ps' hx hsz hP3 hmore ht3
    obtain ⟨bm, ob, e1, e2, e3, e4, e5, e6, e7, e8⟩ := TB.bm
    refine wpAny_builtinsFor (m := X.mg) (by rw [I2.ok.glob]; exact (I2.mod.glob.keeps I2.bk).extBut hx TB.gP) e1 e2 (hx _ _ e4 (I2.bk _ _ e5)) e6 e7 e8 ?_
    intro h' hn hsb
    refine Calls.spliced_nil ?_
    obtain ⟨more, rfl⟩ := hmore
    have I3 : Inv X pins σ (upd H2 P (.tbl (ps ++ more))) { s2 with heap := h3, toks := tk } := GxR.inv_tab (more := more) (h' := h3) (g' := s2.gens) (d' := s2.drawn) (t' := tk) I2 hP (fun b o hb e => hx b o hb e) hP3 I2.bare
    obtain ⟨N, Mx, W, w0, step⟩ := q _ ⟨⟨ps ++ more, upd_same, ht3⟩, fun b hb => upd_ne hb⟩ ⟨ps, more, hP, rfl, ht3⟩
    have fne : ∀ b ∈ fp, b ≠ P := fun b hb z => by
      have := (f2 b hb).1
      rw [z, hP] at this
      cases this
    have f3 : ∀ b ∈ fp, FpOk X pins (upd H2 P (.tbl (ps ++ more))) b ∧ b < h3.objs.size := fun b hb => by
      obtain ⟨o, e, _⟩ := T.obj _ _ st2 b hb
      exact ⟨⟨by rw [upd_ne (fne b hb)]; exact (f2 b hb).1, (f2 b hb).2⟩, Nat.lt_of_lt_of_le (Heap.lt_size e) hsz⟩
    have J0 := gen_start (code := code) (og := { cls := .type "generator", data := .fields #[.int s2.gens.size 0, .str "<genexpr>" (tk + 1), .str (X.env.qual ++ "<genexpr>") (tk + 1 + 1)] })
      (gs := .fresh (.compStart (.GeneratorExp elt [⟨tg, iter, ifs, 0⟩, ⟨tg1, iter1, ifs1, 0⟩] scope gpos) 0 (.ref it) .none (genE X scope h3.objs.size code))) (tk := tk + 1 + 1 + 1) I3 ok gk hN f3 hn hsb (fun v z => by cases z) rfl rfl
    have sz' : h'.objs.size = h3.objs.size + 1 := by rw [hsb.1, Heap.size_push]
    have kp3 : ∀ b o, h3.get? b = some o → h'.get? b = some o := fun b o e => hsb.extBut b o (Nat.ne_of_lt (Heap.lt_size e)) (Heap.get?_push_of_some _ e)
    have gi : GI (X.gen { s2 with heap := h3, toks := tk } (upd H2 P (.tbl (ps ++ more))) (genE X scope h3.objs.size code) fp) [(h'.objs.size, { cls := .type "generator", data := .fields #[.int s2.gens.size 0, .str "<genexpr>" (tk + 1), .str (X.env.qual ++ "<genexpr>") (tk + 1 + 1)] })] (wipe σ (own.map (·.2))) fp tn s2.gens.size 0 (upd H2 P (.tbl (ps ++ more)))
        { s2 with heap := h'.push { cls := .type "generator", data := .fields #[.int s2.gens.size 0, .str "<genexpr>" (tk + 1), .str (X.env.qual ++ "<genexpr>") (tk + 1 + 1)] }, gens := s2.gens.push (.fresh (.compStart (.GeneratorExp elt [⟨tg, iter, ifs, 0⟩, ⟨tg1, iter1, ifs1, 0⟩] scope gpos) 0 (.ref it) .none (genE X scope h3.objs.size code))), toks := tk + 1 + 1 + 1 } :=
      ⟨J0, T.keep _ _ _ st2 fun b hb o e => Heap.get?_push_of_some _ (kp3 b o (hx b o (fne b hb) e)), fun b hb => (f3 b hb).1.1, by rw [Array.size_push]; exact Nat.le_refl _⟩
    have stat : ∀ {H' : Hp}, (∀ b ∈ fp, H' b = none) → ∀ b ∈ fp, FpOk (X.gen { s2 with heap := h3, toks := tk } (upd H2 P (.tbl (ps ++ more))) (genE X scope h3.objs.size code) fp) [(h'.objs.size, { cls := .type "generator", data := .fields #[.int s2.gens.size 0, .str "<genexpr>" (tk + 1), .str (X.env.qual ++ "<genexpr>") (tk + 1 + 1)] })] H' b := fun {H'} hn b hb =>
      ⟨hn b hb, (J0.ok.exf b hb).1, J0.ok.exfs b hb, .inl hb, fun x c e => (J0.ok.exf b hb).2 x c e, fun p hp => by
        have e : p = (h'.objs.size, { cls := .type "generator", data := .fields #[.int s2.gens.size 0, .str "<genexpr>" (tk + 1), .str (X.env.qual ++ "<genexpr>") (tk + 1 + 1)] }) := by simpa using hp
        rw [e]
        intro z
        have := (f3 b hb).2
        have z : h'.objs.size = b := z
        rw [← z, sz'] at this
        exact absurd this (Nat.not_lt.mpr (Nat.le_succ _))⟩
    have back : ∀ s' H', Inv (X.gen { s2 with heap := h3, toks := tk } (upd H2 P (.tbl (ps ++ more))) (genE X scope h3.objs.size code) fp) [(h'.objs.size, { cls := .type "generator", data := .fields #[.int s2.gens.size 0, .str "<genexpr>" (tk + 1), .str (X.env.qual ++ "<genexpr>") (tk + 1 + 1)] })] (wipe σ (own.map (·.2))) H' s' → Inv X pins σ H' s' := fun s' H' I6 =>
      I3.call' (ch := fp) I6.os I6.base I6.hok I6.bare fun b hb => ⟨(f3 b hb).1.2.2.2.1, (f3 b hb).1.2.1, (f3 b hb).1.2.2.2.2.1, (f3 b hb).1.2.2.2.2.2⟩
    refine call_function_tree F.kind_all F.plain_all F.entry_all (F.args_all1 _) ?_
    unfold Builtin.«all»
    refine wpAny_bind (m := oneArg "all" _) (wpAny_pure ?_)
    have isg : ∀ s H, Inv (X.gen { s2 with heap := h3, toks := tk } (upd H2 P (.tbl (ps ++ more))) (genE X scope h3.objs.size code) fp) [(h'.objs.size, { cls := .type "generator", data := .fields #[.int s2.gens.size 0, .str "<genexpr>" (tk + 1), .str (X.env.qual ++ "<genexpr>") (tk + 1 + 1)] })] (wipe σ (own.map (·.2))) H s → s.heap.IsGen h'.objs.size s2.gens.size := fun s H I6 =>
      ⟨_, _, _, (I6.pin _ (List.mem_append_right _ (List.mem_singleton.mpr rfl))).1, rfl, rfl, rfl⟩
    refine wpAny_bind (wpAny_pyIter_gen (isg _ _ gi.inv) ?_)
    refine wpAny_pure ⟨plainId_quiet F.plain_all_loop _, ?_⟩
    refine all_genX (σ := wipe σ (own.map (·.2))) (QT := fun H' => Q (.bl true) H') (QF := fun H' => Q (.bl false) H') (fp := fp) hr.hd hdp isg (fun s' H' I6 q => ⟨.bl true, H', back s' H' I6, rfl, q⟩) (fun s' H' I6 q => ⟨.bl false, H', back s' H' I6, rfl, q⟩) (N * Mx) _ _ _ _
      (sok_gi (fp := fp) (tn := tn) (i := 0) (W := W)) ⟨gi, w0⟩ (Array.getElem?_push_size ..) (fun s'' h => ⟨rfl, ?_⟩)
    exact seg_gen02 T h.1.st (seg_gen2 (N := N) (Mx := Mx) hc T stat (hg _ _ _ _ _) (ht _ _ _ _ _) (hi1 _ _ _ _ _) (hg1 _ _ _ _ _) (ht1 _ _ _ _ _) (he _ _ _ _ _) gk.co (hs1 _) hv1 step N 0 (N * Mx) _ _ _ (Nat.sub_zero _) (Nat.le_refl _) h.1 h.2)
  cases hf : codeAmong gpos ps.toList with
  | none =>
    refine wpAny_genexprCodeX hcode (cd.code hPs htr) (cd.tab hPs) hf fun c' h' tk hx hge hlt hco' _ htab' _ => ?_
    obtain ⟨o1, vs, f1, tf, fl, tg, inF, tx, tt, op, _, _, _, _, _, _, _, _, _, htr, _⟩ := hco'
    exact cont _ h' tk _ hx (Nat.le_trans hge (Nat.le_of_lt hlt)) htab'.2 ⟨_, rfl⟩ htr
  | some cv =>
    refine wpAny_genexprCode_hit hcode (cd.code hPs htr) hf ?_
    exact cont cv s2.heap s2.toks ps (Heap.ExtBut.refl _ _) (Nat.le_refl _) hPs ⟨#[], by simp⟩ htr
end
end L2

set_option Elab.async false
set_option linter.all false
set_option maxRecDepth 100000
set_option maxHeartbeats 4000000
namespace DV
open PySem PySem.Spec PyProof.Rows L2
def dAll2L (g : DG) (t : DT) (wi1 : DI) (g1 : DG) (t1 : DT) (w : DE) (vs vs1 : List Nat) : List D → En → (Bool → En → Prop) → Prop
  | [], env, Q => Q true env
  | d :: ds, env, Q => g (.val d) (wipeE vs env) fun e1 => t e1 fun b e2 => if b = true then wi1 e2 fun ds1 e3 => ds1.length ≤ 4000 ∧ dAllL g1 t1 w vs1 ds1 (wipeE vs1 e3) fun c e4 => if c = true then dAll2L g t wi1 g1 t1 w vs vs1 ds (wipeE vs1 e4) Q else Q false e4
      else dAll2L g t wi1 g1 t1 w vs vs1 ds e2 Q
section
variable {g : DG} {t : DT} {wi wi1 : DI} {g1 : DG} {t1 : DT} {w : DE} {vs vs1 : List Nat}
theorem dAll2L_mono (mg : MonoT g) (mt : Mono t) (mi1 : Mono wi1) (mg1 : MonoT g1) (mt1 : Mono t1) (mw : Mono w) : ∀ ds env Q Q', (∀ r e, Q r e → Q' r e) → dAll2L g t wi1 g1 t1 w vs vs1 ds env Q → dAll2L g t wi1 g1 t1 w vs vs1 ds env Q'
  | [], _, _, _, k, q => k _ _ q
  | d :: ds, env, Q, Q', k, q => mg _ _ _ _ (fun e1 q => mt e1 _ _ (fun b e2 q => by
    cases b with
    | true => exact mi1 e2 _ _ (fun ds1 e3 ⟨l, q⟩ => ⟨l, dAllL_mono mg1 mt1 mw ds1 _ _ _ (fun c e4 q => by
        cases c with
        | true => exact dAll2L_mono mg mt mi1 mg1 mt1 mw ds _ _ _ k q
        | false => exact k _ _ q) q⟩) q
    | false => exact dAll2L_mono mg mt mi1 mg1 mt1 mw ds e2 _ _ k q) q) q
def dAll2 (wi : DI) (g : DG) (t : DT) (wi1 : DI) (g1 : DG) (t1 : DT) (w : DE) (vs vs1 : List Nat) : DE := fun env Q => wi env fun ds e => dAll2L g t wi1 g1 t1 w vs vs1 ds (wipeE vs e) fun c e' => Q (.val (.bool c)) (backE e vs (wipeE vs e'))
theorem dAll2_mono (mi : Mono wi) (mg : MonoT g) (mt : Mono t) (mi1 : Mono wi1) (mg1 : MonoT g1) (mt1 : Mono t1) (mw : Mono w) : Mono (dAll2 wi g t wi1 g1 t1 w vs vs1) := fun env Q Q' k q =>
  mi env _ _ (fun ds e q => dAll2L_mono mg mt mi1 mg1 mt1 mw ds _ _ _ (fun _ _ => k _ _) q) q
theorem all2_lift {C : Cfg} {P : Addr} (hP : P ∈ C.tb) (hsub : ∀ i ∈ vs1, i ∈ vs) (mi : Mono wi) (mg : MonoT g) (mt : Mono t) (mi1 : Mono wi1) (mg1 : MonoT g1) (mt1 : Mono t1) (mw : Mono w) :
    ∀ σ H Q, tE C (dAll2 wi g t wi1 g1 t1 w vs vs1) σ H Q → tAllG2 P (tI C wi) (tGW C vs g) (tT C t) (tI C wi1) (tGW C vs1 g1) (tT C t1) (tE C w) vs vs1 σ H Q := fun σ H Q ⟨Z, Fr, As, env, I, q⟩ => by
  refine ⟨Z, Fr, As, env, I, mi env _ _ (fun ds e1 q J H1 Z1 st1 I1 ok => ⟨I1.ok.tab P hP, fun H2 _ hx => ?_⟩) q⟩
  obtain ⟨ps, more, eP, rfl, tr⟩ := hx
  have I2 := I1.tab hP eP tr
  have st2 : Step Z1 Fr H1 Z1 (upd H1 P (.tbl (ps ++ more))) := tab_step I1.ok hP eP
  generalize upd H1 P (.tbl (ps ++ more)) = H2 at I2 st2
  have Iw : EnvR C Z1 Fr As (wipe σ vs) H2 (wipeE vs (wipeE vs e1)) := by
    have := (I2.wipe vs).wipe vs
    rw [wipe_wipe] at this
    exact this
  let KK : (Addr → Prop) → Hp → Bool → En → Prop := fun Z3 H3 c e' => ∀ v H' Z', Step Z3 Fr H3 Z' H' → EnvR C Z' Fr As σ H' (backE e1 vs (wipeE vs e')) → ResR C Z' Fr σ (backE e1 vs (wipeE vs e')) H' v (.val (.bool c)) → Q v H'
  have kks : ∀ {Z2 H2 Z3 H3 c e'}, Step Z2 Fr H2 Z3 H3 → KK Z2 H2 c e' → KK Z3 H3 c e' := fun st q v H' Z' st' I' R => q v H' Z' (st.trans st') I' R
  refine ⟨ds.length, 4000, fun i H3 => i ≤ ds.length ∧ ∃ Z3 env3, Step Z1 Fr H1 Z3 H3 ∧ EnvR C Z3 Fr As (wipe σ vs) H3 (wipeE vs env3) ∧ dAll2L g t wi1 g1 t1 w vs vs1 (ds.drop i) env3 (KK Z3 H3),
    ⟨Nat.zero_le _, Z1, wipeE vs e1, st2, Iw, dAll2L_mono mg mt mi1 mg1 mt1 mw ds _ _ _ (fun c e' q v H' Z' st I' R => q v H' Z' ((st1.trans st2).trans st) I' R) q⟩, ?_⟩
  rintro i H3 ⟨hi, Z3, env3, st3, I3, q3⟩
  obtain ⟨go, stop⟩ := ok _ Z3 H3 i st3 I3.ok
  by_cases hlt : i < ds.length
  · refine .inr ?_
    have ed : ds[i]? = some ds[i] := List.getElem?_eq_getElem hlt
    obtain ⟨go, yl⟩ := go _ ed
    rw [List.drop_eq_getElem_cons hlt] at q3
    refine ⟨go, hlt, fun x H4 y => ?_⟩
    obtain ⟨y1, rx⟩ := yl x H4 y
    obtain ⟨I4, st4⟩ := yld_env I3 y1
    refine ⟨Z3, Fr, As, wipeE vs env3, .val ds[i], I4, rx, mg _ _ _ _ (fun e5 q5 σ5 H5 Z5 st5 I5 hw5 => ?_) q3⟩
    have hw : wipe σ5 vs = wipe σ vs := hw5.trans wipe_wipe
    refine ⟨hw, Z5, Fr, As, e5, I5, mt e5 _ _ (fun b e6 q6 H6 Z6 st6 I6 => ?_) q5⟩
    have st36 : Step Z3 Fr H3 Z6 H6 := (st4.trans st5).trans st6
    cases b with
    | false =>
      simp only [Bool.false_eq_true, if_false] at q6 ⊢
      have I7 := I6.wipe vs
      rw [hw] at I7
      exact ⟨hlt, Z6, e6, st3.trans st36, I7, dAll2L_mono mg mt mi1 mg1 mt1 mw _ _ _ _ (fun c e' q => kks st36 q) q6⟩
    | true =>
      simp only [if_true] at q6 ⊢
      refine ⟨Z6, Fr, As, e6, I6, mi1 e6 _ _ (fun ds1 e7 ⟨hl1, q7⟩ J1 H7 Z7 st7 I7 ok1 => ?_) q6⟩
      have st37 : Step Z3 Fr H3 Z7 H7 := st36.trans st7
      refine ⟨fun j H8 => j ≤ ds1.length ∧ ∃ Z8 env8, Step Z7 Fr H7 Z8 H8 ∧ EnvR C Z8 Fr As (wipe σ5 vs1) H8 (wipeE vs1 env8) ∧ dAllL g1 t1 w vs1 (ds1.drop j) env8 (fun c e' => if c = true then dAll2L g t wi1 g1 t1 w vs vs1 (ds.drop (i + 1)) (wipeE vs1 e') (KK Z8 H8) else KK Z8 H8 false e'),
        ⟨Nat.zero_le _, Z7, wipeE vs1 e7, Step.refl, ?_, ?_⟩, ?_⟩
      · have h2 := (I7.wipe vs1).wipe vs1
        rw [wipe_wipe] at h2
        exact h2
      · refine dAllL_mono mg1 mt1 mw ds1 _ _ _ (fun c e' q => ?_) q7
        cases c with
        | true => exact dAll2L_mono mg mt mi1 mg1 mt1 mw _ _ _ _ (fun c e' q => kks st37 q) q
        | false => exact kks (c := false) (e' := e') st37 q
      · rintro j H8 ⟨hj, Z8, env8, st8, I8, q8⟩
        obtain ⟨go1, stop1⟩ := ok1 _ Z8 H8 j st8 I8.ok
        by_cases hlt1 : j < ds1.length
        · refine .inr ?_
          have ed1 : ds1[j]? = some ds1[j] := List.getElem?_eq_getElem hlt1
          obtain ⟨go1, yl1⟩ := go1 _ ed1
          rw [List.drop_eq_getElem_cons hlt1] at q8
          refine ⟨go1, by omega, fun x1 H9 y1 => ?_⟩
          obtain ⟨y2, rx1⟩ := yl1 x1 H9 y1
          obtain ⟨I9, st9⟩ := yld_env I8 y2
          refine ⟨Z8, Fr, As, wipeE vs1 env8, .val ds1[j], I9, rx1, mg1 _ _ _ _ (fun e10 q10 σ10 H10 Z10 st10 I10 hw10 => ?_) q8⟩
          have hw1 : wipe σ10 vs1 = wipe σ5 vs1 := hw10.trans wipe_wipe
          refine ⟨hw1, Z10, Fr, As, e10, I10, mt1 e10 _ _ (fun b e11 q11 H11 Z11 st11 I11 => ?_) q10⟩
          have st81 : Step Z8 Fr H8 Z11 H11 := (st9.trans st10).trans st11
          have mv : ∀ {Z' H' c e'}, Step Z8 Fr H8 Z' H' → (if c = true then dAll2L g t wi1 g1 t1 w vs vs1 (ds.drop (i + 1)) (wipeE vs1 e') (KK Z8 H8) else KK Z8 H8 false e') → if c = true then dAll2L g t wi1 g1 t1 w vs vs1 (ds.drop (i + 1)) (wipeE vs1 e') (KK Z' H') else KK Z' H' false e' := fun {Z' H' c e'} st q => by
            cases c with
            | true => exact dAll2L_mono mg mt mi1 mg1 mt1 mw _ _ _ _ (fun c e' q => kks st q) q
            | false => exact kks (c := false) (e' := e') st q
          cases b with
          | false =>
            simp only [Bool.false_eq_true, if_false] at q11 ⊢
            have I12 := I11.wipe vs1
            rw [hw1] at I12
            exact ⟨hlt1, Z11, e11, st8.trans st81, I12, dAllL_mono mg1 mt1 mw _ _ _ _ (fun c e' q => mv st81 q) q11⟩
          | true =>
            simp only [if_true] at q11 ⊢
            refine ⟨Z11, Fr, As, e11, I11, mw e11 _ _ (fun r e12 q12 yv H12 Z12 st12 I12 ry => ?_) q11⟩
            obtain ⟨c, ec, q12⟩ := need_out q12
            have er := isB_eq ec
            subst er
            cases ry
            have st82 : Step Z8 Fr H8 Z12 H12 := st81.trans st12
            refine ⟨c, rfl, ?_⟩
            cases c with
            | true =>
              simp only [if_true] at q12 ⊢
              have I13 := I12.wipe vs1
              rw [hw1] at I13
              exact ⟨hlt1, Z12, e12, st8.trans st82, I13, dAllL_mono mg1 mt1 mw _ _ _ _ (fun c e' q => mv st82 q) q12⟩
            | false =>
              simp only [Bool.false_eq_true, if_false] at q12 ⊢
              have I13 := I12.wipe vs
              have e13 : wipe σ10 vs = wipe σ vs := by rw [← wipe_sub (σ := σ10) hsub, hw1, wipe_sub hsub, hw]
              rw [e13] at I13
              exact q12 _ H12 Z12 st82 (I1.back ((st3.trans st37).trans (st8.trans st82)) I13) (Rp.bl _)
        · refine .inl ⟨stop1 (by omega), ?_⟩
          rw [List.drop_eq_nil_of_le (by omega)] at q8
          have I14 := I8.wipe vs
          rw [wipe_sub hsub, hw] at I14
          have q8 : dAll2L g t wi1 g1 t1 w vs vs1 (ds.drop (i + 1)) (wipeE vs1 env8) (KK Z8 H8) := q8
          exact ⟨hlt, Z8, wipeE vs1 env8, (st3.trans st37).trans st8, I14, q8⟩
  · refine .inl ⟨stop (by omega), ?_⟩
    rw [List.drop_eq_nil_of_le (by omega)] at q3
    exact q3 _ H3 Z3 Step.refl (I1.back st3 I3) (Rp.bl _)
end
section
variable {tb : List Addr} {X : Cx}
theorem se_all2 {c P : Addr} {elt tg iter tg1 iter1 : Expr} {ifs ifs1 : List Expr} {scope : Scope} (own : List (Str × Nat)) {p pos gpos : Pos} {wi wi1 : DI} {g g1 : DG} {t t1 : DT} {w : DE} {vs1 : List Nat} {k : Nat} (hr : RoomG k X.A) (hc : X.calm = true) (hN : X.N.Nodup) (hP : P ∈ tb) (TB : GxR.TabB X.base X.mg c P) (hcode : X.env.code = .ref c) (hm : X.mg "all" = none)
    (hb : bootBuiltins "all" = some (.builtin "all")) (hi : SI tb X tg iter wi) (ok : BlkOk X.N X.env.scope scope own) (gk : GenK scope)
    (hg : ∀ (s : Shared) (H : Hp) (C : Addr) (code : Value) (fp : List Addr), SGb (own.map (·.2)) tb (X.gen s H (genE X scope C code) fp) tg g) (ht : ∀ (s : Shared) (H : Hp) (C : Addr) (code : Value) (fp : List Addr), STs tb (X.gen s H (genE X scope C code) fp) ifs t) (hv1 : ∀ i ∈ vs1, i ∈ own.map (·.2))
    (hi1 : ∀ (s : Shared) (H : Hp) (C : Addr) (code : Value) (fp : List Addr), SI tb (X.gen s H (genE X scope C code) fp) tg1 iter1 wi1) (hg1 : ∀ (s : Shared) (H : Hp) (C : Addr) (code : Value) (fp : List Addr), SGb vs1 tb (X.gen s H (genE X scope C code) fp) tg1 g1)
    (ht1 : ∀ (s : Shared) (H : Hp) (C : Addr) (code : Value) (fp : List Addr), STs tb (X.gen s H (genE X scope C code) fp) ifs1 t1)
    (he : ∀ (s : Shared) (H : Hp) (C : Addr) (code : Value) (fp : List Addr), SE tb (X.gen s H (genE X scope C code) fp) elt w) (hs1 : ∀ env x, foldedSetIterable iter1 env x = pure x := by intro _ _; rfl) (hgl : Gl X "all" := by rfl) (hs : ∀ v, genFold iter X.env v = pure v := by intro _; rfl)
    (hst : starEach [.GeneratorExp elt [⟨tg, iter, ifs, 0⟩, ⟨tg1, iter1, ifs1, 0⟩] scope gpos] X.env = (false, eval (.GeneratorExp elt [⟨tg, iter, ifs, 0⟩, ⟨tg1, iter1, ifs1, 0⟩] scope gpos) X.env) :: starEach [] X.env := by rfl) :
    SE tb X (.Call (.Name "all" p) [.GeneratorExp elt [⟨tg, iter, ifs, 0⟩, ⟨tg1, iter1, ifs1, 0⟩] scope gpos] [] pos) (dAll2 wi g t wi1 g1 t1 w (own.map (·.2)) vs1) :=
  have s0 : Shared := X.s_0
  have mg := (hg s0 (fun _ => none) 0 .none []).mono
  have mt := (ht s0 (fun _ => none) 0 .none []).mono
  have mi1 := (hi1 s0 (fun _ => none) 0 .none []).mono
  have mg1 := (hg1 s0 (fun _ => none) 0 .none []).mono
  have mt1 := (ht1 s0 (fun _ => none) 0 .none []).mono
  have mw := (he s0 (fun _ => none) 0 .none []).mono
  ⟨dAll2_mono hi.mono mg mt mi1 mg1 mt1 mw, (pe_allG2 hr.room hc hN hm hb TB hcode hi.pi ok gk (fun s H C code fp => (hg s H C code fp).pg) (fun s H C code fp => (ht s H C code fp).pt) hv1 (fun s H C code fp => (hi1 s H C code fp).pi) (fun s H C code fp => (hg1 s H C code fp).pg) (fun s H C code fp => (ht1 s H C code fp).pt) hs1 (fun s H C code fp => (he s H C code fp).pe) hgl hs hst).imp (all2_lift (C := ⟨X.K, tb⟩) hP hv1 hi.mono mg mt mi1 mg1 mt1 mw)⟩
end
end DV

set_option Elab.async false
set_option linter.all false
set_option maxRecDepth 100000
set_option maxHeartbeats 4000000
/-! the readings, step by step: what follows is not looked at until its turn comes -/
namespace DV
open PySem PySem.Spec PyProof.Rows L2
/-- a mark that keeps simp out of what it is a mark of -/
structure Mk.{u} {α : Sort u} (a : α) : Type where
  mk ::
def ndF {α : Type} (o : Option α) (k : α → Prop) (_ : Mk k) : Prop := need o k
theorem ndF_some {α : Type} {a : α} {k : α → Prop} {u : Mk k} : ndF (some a) k u = k a := propext Iff.rfl
def ifB (c : Bool) (A B : Prop) (_ : Mk A) (_ : Mk B) : Prop := if c = true then A else B
theorem ifB_t {A B : Prop} {u : Mk A} {v : Mk B} : ifB true A B u v = A := propext Iff.rfl
theorem ifB_f {A B : Prop} {u : Mk A} {v : Mk B} : ifB false A B u v = B := propext Iff.rfl
theorem brB {c : Bool} {A B : Prop} {u : Mk A} {v : Mk B} (h1 : c = true → A) (h2 : c = false → B) : ifB c A B u v := by
  cases c
  · exact h2 rfl
  · exact h1 rfl
def clF (fs : FS) (args : List Slot) (Q : Slot → List Slot → Prop) (_ : Mk Q) : Prop := fs args Q fun _ => False
def fF (g : DG) (b : DS) (ds : List D) (env : En) (D : DEnds) (_ : Mk D) : Prop := dForL g b ds env D
def whF (c : DT) (b : DS) (env : En) (D : DEnds) (_ : Mk D) : Prop := dWh c b env D
def lcF (g : DG) (t : DT) (w : DV) (vs : List Nat) (ds : List D) (env : En) (Q : List D → En → Prop) (_ : Mk Q) : Prop := dLcL g t w vs ds env Q
def lc2F (g : DG) (t : DT) (wi1 : DI) (g1 : DG) (t1 : DT) (w : DV) (vs vs1 : List Nat) (ds : List D) (env : En) (Q : List D → En → Prop) (_ : Mk Q) : Prop := dLc2L g t wi1 g1 t1 w vs vs1 ds env Q
def alF (g : DG) (t : DT) (w : DE) (vs : List Nat) (ds : List D) (env : En) (Q : Bool → En → Prop) (_ : Mk Q) : Prop := dAllL g t w vs ds env Q
def al2F (g : DG) (t : DT) (wi1 : DI) (g1 : DG) (t1 : DT) (w : DE) (vs vs1 : List Nat) (ds : List D) (env : En) (Q : Bool → En → Prop) (_ : Mk Q) : Prop := dAll2L g t wi1 g1 t1 w vs vs1 ds env Q
section
variable {d : D} {ds : List D} {env e : En} {i j l n : Nat} {T : PTy} {neg c : Bool}
theorem z_K {Q : Slot → En → Prop} : dK d env Q = Q (.val d) env := propext Iff.rfl
theorem z_VarO {Q : Opd → En → Prop} : dVarO i env Q = ndF (sl env i) (fun _ => Q (.var i) env) ⟨⟩ := propext Iff.rfl
def varF (i : Nat) (env : En) (Q : DV.D → En → Prop) (_ : Mk Q) : Slot → Prop
  | .val d => Q d env
  | .own none (.lst ds) => Q (.list ds) (env.set i (some (.val (.list ds))))
  | _ => False
theorem varF_v {Q : DV.D → En → Prop} {u : Mk Q} : varF i env Q u (.val d) = Q d env := propext Iff.rfl
theorem varF_l {Q : DV.D → En → Prop} {u : Mk Q} : varF i env Q u (.own none (.lst ds)) = Q (.list ds) (env.set i (some (.val (.list ds)))) := propext Iff.rfl
theorem z_Var {Q : DV.D → En → Prop} : dVar i env Q = ndF (sl env i) (fun s => varF i env Q ⟨⟩ s) ⟨⟩ := by
  unfold dVar ndF
  cases sl env i with
  | none => rfl
  | some s =>
    rcases s with d | ⟨t, m⟩ | ns
    · rfl
    · rcases t with _ | t <;> rcases m with ds | k | k <;> rfl
    · rfl
def mvF (i : Nat) (env : En) (Q : Slot → En → Prop) (_ : Mk Q) : Slot → Prop
  | .own none m => Q (.own none m) (env.set i none)
  | .own (some _) _ => False
  | .val d => Q (.val d) env
  | .scr ns => Q (.scr ns) env
theorem mvF_o {Q : Slot → En → Prop} {u : Mk Q} {m : MO} : mvF i env Q u (.own none m) = Q (.own none m) (env.set i none) := propext Iff.rfl
theorem mvF_v {Q : Slot → En → Prop} {u : Mk Q} : mvF i env Q u (.val d) = Q (.val d) env := propext Iff.rfl
theorem mvF_s {Q : Slot → En → Prop} {u : Mk Q} {ns : List Int} : mvF i env Q u (.scr ns) = Q (.scr ns) env := propext Iff.rfl
theorem z_Move {Q : Slot → En → Prop} : dMove i env Q = ndF (sl env i) (fun s => mvF i env Q ⟨⟩ s) ⟨⟩ := by
  unfold dMove ndF
  cases sl env i with
  | none => rfl
  | some s =>
    rcases s with d | ⟨t, m⟩ | ns
    · rfl
    · rcases t with _ | t <;> rfl
    · rfl
theorem z_Of {w : DV} {Q : Slot → En → Prop} : dOf w env Q = w env fun d e => Q (.val d) e := propext Iff.rfl
theorem z_Fz {w : DE} {Q : DV.D → En → Prop} : dFz w env Q = w env fun r e => ndF (frzS r) (fun d => Q d e) ⟨⟩ := propext Iff.rfl
theorem z_Res {w : DE} {Q : Opd → En → Prop} : dRes w env Q = w env fun r e => Q (.res r) e := propext Iff.rfl
theorem z_VNil {Q : List DV.D → En → Prop} : dVNil env Q = Q [] env := propext Iff.rfl
theorem z_VCons {w : DV} {ws : DVs} {Q : List DV.D → En → Prop} : dVCons w ws env Q = w env fun d e1 => ws e1 fun ds e2 => Q (d :: ds) e2 := propext Iff.rfl
theorem z_Tup {ws : DVs} {Q : Slot → En → Prop} : dTup ws env Q = ws env fun ds e => ds.length ≤ sizeLine ∧ Q (.val (.tuple ds)) e := propext Iff.rfl
theorem z_Lst {ws : DVs} {Q : Slot → En → Prop} : dLst ws env Q = ws env fun ds e => ds.length ≤ sizeLine ∧ Q (.own none (.lst ds)) e := propext Iff.rfl
theorem z_Op2 {G : G2} {wa wb : DO} {Q : Slot → En → Prop} : dOp2 G wa wb env Q = wa env fun o1 e1 => wb e1 fun o2 e2 => ndF (con e2 o1) (fun s1 => ndF (con e2 o2) (fun s2 => G s1 s2 fun r => Q r e2) ⟨⟩) ⟨⟩ := propext Iff.rfl
theorem z_Tst {w : DE} {Q : Bool → En → Prop} : dTst w env Q = w env fun r e => ndF (isB r) (fun b => Q b e) ⟨⟩ := propext Iff.rfl
theorem z_Not {w : DT} {Q : Bool → En → Prop} : dNot w env Q = w env fun b e => Q (!b) e := propext Iff.rfl
theorem z_Chain {G G' : G2} {wa wb wc : DO} {Q : Slot → En → Prop} : dChain G G' wa wb wc env Q = wa env fun o1 e1 => wb e1 fun o2 e2 => ndF (con e2 o1) (fun s1 => ndF (con e2 o2) (fun s2 => G s1 s2 fun r => ndF (isB r) (fun b =>
    ifB b (wc e2 fun o3 e3 => ndF (con e3 o2) (fun s2' => ndF (con e3 o3) (fun s3 => G' s2' s3 fun r' => Q r' e3) ⟨⟩) ⟨⟩) (Q (.val (.bool false)) e2) ⟨⟩ ⟨⟩) ⟨⟩) ⟨⟩) ⟨⟩ := propext Iff.rfl
theorem z_AndV {wa wb : DE} {Q : Slot → En → Prop} : dAndV wa wb env Q = wa env fun r e => ndF (isB r) (fun b => ifB b (wb e Q) (Q (.val (.bool false)) e) ⟨⟩ ⟨⟩) ⟨⟩ := propext Iff.rfl
theorem z_OrV {wa wb : DE} {Q : Slot → En → Prop} : dOrV wa wb env Q = wa env fun r e => ndF (isB r) (fun b => ifB b (Q (.val (.bool true)) e) (wb e Q) ⟨⟩ ⟨⟩) ⟨⟩ := propext Iff.rfl
theorem z_NotV {w : DE} {Q : Slot → En → Prop} : dNotV w env Q = w env fun r e => ndF (isB r) (fun b => Q (.val (.bool (!b))) e) ⟨⟩ := propext Iff.rfl
theorem z_And {wa wb : DT} {Q : Bool → En → Prop} : dAnd wa wb env Q = wa env fun b e => ifB b (wb e Q) (Q false e) ⟨⟩ ⟨⟩ := propext Iff.rfl
theorem z_Or {wa wb : DT} {Q : Bool → En → Prop} : dOr wa wb env Q = wa env fun b e => ifB b (Q true e) (wb e Q) ⟨⟩ ⟨⟩ := propext Iff.rfl
theorem z_If {w : DT} {wa wb : DE} {Q : Slot → En → Prop} : dIf w wa wb env Q = w env fun b e => ifB b (wa e Q) (wb e Q) ⟨⟩ ⟨⟩ := propext Iff.rfl
theorem z_Next {D : DEnds} : dNext env D = D.nx env := propext Iff.rfl
theorem z_Seq {w u : DS} {D : DEnds} : dSeq w u env D = w env { D with nx := fun e => u e D } := propext Iff.rfl
theorem z_Break {D : DEnds} : dBreak env D = D.bk env := propext Iff.rfl
theorem z_Cont {D : DEnds} : dCont env D = D.ct env := propext Iff.rfl
theorem z_Exp {w : DE} {D : DEnds} : dExp w env D = w env fun _ e => D.nx e := propext Iff.rfl
theorem z_Ret {w : DE} {D : DEnds} : dRet w env D = w env fun r e => D.rt r e := propext Iff.rfl
theorem z_RetN {D : DEnds} : dRetN env D = D.rt (.val .none) env := propext Iff.rfl
theorem z_IfS {w : DT} {a b : DS} {D : DEnds} : dIfS w a b env D = w env fun c e => ifB c (a e D) (b e D) ⟨⟩ ⟨⟩ := propext Iff.rfl
theorem z_Nm {r : Slot} {Q : En → Prop} : gNm i r env Q = Q (env.set i (some r)) := propext Iff.rfl
theorem z_Tp {gs : DGs} {r : Slot} {Q : En → Prop} : gTp n gs r env Q = ndF (tuO r) (fun ds => ds.length = n ∧ gs ds env Q) ⟨⟩ := propext Iff.rfl
theorem z_GN {Q : En → Prop} : gNil' [] env Q = Q env := propext Iff.rfl
theorem z_GC {g : DG} {gs : DGs} {Q : En → Prop} : gCons' g gs (d :: ds) env Q = g (.val d) env fun e => gs ds e Q := propext Iff.rfl
theorem z_Asg {w : DE} {g : DG} {D : DEnds} : dAsg w g env D = w env fun r e => g r e D.nx := propext Iff.rfl
theorem z_ONil {Q : List Opd → En → Prop} : dONil env Q = Q [] env := propext Iff.rfl
theorem z_OCons {w : DO} {ws : DOs} {Q : List Opd → En → Prop} : dOCons w ws env Q = w env fun o e1 => ws e1 fun os e2 => Q (o :: os) e2 := propext Iff.rfl
theorem z_SetIx {wi : DO} {we : DV} {D : DEnds} : dSetIx i wi we env D = we env fun d e1 => ndF (sl e1 i) (fun _ => wi e1 fun o e2 => ndF (con e2 o) (fun s => ndF (sl e2 i) (fun x => putS x s d fun r => D.nx (e2.set i (some r))) ⟨⟩) ⟨⟩) ⟨⟩ := propext Iff.rfl
theorem z_Call {fs : FS} {ws : DOs} {Q : Slot → En → Prop} : dCall fs ws env Q = ws env fun os e => ndF (argO e os) (fun args => (varsO e os).Nodup ∧ clF fs args (fun r args' => ndF (wrB e os args') (fun e' => Q r e') ⟨⟩) ⟨⟩) ⟨⟩ := propext Iff.rfl
theorem z_Sq {w : DV} {Q : List DV.D → En → Prop} : dSq w env Q = w env fun d e => ndF (seqD d) (fun ds => Q ds e) ⟨⟩ := propext Iff.rfl
theorem z_Rev {w : DV} {Q : List DV.D → En → Prop} : dRev w env Q = w env fun d e => ndF (seqD d) (fun ds => Q ds.reverse e) ⟨⟩ := propext Iff.rfl
theorem z_For {wi : DI} {g : DG} {b : DS} {D : DEnds} : dFor wi g b env D = wi env fun ds e => fF g b ds e D ⟨⟩ := propext Iff.rfl
theorem z_Wh {t : DT} {b : DS} {D : DEnds} : dWh t b env D = whF t b env D ⟨⟩ := propext Iff.rfl
theorem z_Lc {wi : DI} {g : DG} {t : DT} {w : DV} {vs : List Nat} {Q : Slot → En → Prop} : dLc wi g t w vs env Q = wi env fun ds e => ds.length ≤ sizeLine ∧ lcF g t w vs ds (wipeE vs e) (fun ys e' => Q (.own none (.lst ys)) (backE e vs (wipeE vs e'))) ⟨⟩ := propext Iff.rfl
theorem z_Lc2 {wi wi1 : DI} {g g1 : DG} {t t1 : DT} {w : DV} {vs vs1 : List Nat} {Q : Slot → En → Prop} : dLc2 wi g t wi1 g1 t1 w vs vs1 env Q = wi env fun ds e => ds.length ≤ 4000 ∧ lc2F g t wi1 g1 t1 w vs vs1 ds (wipeE vs e) (fun ys e' => Q (.own none (.lst ys)) (backE e vs (wipeE vs e'))) ⟨⟩ := propext Iff.rfl
theorem z_All {wi : DI} {g : DG} {t : DT} {w : DE} {vs : List Nat} {Q : Slot → En → Prop} : dAll wi g t w vs env Q = wi env fun ds e => alF g t w vs ds (wipeE vs e) (fun c e' => Q (.val (.bool c)) (backE e vs (wipeE vs e'))) ⟨⟩ := propext Iff.rfl
theorem z_All2 {wi wi1 : DI} {g g1 : DG} {t t1 : DT} {w : DE} {vs vs1 : List Nat} {Q : Slot → En → Prop} : dAll2 wi g t wi1 g1 t1 w vs vs1 env Q = wi env fun ds e => al2F g t wi1 g1 t1 w vs vs1 ds (wipeE vs e) (fun c e' => Q (.val (.bool c)) (backE e vs (wipeE vs e'))) ⟨⟩ := propext Iff.rfl
theorem z_Yes {Q : Bool → En → Prop} : dYes env Q = Q true env := propext Iff.rfl
theorem z_CB {G : GC} {ws : DOs} {Q : Slot → En → Prop} : dCB G ws env Q = ws env fun os e => ndF (consO e os) (fun ss => G ss fun r => Q r e) ⟨⟩ := propext Iff.rfl
theorem z_Isi {w : DO} {Q : Slot → En → Prop} : dIsi T w env Q = w env fun o e => ndF (con e o) (fun s => ndF (tyS s) (fun t => Q (.val (.bool (isT t T))) e) ⟨⟩) ⟨⟩ := propext Iff.rfl
theorem z_Neg {w : DE} {Q : Slot → En → Prop} : dNeg w env Q = w env fun r e => ndF (ngO r) (fun i => Q (.val (.int (-i))) e) ⟨⟩ := propext Iff.rfl
theorem z_NoP {Q : Option Int → En → Prop} : dNoP env Q = Q none env := propext Iff.rfl
theorem z_Prt {w : DE} {Q : Option Int → En → Prop} : dPrt w env Q = w env fun r e => ndF (ngO r) (fun i => Q (some i) e) ⟨⟩ := propext Iff.rfl
theorem z_Sl {w : DO} {wl wh : DP} {Q : Slot → En → Prop} : dSl w wl wh env Q = w env fun o e1 => wl e1 fun l e2 => wh e2 fun h e3 => ndF (con e3 o) (fun s => gSl s l h fun r => Q r e3) ⟨⟩ := propext Iff.rfl
theorem z_App {w : DV} {Q : Slot → En → Prop} : dApp i w env Q = ndF (owL env i) (fun _ => w env fun d e => ndF (owL e i) (fun p => p.2.length < sizeLine ∧ Q (.val .none) (e.set i (some (.own p.1 (.lst (p.2 ++ [d])))))) ⟨⟩) ⟨⟩ := propext Iff.rfl
theorem z_Pop {Q : Slot → En → Prop} : dPop i env Q = ndF (owL env i) (fun p => ndF (p.2[p.2.length - 1]?) (fun d => Q (.val d) (env.set i (some (.own p.1 (.lst p.2.dropLast))))) ⟨⟩) ⟨⟩ := propext Iff.rfl
theorem z_VK {Q : DV.D → En → Prop} : dVK d env Q = Q d env := propext Iff.rfl
theorem z_VKs {Q : List DV.D → En → Prop} : dVKs ds env Q = Q ds env := propext Iff.rfl
theorem z_Eq {s1 s2 : Slot} {R : Slot → Prop} : gEq neg s1 s2 R = ndF (daO s1) (fun d => ndF (daO s2) (fun e => EqOk d e ∧ R (.val (.bool (if neg then !PyData.eqv d e else PyData.eqv d e)))) ⟨⟩) ⟨⟩ := propext Iff.rfl
theorem z_InL {s1 : Slot} {R : Slot → Prop} : gInL neg s1 ds R = ndF (daO s1) (fun d => (SeqAt.shaped d = true ∧ SeqAt.shaped (.list ds) = true) ∧ R (.val (.bool (if neg then !(ds.any fun z => PyData.eqv z d) else ds.any fun z => PyData.eqv z d)))) ⟨⟩ := propext Iff.rfl
theorem z_InK {s1 : Slot} {kvs : List (Key × DV.D)} {R : Slot → Prop} : gInK neg s1 kvs R = ndF (kyS s1) (fun k => R (.val (.bool (if neg then !(valD kvs k).isSome else (valD kvs k).isSome)))) ⟨⟩ := propext Iff.rfl
theorem z_InT {s1 : Slot} {kvs : List (List Key × DV.D)} {R : Slot → Prop} : gInT neg s1 kvs R = ndF (ksS s1) (fun k => R (.val (.bool (if neg then !(valD kvs k).isSome else (valD kvs k).isSome)))) ⟨⟩ := propext Iff.rfl
section
variable {t : Option Nat} {kvs : List (Key × DV.D)} {kvt : List (List Key × DV.D)} {s s1 s2 : Slot} {ns : List Int} {i1 j1 : Int} {R : Slot → Prop}
theorem z_In1 : gIn neg s1 (.own t (.lst ds)) R = gInL neg s1 ds R := propext Iff.rfl
theorem z_In2 : gIn neg s1 (.own t (.dK kvs)) R = gInK neg s1 kvs R := propext Iff.rfl
theorem z_In3 : gIn neg s1 (.own t (.dT kvt)) R = gInT neg s1 kvt R := propext Iff.rfl
theorem z_In4 : gIn neg s1 (.val d) R = ndF (liD d) (fun ds => gInL neg s1 ds R) ⟨⟩ := propext Iff.rfl
theorem z_IxS : gIxS ds (.val (.int i1)) R = ndF (atI ds i1) (fun d => R (.val d)) ⟨⟩ := propext Iff.rfl
theorem z_Ix1 : gIx (.own t (.lst ds)) s2 R = gIxS ds s2 R := propext Iff.rfl
theorem z_Ix2 : gIx (.own t (.dK kvs)) s2 R = ndF (kyS s2) (fun k => ndF (valD kvs k) (fun d => R (.val d)) ⟨⟩) ⟨⟩ := propext Iff.rfl
theorem z_Ix3 : gIx (.own t (.dT kvt)) s2 R = ndF (ksS s2) (fun k => ndF (valD kvt k) (fun d => R (.val d)) ⟨⟩) ⟨⟩ := propext Iff.rfl
theorem z_Ix4 : gIx (.val d) s2 R = ndF (seqV d) (fun ds => gIxS ds s2 R) ⟨⟩ := propext Iff.rfl
theorem z_Ix5 : gIx (.scr ns) s2 R = gIxS (ns.map .int) s2 R := propext Iff.rfl
theorem z_put1 : putS (.own t (.lst ds)) s d R = ndF (ixS s) (fun k => ndF (ixN ds.length k) (fun j => R (.own t (.lst (ds.set j d)))) ⟨⟩) ⟨⟩ := propext Iff.rfl
theorem z_put2 : putS (.own t (.dK kvs)) s d R = ndF (kyS s) (fun k => kvs.length < sizeLine ∧ R (.own t (.dK (putD kvs k d)))) ⟨⟩ := propext Iff.rfl
theorem z_put3 : putS (.own t (.dT kvt)) s d R = ndF (ksS s) (fun k => kvt.length < sizeLine ∧ R (.own t (.dT (putD kvt k d)))) ⟨⟩ := propext Iff.rfl
theorem z_Len : gLen [s] R = ndF (lenO s) (fun n => R (.val (.int (n : Nat)))) ⟨⟩ := propext Iff.rfl
theorem z_TupC : gTupC [s] R = ndF (sqO s) (fun ds => R (.val (.tuple ds))) ⟨⟩ := propext Iff.rfl
theorem z_LstC : gLstC [s] R = ndF (sqO s) (fun ds => R (.own none (.lst ds))) ⟨⟩ := propext Iff.rfl
theorem z_Repr : gRepr [s] R = ndF (daO s) (fun d => ReprOk d ∧ R (.val (.str d.shown))) ⟨⟩ := propext Iff.rfl
end
theorem z_NewD {Q : Slot → En → Prop} : dNewD env Q = (Q (.own none (.dK [])) env ∨ Q (.own none (.dT [])) env) := propext Iff.rfl
theorem z_DisK {wk wv : DV} {Q : Slot → En → Prop} : dDisK wk wv env Q = wk env fun k e1 => wv e1 fun v e2 => ndF (keyD k) (fun k => Q (.own none (.dK [(k, v)])) e2) ⟨⟩ := propext Iff.rfl
theorem z_DisT {wk wv : DV} {Q : Slot → En → Prop} : dDisT wk wv env Q = wk env fun k e1 => wv e1 fun v e2 => ndF (tupD k) (fun k => Q (.own none (.dT [(k, v)])) e2) ⟨⟩ := propext Iff.rfl
theorem z_Get1 {w : DO} {Q : Slot → En → Prop} : dGet1 i w env Q = ndF (sl env i) (fun x => isDic x = true ∧ w env fun o e => ndF (con e o) (fun s => ndF (sl e i) (fun x => getS x s fun d => Q (.val d) e) ⟨⟩) ⟨⟩) ⟨⟩ := propext Iff.rfl
end
theorem z_fin {args : List Slot} {Q : Slot → List Slot → Prop} {r : Slot} {e : En} : finE args Q r e = ndF (backA 0 args e) (fun a' => Q r a') ⟨⟩ := propext Iff.rfl
section
variable {i j : Int} {R : Slot → Prop} {x y : Str} {ds es : List DV.D}
theorem z_AddI : gAdd (.val (.int i)) (.val (.int j)) R = R (.val (.int (i + j))) := propext Iff.rfl
theorem z_AddT : gAdd (.val (.tuple ds)) (.val (.tuple es)) R = (ds.length + es.length ≤ sizeLine ∧ R (.val (.tuple (ds ++ es)))) := propext Iff.rfl
theorem z_MulI : gMul (.val (.int i)) (.val (.int j)) R = ((CMul i j ∨ CMulW i j) ∧ R (.val (.int (i * j)))) := propext Iff.rfl
theorem z_LtI : gLt (.val (.int i)) (.val (.int j)) R = R (.val (.bool (decide (i < j)))) := propext Iff.rfl
theorem z_IsN {neg : Bool} {s : Slot} : gIs neg s (.val .none) R = R (.val (.bool (if neg then !isNone s else isNone s))) := propext Iff.rfl
theorem z_IntI : gIntC [.val (.int i)] R = R (.val (.int i)) := propext Iff.rfl
theorem z_SlT {lo hi : Option Int} : gSl (.val (.tuple ds)) lo hi R = R (.val (.tuple (cutD ds lo hi))) := propext Iff.rfl
theorem z_SlL {lo hi : Option Int} : gSl (.val (.list ds)) lo hi R = R (.own none (.lst (cutD ds lo hi))) := propext Iff.rfl
theorem z_SlO {t : Option Nat} {lo hi : Option Int} : gSl (.own t (.lst ds)) lo hi R = R (.own none (.lst (cutD ds lo hi))) := propext Iff.rfl
theorem z_SlS {ns : List Int} {lo hi : Option Int} : gSl (.scr ns) lo hi R = R (.own none (.lst (cutD (ns.map .int) lo hi))) := propext Iff.rfl
theorem z_AddO {t t' : Option Nat} : gAdd (.own t (.lst ds)) (.own t' (.lst es)) R = (ds.length + es.length ≤ sizeLine ∧ R (.own none (.lst (ds ++ es)))) := propext Iff.rfl
theorem z_AddS : gAdd (.val (.str x)) (.val (.str y)) R = (x.length + y.length ≤ sizeLine ∧ R (.val (.str (x ++ y)))) := propext Iff.rfl
theorem z_MulT : gMul (.val (.tuple ds)) (.val (.int j)) R = ((ds ≠ [] ∧ 2 ≤ j ∧ j ≤ 1000 ∧ ds.length ≤ 1000) ∧ R (.val (.tuple (List.replicate j.toNat ds).flatten))) := propext Iff.rfl
theorem z_LtT : gLt (.val (.tuple ds)) (.val (.tuple es)) R = ndF (intsD ds) (fun ns => ndF (intsD es) (fun ms => R (.val (.bool (HT.lexLt ns ms)))) ⟨⟩) ⟨⟩ := propext Iff.rfl
theorem z_Mod : gMod (.val (.int i)) (.val (.int j)) R = (0 < j ∧ R (.val (.int (i % j)))) := propext Iff.rfl
theorem z_Div : gDiv (.val (.int i)) (.val (.int j)) R = (CDivW i j ∧ R (.val (.int (i / j)))) := propext Iff.rfl
theorem z_Pow : gPow (.val (.int i)) (.val (.int j)) R = (CPow i j ∧ R (.val (.int (i ^ j.toNat)))) := propext Iff.rfl
theorem z_Sub : gSub (.val (.int i)) (.val (.int j)) R = R (.val (.int (i - j))) := propext Iff.rfl
theorem z_Le : gLe (.val (.int i)) (.val (.int j)) R = R (.val (.bool (decide (i ≤ j)))) := propext Iff.rfl
theorem z_Gt : gGt (.val (.int i)) (.val (.int j)) R = R (.val (.bool (decide (j < i)))) := propext Iff.rfl
theorem z_Ge : gGe (.val (.int i)) (.val (.int j)) R = R (.val (.bool (decide (j ≤ i)))) := propext Iff.rfl
theorem z_II {f : Int → Int → Int} : gII f [.val (.int i), .val (.int j)] R = R (.val (.int (f i j))) := propext Iff.rfl
end
theorem isNone_n : isNone (.val .none) = true := rfl
theorem isNone_i {i : Int} : isNone (.val (.int i)) = false := rfl
theorem isNone_t {ds : List D} : isNone (.val (.tuple ds)) = false := rfl
theorem isNone_l {ds : List D} : isNone (.val (.list ds)) = false := rfl
theorem isNone_b {b : Bool} : isNone (.val (.bool b)) = false := rfl
theorem isNone_s {b : Str} : isNone (.val (.str b)) = false := rfl
theorem isNone_o {t : Option Nat} {m : MO} : isNone (.own t m) = false := rfl
theorem tyD_n : tyD .none = .non := rfl
theorem tyD_b {b : Bool} : tyD (.bool b) = .bool := rfl
theorem tyD_i {i : Int} : tyD (.int i) = .int := rfl
theorem tyD_s {b : Str} : tyD (.str b) = .str := rfl
theorem tyD_l {ds : List D} : tyD (.list ds) = .list := rfl
theorem tyD_t {ds : List D} : tyD (.tuple ds) = .tuple := rfl
theorem tyD_d {kvs : List (D × D)} : tyD (.dict kvs) = .dict := rfl
theorem seqV_l {ds : List D} : seqV (.list ds) = some ds := rfl
theorem seqV_t {ds : List D} : seqV (.tuple ds) = some ds := rfl
theorem seqD_l {ds : List D} : seqD (.list ds) = some ds := rfl
theorem seqD_t {ds : List D} : seqD (.tuple ds) = some ds := rfl
theorem liD_l {ds : List D} : liD (.list ds) = some ds := rfl
theorem keyD_i {i : Int} : keyD (.int i) = some (.inl i) := rfl
theorem keyD_s {i : Str} : keyD (.str i) = some (.inr i) := rfl
theorem tupD_t {ds : List D} : tupD (.tuple ds) = keysD ds := rfl
theorem sqO_l {ds : List D} : sqO (.val (.list ds)) = some ds := rfl
theorem sqO_t {ds : List D} : sqO (.val (.tuple ds)) = some ds := rfl
theorem sqO_o {t : Option Nat} {ds : List D} : sqO (.own t (.lst ds)) = some ds := rfl
theorem sqO_s {ns : List Int} : sqO (.scr ns) = some (ns.map .int) := rfl
theorem lenO_K {t : Option Nat} {kvs : List (Key × D)} : lenO (.own t (.dK kvs)) = some kvs.length := rfl
theorem lenO_T {t : Option Nat} {kvs : List (List Key × D)} : lenO (.own t (.dT kvs)) = some kvs.length := rfl
theorem lenO_o {t : Option Nat} {ds : List D} : lenO (.own t (.lst ds)) = some ds.length := rfl
theorem lenO_l {ds : List D} : lenO (.val (.list ds)) = some ds.length := rfl
theorem lenO_t {ds : List D} : lenO (.val (.tuple ds)) = some ds.length := rfl
theorem lenO_s {ns : List Int} : lenO (.scr ns) = some ns.length := by simp [lenO, sqO]
theorem tuO_t {ds : List D} : tuO (.val (.tuple ds)) = some ds := rfl
section
variable {i j l : Nat} {env e : En} {D : DEnds}
def rng1F (ds : List DV.D) (e : En) (Q : List DV.D → En → Prop) (_ : Mk Q) : Prop := match ds with
  | [.int j] => (-(2 ^ 62) ≤ j ∧ j < 2 ^ 62) ∧ Q (rngD 0 j.toNat) e
  | _ => False
theorem rng1F_i {j : Int} {Q : List DV.D → En → Prop} {u : Mk Q} : rng1F [.int j] e Q u = ((-(2 ^ 62) ≤ j ∧ j < 2 ^ 62) ∧ Q (rngD 0 j.toNat) e) := propext Iff.rfl
theorem z_Rng1 {w : DVs} {Q : List DV.D → En → Prop} : dRng1 w env Q = w env fun ds e => rng1F ds e Q ⟨⟩ := propext Iff.rfl
def rng2F (ds : List DV.D) (e : En) (Q : List DV.D → En → Prop) (_ : Mk Q) : Prop := match ds with
  | [.int i, .int j] => (-(2 ^ 62) ≤ i ∧ i < 2 ^ 62 ∧ -(2 ^ 62) ≤ j ∧ j < 2 ^ 62) ∧ Q (rngD i (j - i).toNat) e
  | _ => False
theorem rng2F_i {i j : Int} {Q : List DV.D → En → Prop} {u : Mk Q} : rng2F [.int i, .int j] e Q u = ((-(2 ^ 62) ≤ i ∧ i < 2 ^ 62 ∧ -(2 ^ 62) ≤ j ∧ j < 2 ^ 62) ∧ Q (rngD i (j - i).toNat) e) := propext Iff.rfl
theorem z_Rng2 {w : DVs} {Q : List DV.D → En → Prop} : dRng2 w env Q = w env fun ds e => rng2F ds e Q ⟨⟩ := propext Iff.rfl
def enmF (ds : List DV.D) (e : En) (Q : List DV.D → En → Prop) (_ : Mk Q) : Prop := match ds with
  | [.list ds] => Q (enD ds) e
  | _ => False
theorem enmF_l {ds : List DV.D} {Q : List DV.D → En → Prop} {u : Mk Q} : enmF [.list ds] e Q u = Q (enD ds) e := propext Iff.rfl
theorem z_Enm {w : DVs} {Q : List DV.D → En → Prop} : dEnm w env Q = w env fun ds e => enmF ds e Q ⟨⟩ := propext Iff.rfl
def zipF (ds : List DV.D) (e : En) (Q : List DV.D → En → Prop) (_ : Mk Q) : Prop := match ds with
  | [.list ds, .list es] => Q (zipD ds es) e
  | [.tuple ds, .tuple es] => Q (zipD ds es) e
  | _ => False
theorem zipF_l {ds es : List DV.D} {Q : List DV.D → En → Prop} {u : Mk Q} : zipF [.list ds, .list es] e Q u = Q (zipD ds es) e := propext Iff.rfl
theorem zipF_t {ds es : List DV.D} {Q : List DV.D → En → Prop} {u : Mk Q} : zipF [.tuple ds, .tuple es] e Q u = Q (zipD ds es) e := propext Iff.rfl
theorem z_Zip {w : DVs} {Q : List DV.D → En → Prop} : dZip w env Q = w env fun ds e => zipF ds e Q ⟨⟩ := propext Iff.rfl
def parF (i j : Nat) (os : List Opd) (e : En) (D : DEnds) (_ : Mk D) : Prop := match os with
  | [.res r1, .res r2] => D.nx ((e.set i (some r1)).set j (some r2))
  | _ => False
theorem parF_r {r1 r2 : Slot} {u : Mk D} : parF i j [.res r1, .res r2] e D u = D.nx ((e.set i (some r1)).set j (some r2)) := propext Iff.rfl
theorem z_Par {ws : DOs} : dPar i j ws env D = ws env fun os e => parF i j os e D ⟨⟩ := propext Iff.rfl
def par3F (i j l : Nat) (os : List Opd) (e : En) (D : DEnds) (_ : Mk D) : Prop := match os with
  | [.res r1, .res r2, .res r3] => D.nx (((e.set i (some r1)).set j (some r2)).set l (some r3))
  | _ => False
theorem par3F_r {r1 r2 r3 : Slot} {u : Mk D} : par3F i j l [.res r1, .res r2, .res r3] e D u = D.nx (((e.set i (some r1)).set j (some r2)).set l (some r3)) := propext Iff.rfl
theorem z_Par3 {ws : DOs} : dPar3 i j l ws env D = ws env fun os e => par3F i j l os e D ⟨⟩ := propext Iff.rfl
theorem z_Never : dNever env D = False := propext Iff.rfl
theorem z_NevE {Q : Slot → En → Prop} : dNevE env Q = False := propext Iff.rfl
section
variable {t : Option Nat} {kvs : List (Key × DV.D)} {kvt : List (List Key × DV.D)} {s : Slot} {R : DV.D → Prop}
theorem z_getK : getS (.own t (.dK kvs)) s R = ndF (kyS s) (fun k => R ((valD kvs k).getD .none)) ⟨⟩ := propext Iff.rfl
theorem z_getT : getS (.own t (.dT kvt)) s R = ndF (ksS s) (fun k => R ((valD kvt k).getD .none)) ⟨⟩ := propext Iff.rfl
end
end
/-! loops, by an invariant -/
section
variable {g g1 : DG} {b : DS} {D : DEnds} {ds : List DV.D} {env : En}
theorem for_inv {u : Mk D} (I : Nat → En → Prop) (h0 : I 0 env)
    (hs : ∀ (i : Nat) (d : DV.D) (e : En) (N : En → Prop), ds[i]? = some d → I i e → (∀ e', I (i + 1) e' → N e') → g (.val d) e fun e1 => b e1 { nx := N, ct := N, bk := D.nx, rt := D.rt })
    (hd : ∀ e, I ds.length e → D.nx e) : fF g b ds env D u := by
  show dForL g b ds env D
  have key : ∀ (rest pre : List DV.D) (e : En), ds = pre ++ rest → I pre.length e → dForL g b rest e D := by
    intro rest
    induction rest with
    | nil => intro pre e h hI; rw [List.append_nil] at h; rw [← h] at hI; exact hd e hI
    | cons d rest ih => intro pre e h hI; exact hs pre.length d e _ (by rw [h]; simp) hI fun e' q => ih (pre ++ [d]) e' (by rw [h]; simp) (by simpa using q)
  exact key ds [] env rfl h0
theorem lc_inv {t : DT} {w : DV} {vs : List Nat} {Q : List DV.D → En → Prop} {u : Mk Q} (I : Nat → List DV.D → En → Prop) (h0 : I 0 [] env)
    (hs : ∀ (i : Nat) (d : DV.D) (ys : List DV.D) (e : En) (N1 : DV.D → En → Prop) (N0 : En → Prop), ds[i]? = some d → I i ys e → (∀ y e', I (i + 1) (ys ++ [y]) e' → N1 y e') → (∀ e', I (i + 1) ys e' → N0 e') → g (.val d) (wipeE vs e) fun e1 => t e1 fun b e2 => ifB b (w e2 N1) (N0 e2) ⟨⟩ ⟨⟩)
    (hd : ∀ ys e, I ds.length ys e → Q ys e) : lcF g t w vs ds env Q u := by
  show dLcL g t w vs ds env Q
  have key : ∀ (rest pre ys : List DV.D) (e : En) (Q' : List DV.D → En → Prop), ds = pre ++ rest → I pre.length ys e → (∀ zs e', I ds.length (ys ++ zs) e' → Q' zs e') → dLcL g t w vs rest e Q' := by
    intro rest
    induction rest with
    | nil => intro pre ys e Q' h hI k; rw [List.append_nil] at h; rw [← h] at hI; exact k [] e (by rw [List.append_nil]; exact hI)
    | cons d rest ih =>
      intro pre ys e Q' h hI k
      exact hs pre.length d ys e _ _ (by rw [h]; simp) hI (fun y e' q => ih (pre ++ [d]) (ys ++ [y]) e' _ (by rw [h]; simp) (by simpa using q) fun zs e2 q2 => k (y :: zs) e2 (by simpa using q2))
        fun e' q => ih (pre ++ [d]) ys e' _ (by rw [h]; simp) (by simpa using q) k
  exact key ds [] [] env Q rfl h0 fun zs e' q => hd zs e' (by simpa using q)
theorem al_inv {t : DT} {w : DE} {vs : List Nat} {Q : Bool → En → Prop} {u : Mk Q} (I : Nat → En → Prop) (h0 : I 0 env)
    (hs : ∀ (i : Nat) (d : DV.D) (e : En) (N : En → Prop), ds[i]? = some d → I i e → (∀ e', I (i + 1) e' → N e') → g (.val d) (wipeE vs e) fun e1 => t e1 fun b e2 => ifB b (w e2 fun r e3 => ndF (isB r) (fun c => ifB c (N e3) (Q false e3) ⟨⟩ ⟨⟩) ⟨⟩) (N e2) ⟨⟩ ⟨⟩)
    (hd : ∀ e, I ds.length e → Q true e) : alF g t w vs ds env Q u := by
  show dAllL g t w vs ds env Q
  have key : ∀ (rest pre : List DV.D) (e : En), ds = pre ++ rest → I pre.length e → dAllL g t w vs rest e Q := by
    intro rest
    induction rest with
    | nil => intro pre e h hI; rw [List.append_nil] at h; rw [← h] at hI; exact hd e hI
    | cons d rest ih => intro pre e h hI; exact hs pre.length d e _ (by rw [h]; simp) hI fun e' q => ih (pre ++ [d]) e' (by rw [h]; simp) (by simpa using q)
  exact key ds [] env rfl h0
theorem lc2_inv {t t1 : DT} {wi1 : DI} {w : DV} {vs vs1 : List Nat} {Q : List DV.D → En → Prop} {u : Mk Q} (I : Nat → List DV.D → En → Prop) (h0 : I 0 [] env)
    (hs : ∀ (i : Nat) (d : DV.D) (ys : List DV.D) (e : En) (N1 : List DV.D → En → Prop) (N0 : En → Prop), ds[i]? = some d → I i ys e → (∀ zs e', I (i + 1) (ys ++ zs) e' → N1 zs e') → (∀ e', I (i + 1) ys e' → N0 e') →
      g (.val d) (wipeE vs e) fun e1 => t e1 fun b e2 => ifB b (wi1 e2 fun ds1 e3 => ds1.length ≤ 4000 ∧ lcF g1 t1 w vs1 ds1 (wipeE vs1 e3) (fun zs e4 => N1 zs (wipeE vs1 e4)) ⟨⟩) (N0 e2) ⟨⟩ ⟨⟩)
    (hd : ∀ ys e, I ds.length ys e → Q ys e) : lc2F g t wi1 g1 t1 w vs vs1 ds env Q u := by
  show dLc2L g t wi1 g1 t1 w vs vs1 ds env Q
  have key : ∀ (rest pre ys : List DV.D) (e : En) (Q' : List DV.D → En → Prop), ds = pre ++ rest → I pre.length ys e → (∀ zs e', I ds.length (ys ++ zs) e' → Q' zs e') → dLc2L g t wi1 g1 t1 w vs vs1 rest e Q' := by
    intro rest
    induction rest with
    | nil => intro pre ys e Q' h hI k; rw [List.append_nil] at h; rw [← h] at hI; exact k [] e (by rw [List.append_nil]; exact hI)
    | cons d rest ih =>
      intro pre ys e Q' h hI k
      exact hs pre.length d ys e (fun zs e4 => dLc2L g t wi1 g1 t1 w vs vs1 rest e4 fun zs' e' => Q' (zs ++ zs') e') _ (by rw [h]; simp) hI (fun zs e' q => ih (pre ++ [d]) (ys ++ zs) e' _ (by rw [h]; simp) (by simpa using q) fun zs' e2 q2 => k (zs ++ zs') e2 (by simpa using q2))
        fun e' q => ih (pre ++ [d]) ys e' _ (by rw [h]; simp) (by simpa using q) k
  exact key ds [] [] env Q rfl h0 fun zs e' q => hd zs e' (by simpa using q)
theorem al2_inv {t t1 : DT} {wi1 : DI} {w : DE} {vs vs1 : List Nat} {Q : Bool → En → Prop} {u : Mk Q} (I : Nat → En → Prop) (h0 : I 0 env)
    (hs : ∀ (i : Nat) (d : DV.D) (e : En) (N : En → Prop), ds[i]? = some d → I i e → (∀ e', I (i + 1) e' → N e') →
      g (.val d) (wipeE vs e) fun e1 => t e1 fun b e2 => ifB b (wi1 e2 fun ds1 e3 => ds1.length ≤ 4000 ∧ alF g1 t1 w vs1 ds1 (wipeE vs1 e3) (fun c e4 => if c = true then N (wipeE vs1 e4) else Q false e4) ⟨⟩) (N e2) ⟨⟩ ⟨⟩)
    (hd : ∀ e, I ds.length e → Q true e) : al2F g t wi1 g1 t1 w vs vs1 ds env Q u := by
  show dAll2L g t wi1 g1 t1 w vs vs1 ds env Q
  have key : ∀ (rest pre : List DV.D) (e : En), ds = pre ++ rest → I pre.length e → dAll2L g t wi1 g1 t1 w vs vs1 rest e Q := by
    intro rest
    induction rest with
    | nil => intro pre e h hI; rw [List.append_nil] at h; rw [← h] at hI; exact hd e hI
    | cons d rest ih => intro pre e h hI; exact hs pre.length d e _ (by rw [h]; simp) hI fun e' q => ih (pre ++ [d]) e' (by rw [h]; simp) (by simpa using q)
  exact key ds [] env rfl h0
theorem wh_inv {t : DT} {u : Mk D} (I : En → Prop) (μ : En → Nat) (h0 : I env)
    (hs : ∀ (e : En) (N : En → Prop), I e → (∀ e', I e' → μ e' < μ e → N e') → t e fun c e1 => ifB c (b e1 { nx := N, ct := N, bk := D.nx, rt := D.rt }) (D.nx e1) ⟨⟩ ⟨⟩) : whF t b env D u := by
  refine ⟨μ env + 1, ?_⟩
  have key : ∀ (n : Nat) (e : En), I e → μ e < n → dWhN t b n e D := by
    intro n
    induction n with
    | zero => intro e _ h; omega
    | succ n ih => intro e hI h; exact hs e _ hI fun e' q l => ih e' q (by omega)
  exact key _ env h0 (Nat.lt_succ_self _)
end
end DV

set_option Elab.async false
set_option linter.all false
set_option maxRecDepth 100000
set_option maxHeartbeats 4000000
/-! d.get(k, x) -/
namespace DV
open PySem PySem.Spec PyProof.Rows L2
section
variable {tb : List Addr} {X : Cx}
def getS2 (x s : Slot) (z : D) (R : D → Prop) : Prop := match x with
  | .own _ (.dK kvs) => need (kyS s) fun k => R ((valD kvs k).getD z)
  | .own _ (.dT kvs) => need (ksS s) fun k => R ((valD kvs k).getD z)
  | .own _ (.lst _) => False
  | .val _ => False
  | .scr _ => False
theorem getS2_mono {x s : Slot} {z : D} {R R' : D → Prop} (k : ∀ r, R r → R' r) : getS2 x s z R → getS2 x s z R' := by
  unfold getS2
  split
  · intro q
    obtain ⟨i, e, q⟩ := need_out q
    exact need_in e (k _ q)
  · intro q
    obtain ⟨i, e, q⟩ := need_out q
    exact need_in e (k _ q)
  · exact id
  · exact id
  · exact id
def dGet2 (i : Nat) (w : DO) (wf : DV) : DE := fun env Q => need (sl env i) fun x => isDic x = true ∧ w env fun o e => wf e fun z e2 => need (con e2 o) fun s => need (sl e2 i) fun x => getS2 x s z fun d => Q (.val d) e2
theorem se_get2 (i : Nat) {x : Str} {e f : Expr} {px apos cpos : Pos} {w : DO} {wf : DV} (hu : X.A.units + 1 < cLine) (he : SO tb X e w) (hf : SV tb X f wf) (hN : X.N[i]? = some x := by rfl) (hv : Vis X.env.scope x := by first | exact Or.inl rfl | exact Or.inr (Or.inl rfl) | exact Or.inr (Or.inr rfl)) (hd : (x == ("__debug__" : Str)) = false := by decide)
    (hcd : (x == ("__classdict__" : Str)) = false := by decide) (hbase : attributeBase (.Name x px) "get" X.env (eval (.Name x px) X.env) = eval (.Name x px) X.env := by rfl)
    (hfew : ((backTo cpos (starEach [e, f] X.env)).all (fun x => !x.1) && (backToKw cpos (keywordEach [] X.env)).all (fun x => x.1.isSome)
      && decide (([e, f] : List Expr).length + ([] : List Keyword).length + (if ([] : List Keyword).isEmpty then 0 else 1) < 30)) = true := by rfl)
    (hline : (apos.endLine == cpos.line) = true := by rfl) (hs : backTo cpos (starEach [e, f] X.env) = [(false, eval e X.env), (false, eval f X.env)] := by rfl) :
    SE tb X (.Call (.Attribute (.Name x px) "get" apos) [e, f] [] cpos) (dGet2 i w wf) :=
  ⟨fun env Q Q' k q => by
    obtain ⟨x, c, a, q⟩ := need_out q
    refine need_in c ⟨a, he.mono env _ _ (fun o e q => hf.mono _ _ _ (fun z e2 q => ?_) q) q⟩
    obtain ⟨s, c1, q⟩ := need_out q
    obtain ⟨x, c2, q⟩ := need_out q
    exact need_in c1 (need_in c2 (getS2_mono (fun _ => k _ _) q)), (pe_dget2 hu (pe_var hN hv hd hcd) he.pe hf.pe ⟨hbase, hfew, hline, hs⟩).imp fun σ H Q ⟨Z, Fr, As, env, I, q⟩ => by
    obtain ⟨x, c, a, q⟩ := need_out q
    have hx : ∃ b, σ[i]? = some (some (.ref b)) ∧ IsD H b := by
      unfold isDic at a
      split at a
      · obtain ⟨b, h0, ⟨l, hl, _⟩, _⟩ := I.atOwn (sl_at c)
        exact ⟨b, h0, .inl ⟨l, .inl hl⟩⟩
      · obtain ⟨b, h0, ⟨l, hl, _⟩, _⟩ := I.atOwn (sl_at c)
        exact ⟨b, h0, .inr ⟨l, .inl hl⟩⟩
      · cases a
    obtain ⟨b, h0, hb⟩ := hx
    refine ⟨_, h0, b, rfl, hb, Z, Fr, As, env, I, he.mono env _ _ (fun o e q v H1 Z1 st1 I1 r1 => ?_) q⟩
    refine ⟨Z1, _, As, e, r1.prot I1, hf.mono e _ _ (fun zd e2 q v2 H2 Z2 st2 I2 r2 => ?_) q⟩
    have wk : ∀ a, Fr a → Fr a ∨ OwnO v o a := fun a => .inl
    have I2' := I2.weak wk
    have r1' := r1.after st2 I2
    obtain ⟨s, c1, q⟩ := need_out q
    obtain ⟨x, c2, q⟩ := need_out q
    have cr := r1'.cr I2' c1
    have st := st1.trans (st2.weak wk)
    unfold getS2 at q
    split at q
    · obtain ⟨k, ek, q⟩ := need_out q
      obtain ⟨b', g1, mr, z⟩ := I2'.atOwn (sl_at c2)
      rw [h0] at g1
      cases g1
      obtain ⟨_, eb, h⟩ := CR.getK (C := ⟨X.K, tb⟩) (t := none) (x := .ref b) ⟨b, rfl, mr⟩ cr ek
      cases eb
      rcases h with ⟨e1, g⟩ | ⟨d, v', e1, g, r⟩
      · rw [e1] at q; exact ⟨_, g, q _ _ _ st I2' r2⟩
      · rw [e1] at q; exact ⟨_, g, q _ _ _ st I2' r⟩
    · obtain ⟨k, ek, q⟩ := need_out q
      obtain ⟨b', g1, mr, z⟩ := I2'.atOwn (sl_at c2)
      rw [h0] at g1
      cases g1
      obtain ⟨_, eb, h⟩ := CR.getT (C := ⟨X.K, tb⟩) (t := none) (x := .ref b) ⟨b, rfl, mr⟩ cr ek
      cases eb
      rcases h with ⟨e1, g⟩ | ⟨d, v', e1, g, r⟩
      · rw [e1] at q; exact ⟨_, g, q _ _ _ st I2' r2⟩
      · rw [e1] at q; exact ⟨_, g, q _ _ _ st I2' r⟩
    · exact q.elim
    · exact q.elim
    · exact q.elim⟩
theorem z_Get2 {i : Nat} {env : En} {w : DO} {wf : DV} {Q : Slot → En → Prop} : dGet2 i w wf env Q = ndF (sl env i) (fun x => isDic x = true ∧ w env fun o e => wf e fun z e2 => ndF (con e2 o) (fun s => ndF (sl e2 i) (fun x => getS2 x s z fun d => Q (.val d) e2) ⟨⟩) ⟨⟩) ⟨⟩ := propext Iff.rfl
theorem z_get2K {t : Option Nat} {kvs : List (Key × D)} {s : Slot} {z : D} {R : D → Prop} : getS2 (.own t (.dK kvs)) s z R = ndF (kyS s) (fun k => R ((valD kvs k).getD z)) ⟨⟩ := propext Iff.rfl
theorem z_get2T {t : Option Nat} {kvs : List (List Key × D)} {s : Slot} {z : D} {R : D → Prop} : getS2 (.own t (.dT kvs)) s z R = ndF (ksS s) (fun k => R ((valD kvs k).getD z)) ⟨⟩ := propext Iff.rfl
end
end DV

set_option Elab.async false
set_option linter.all false
set_option maxRecDepth 100000
set_option maxHeartbeats 4000000
/-! enumerate(tuple) -/
namespace L2
open PySem PySem.Spec PyProof.Rows
open Sem (wp)
open Builtin Builtin.Str
theorem meets_enum1 {v : Value} {o : Obj} {H : Heap → Prop} (B : Begins v o H) :
    Meets (Builtin.«enumerate.__new__» ⟨[.type "enumerate", v], []⟩) (fun _ R s => H s.heap ∧
      R (.ok (.ret (.ref (s.heap.push o).objs.size))) { s with heap := (s.heap.push o).push { cls := .type "enumerate", data := .fields #[.none, .bool false, .ref s.heap.objs.size, rawInt 0, .none, .none] } }) :=
  .of_wp fun prog w A R s h => by
    obtain ⟨hp, g, d, tk, os⟩ := s; obtain ⟨h1, h⟩ := h
    have hsub := sub_enumerate
    have q1 : ∀ {A' : Around} {E : Value → Shared → Prop} {Q : Value → Shared → Prop}, Q (.ref hp.objs.size) ⟨hp.push o, g, d, tk, os⟩ → wpAny (model prog w) A' (pyIter v) Q E ⟨hp, g, d, tk, os⟩ :=
      fun q => B.iter prog w _ _ ⟨hp, g, d, tk, os⟩ _ h1 q
    wp_walk using q1
    refine wpAny_stack_any fun st => wpAny_pure ?_
    split
    · rename_i c _ _ _ _ _
      cases (c == Value.type "enumerate")
      · wp_walk using q1
        exact ⟨_, rfl, h⟩
      · wp_walk using q1
        exact ⟨_, rfl, h⟩
    · wp_walk using q1
      exact ⟨_, rfl, h⟩
section
variable {prog : Program} {w : World} {A : Around} {E : Value → Shared → Prop} {s : Shared}
theorem call_enum1 {v : Value} {o : Obj} {H : Heap → Prop} {Q : Value → Shared → Prop} (B : Begins v o H) (h1 : H s.heap)
    (h : ∀ h', IsEnum h' (s.heap.objs.size + 1) s.heap.objs.size 0 .none → h'.get? s.heap.objs.size = some o → h'.objs.size = s.heap.objs.size + 2 →
      (∀ b o, s.heap.get? b = some o → h'.get? b = some o) → Q (.ref (s.heap.objs.size + 1)) { s with heap := h' }) :
    wpAny (model prog w) A (call (.type "enumerate") [v]) Q E s := by
  refine callType_new F.called_enumerate (by decide) (F.typeCall_enumerate_1 _) (F.newCall_enumerate_1 _) (fun obj => F.args_object_init_2 obj _) F.entry_enumerate_new
    (meets_enum1 B) ⟨h1, ?_⟩
  have hz : (s.heap.push o).objs.size = s.heap.objs.size + 1 := Heap.size_push ..
  show _ ∧ _
  rw [hz]
  have he : IsEnum ((s.heap.push o).push { cls := .type "enumerate", data := .fields #[.none, .bool false, .ref s.heap.objs.size, rawInt 0, .none, .none] }) (s.heap.objs.size + 1) s.heap.objs.size 0 .none := by
    have := Heap.get?_push_size (s.heap.push o) (o := { cls := .type "enumerate", data := .fields #[.none, .bool false, .ref s.heap.objs.size, rawInt 0, .none, .none] }) rfl
    rw [hz] at this; exact this
  refine ⟨⟨_, he, rfl⟩, h _ he (Heap.get?_push_of_some _ (Heap.get?_push_size _ B.free)) (by rw [Heap.size_push, hz]) fun b o x => Heap.get?_push_of_some _ (Heap.get?_push_of_some _ x)⟩
theorem next_enumT_end {e it t : Addr} {i : Nat} {items : Array Value} {old : Value} {Q : Option Value → Shared → Prop} (hh : A.handled = none)
    (he : IsEnum s.heap e it i old) (hit : s.heap.IsTupleIter it t i) (ht : s.heap.IsTuple t items) (hx : items[i]? = none)
    (hQ : ∀ h', Heap.ExtBut it s.heap h' → Q none { s with heap := h' }) : wpAny (model prog w) A (pyNext (.ref e)) Q E s := by
  have hT : s.TypeIs (.ref e) "enumerate" := ⟨_, he, rfl⟩
  unfold pyNext
  refine wpAny_bind (wpAny_attempt (wpAny_callSpecial?_slot (name := Str.ofString "__next__") hT F.slot_enumerate_next
    (wpAny_call_entry F.slot_enumerate_next hT F.entry_enumerate_next ?_ (F.args_enumerate_next_1 _))))
  show wpAny _ _ (field (.ref e) 2 >>= _) _ _ _
  refine wpAny_bind (wpAny_field he rfl (x := .ref it) rfl ?_)
  refine wpAny_bind (wpAny_nextOf_tuple_end (show A.in1.handled = none from hh) hit ht hx fun h' x he' hx' => ?_)
  obtain ⟨o, ho, hc⟩ := hx'
  refine wpAny_bind (wpAny_isInstance (T := "StopIteration") (b := true) ⟨o, ho, hc⟩ isSubtype_stop ?_)
  exact wpAny_pure (hQ _ he')
end
/-- the tuple at a, each item in a new pair -/
def IteT (K : PySem.W.Frag) (a : Addr) : It :=
  ⟨fun i H => ∃ (xs : List V) (x : V), SqT K H a xs ∧ xs[i]? = some x, fun i H v H' => ∃ T x, v = .ref T ∧ H T = none ∧ H' = upd H T (.tup [.int (i : Nat), x]) ∧ ∀ xs, SqT K H a xs → xs[i]? = some x, fun i H => ∃ xs : List V, SqT K H a xs ∧ xs.length ≤ i⟩
theorem turn_enumT {P : Program} {w : World} {K : PySem.W.Frag} {elts : List Expr} {kk : Nat} {tpos : Pos} (a e it : Addr) :
    Turn P w K (.Tuple elts kk tpos) (IteT K a) [e, it] e (fun i h => (∃ old, IsEnum h e it ((i : Nat) : Int) old) ∧ h.IsTupleIter it a i ∧ e ≠ it ∧ e ≠ a ∧ a ≠ it) where
  mem := by simp
  obj := fun i h st b hb => by
    obtain ⟨⟨old, he⟩, ⟨o, ho, hc, hd⟩, _⟩ := st
    have e' : b = e ∨ b = it := by simpa using hb
    rcases e' with z | z
    · rw [z]; exact ⟨_, he, fun v q => nomatch q⟩
    · rw [z]; exact ⟨o, ho, fun v q => by rw [hd] at q; cases q⟩
  keep := fun i h h' st k => let ⟨⟨old, he⟩, hi, hne⟩ := st; ⟨⟨old, k e (by simp) _ he⟩, hi.at fun o q => k it (by simp) o q, hne⟩
  item := by
    intro X hP hw hK hc i pins s σ H E I hf st hg
    subst hP hw hK
    obtain ⟨⟨old, he⟩, hit, hne, hea, hai⟩ := st
    obtain ⟨xs, x, hq, hx⟩ := hg
    obtain ⟨its, rv, p, hz⟩ := I.tuple hq
    obtain ⟨u, hu, ru⟩ := rv.get hx
    have hel : e < s.heap.objs.size := Heap.lt_size he
    have hil : it < s.heap.objs.size := by obtain ⟨_, q, _⟩ := hit; exact Heap.lt_size q
    have hlt : i < its.toArray.size := by have := DV.getElem?_lt' hu; simpa using this
    refine wpAny_pyNext_enum_itemD (Draws.tuple (show X.A.in1.handled = none from I.ok.hd hc) it a hai its.toArray) he ⟨hit, p⟩ hlt hne (by simp [hne, hea]) fun y h' tk hy ho hst' hT hsz hk => ?_
    obtain ⟨hit', _⟩ := hst'
    have hyu : y = u := by
      have : its.toArray[i]? = some u := by simpa using hu
      rw [this] at hy
      injection hy with hy
      exact hy.symm
    subst hyu
    refine ⟨_, rfl, wpAny_letOwnedTupleGo_enum (s := { s with heap := h', toks := tk + 1 }) ho fun h'' he' sb => ?_⟩
    have hT2 : h''.get? s.heap.objs.size = some { cls := .type "tuple", data := .seq #[.int i tk, y] } := (sb.2 _ (Nat.ne_of_gt hel)).trans hT
    have new : ObjOk X.prog X.w (upd H s.heap.objs.size (.tup [.int (i : Nat), x])) h'' s.heap.objs.size (.tup [.int (i : Nat), x]) :=
      ⟨by show 2 ≤ sizeLine; decide, [.int i tk, y], .cons ⟨_, rfl⟩ (.cons ru .nil), ⟨_, hT2, rfl, _, rfl⟩⟩
    have I1 : Inv X pins σ (upd H s.heap.objs.size (.tup [.int (i : Nat), x])) { s with heap := h'', toks := tk + 1 } :=
      I.turnedNew (ch := [e, it]) (fun b ob hb q => (sb.2 b (fun z => hb (by simp [z]))).trans (hk b ob (fun z => hb (by simp [z])) (fun z => hb (by simp [z])) q)) hf (Nat.le_refl _) new
    refine ⟨.ref s.heap.objs.size, _, I1, rfl, ⟨_, x, rfl, I.hok.fresh (Nat.le_refl _), rfl, fun ys hy => by rw [I.tuple_inj hy hq]; exact hx⟩, ⟨⟨y, ?_⟩, hit'.at fun o q => (sb.2 it (Ne.symm hne)).trans q, hne, hea, hai⟩, fun b hb => ?_⟩
    · have e1 : ((i + 1 : Nat) : Int) = (i : Int) + 1 := by omega
      rw [e1]; exact he'
    · have hb' : b < s.heap.objs.size := by
        have e' : b = e ∨ b = it := by simpa using hb
        rcases e' with z | z
        · rw [z]; exact hel
        · rw [z]; exact hil
      rw [upd_ne (Nat.ne_of_lt hb')]
      exact (hf b hb).1
  done := by
    intro X hP hw hK hc i pins s σ H E I hf st hg
    subst hP hw hK
    obtain ⟨⟨old, he⟩, hit, hne, hea, hai⟩ := st
    obtain ⟨xs, hq, hx⟩ := hg
    obtain ⟨its, rv, p, hz⟩ := I.tuple hq
    obtain ⟨f0, f1, f2, f3, f4, f5⟩ := hf it (by simp)
    have hl := rv.length
    exact next_enumT_end (I.ok.hd hc) he hit p (by simp; omega) fun h' eb => ⟨rfl, I.turned (t' := s.toks) (fun b o hb q => eb b o hb q) f0 f1 f3 f4 f5⟩
  self := fun A i s Q E st h => let ⟨⟨_, he⟩, _⟩ := st; wpAny_pyIter_enum he h
def iEnumT (K : PySem.W.Frag) (ta : TA) : TI := fun σ H R => ta σ H fun vs H1 => ∃ a xs, vs = [.ref a] ∧ ((SqL K H1 a xs ∧ R (Ite K a) H1) ∨ (SqT K H1 a xs ∧ R (IteT K a) H1))
theorem pi_enumT {X : Cx} {e : Expr} {ta : TA} {p pos tpos : Pos} {elts : List Expr} {kk : Nat} (hg : Gl X "enumerate") (hm : X.mg "enumerate" = none) (ha : PA X [e] ta) (hs : starEach [e] X.env = [(false, eval e X.env)] := by rfl) :
    PI X (.Tuple elts kk tpos) (.Call (.Name "enumerate" p) [e] [] pos) (iEnumT X.K ta) := by
  refine ⟨fun pins s σ H R I h => ?_⟩
  refine Call_ (ld_blt I hg hm boot_enumerate (PyProof.Rows.callWith_type1 (thn (ha.run pos pins s σ H _ I h) fun us s1 ⟨vs, H1, I1, r1, q1⟩ => ?_) hs rfl))
  obtain ⟨a, xs, ex, q1⟩ := q1
  subst ex
  cases r1 with
  | cons r rr =>
    cases rr
    cases r
    have fresh : ∀ b, b ∈ [s1.heap.objs.size + 1, s1.heap.objs.size] → FpOk X pins H1 b := fun b hb => by
      have e' : b = s1.heap.objs.size + 1 ∨ b = s1.heap.objs.size := by simpa using hb
      have hle : s1.heap.objs.size ≤ b := by
        rcases e' with z | z
        · rw [z]; exact Nat.le_add_right _ _
        · rw [z]; exact Nat.le_refl _
      exact I1.fpOk hle (I1.hok.fresh hle)
    rcases q1 with ⟨hq, q⟩ | ⟨hq, q⟩
    · obtain ⟨its, rv, p', hz⟩ := I1.list hq
      refine call_enumerate_list p'.isList fun h' he hit hsz hk => wpAny_pyIter_enum he ?_
      have I2 : Inv X pins σ H1 { s1 with heap := h' } := I1.kept (t' := s1.toks) hk
      exact ⟨s1.heap.objs.size + 1, [s1.heap.objs.size + 1, s1.heap.objs.size], _, _, H1, rfl, I2, turn_enum a (s1.heap.objs.size + 1) s1.heap.objs.size, ⟨⟨.none, he⟩, hit, Nat.succ_ne_self _⟩, fresh, q⟩
    · obtain ⟨its, rv, p', hz⟩ := I1.tuple hq
      have p' : s1.heap.IsTuple a its.toArray := p'
      obtain ⟨o1, ho1, _⟩ := id p'
      have hal := Heap.lt_size ho1
      refine call_enum1 (begins_tuple a its.toArray) p' fun h' he hit hsz hk => wpAny_pyIter_enum he ?_
      have I2 : Inv X pins σ H1 { s1 with heap := h' } := I1.kept (t' := s1.toks) hk
      exact ⟨s1.heap.objs.size + 1, [s1.heap.objs.size + 1, s1.heap.objs.size], _, _, H1, rfl, I2, turn_enumT a (s1.heap.objs.size + 1) s1.heap.objs.size, ⟨⟨.none, he⟩, ⟨_, hit, rfl, rfl⟩, Nat.succ_ne_self _, Nat.ne_of_gt (Nat.lt_succ_of_lt hal), Nat.ne_of_lt hal⟩, fresh, q⟩
end L2
namespace DV
open PySem PySem.Spec PyProof.Rows L2
section
variable {C : Cfg} {Z Fr : Addr → Prop} {H : Hp} {a : Addr} {vs : List V} {ds : List D}
theorem itOk_enumT (h : SqT C.K H a vs) (r : Rps C.K Z H vs ds) : ItOk C Z Fr H (IteT C.K a) (enD ds) := fun Fr2 Z2 H2 i st ok => by
  have q : SqT C.K H2 a vs := st.sqt h
  refine ⟨fun d e => ?_, fun l => ⟨vs, q, by rw [r.length]; rw [enD_length] at l; exact l⟩⟩
  obtain ⟨d', e', rfl⟩ := enD_get e
  obtain ⟨v, ev, rv⟩ := (r.step st).get e'
  refine ⟨⟨vs, v, q, ev⟩, fun x H3 ⟨p, y, ex, np, e3, k⟩ => ?_⟩
  have := k vs q
  rw [ev] at this
  cases this
  subst e3 ex
  exact ⟨.inr ⟨p, _, np, rfl⟩, .tup upd_same (.cons (.int _) (.cons (rv.step (Step.new ok np)) .nil))⟩
end
section
variable {tb : List Addr} {X : Cx}
def dEnmA (w : DVs) : DI := fun env Q => w env fun ds e => match ds with
  | [.list ds] => Q (enD ds) e
  | [.tuple ds] => Q (enD ds) e
  | _ => False
theorem si_enumA {e : Expr} {p pos tpos : Pos} {elts : List Expr} {kk : Nat} {w : DVs} (hg : Gl X "enumerate") (hm : X.mg "enumerate" = none) (ha : SVs tb X [e] w) (hs : starEach [e] X.env = [(false, eval e X.env)] := by rfl) :
    SI tb X (.Tuple elts kk tpos) (.Call (.Name "enumerate" p) [e] [] pos) (dEnmA w) :=
  ⟨fun env Q Q' k q => ha.mono env _ _ (fun ds e q => by
    revert q
    split
    · exact k _ _
    · exact k _ _
    · exact id) q, (pi_enumT hg hm ha.pe hs).imp fun σ H R ⟨Z, Fr, As, env, I, q⟩ => ⟨Z, Fr, As, env, I, ha.mono env _ _ (fun ds e q vs H' Z' st I' r => by
    revert q
    split
    · intro q
      match vs, r with
      | [_], .cons (.lst z h r) .nil => exact ⟨_, _, rfl, .inl ⟨.inl (.inl h), q _ _ _ st I' (itOk_enum (C := ⟨X.K, tb⟩) z h r)⟩⟩
    · intro q
      match vs, r with
      | [_], .cons (.tup h r) .nil => exact ⟨_, _, rfl, .inr ⟨sqT h, q _ _ _ st I' (itOk_enumT (C := ⟨X.K, tb⟩) (sqT h) r)⟩⟩
    · exact fun q => q.elim) q⟩⟩
end
def enmAF (ds : List DV.D) (e : En) (Q : List DV.D → En → Prop) (_ : Mk Q) : Prop := match ds with
  | [.list ds] => Q (enD ds) e
  | [.tuple ds] => Q (enD ds) e
  | _ => False
section
variable {e env : En} {Q : List DV.D → En → Prop}
theorem enmAF_l {ds : List DV.D} {u : Mk Q} : enmAF [.list ds] e Q u = Q (enD ds) e := propext Iff.rfl
theorem enmAF_t {ds : List DV.D} {u : Mk Q} : enmAF [.tuple ds] e Q u = Q (enD ds) e := propext Iff.rfl
theorem z_EnmA {w : DVs} : dEnmA w env Q = w env fun ds e => enmAF ds e Q ⟨⟩ := propext Iff.rfl
end
end DV

set_option Elab.async false
set_option linter.all false
set_option maxRecDepth 100000
set_option maxHeartbeats 0
namespace DV
open PySem PySem.Spec PyProof.Rows L2
/-! ### the text -/
def top (i : Nat) : Stmt := PySem.Challenge.pw_answertests_k10_words_that_lead_to_state.main.body.getD i (.Pass ⟨0, 0, 0, 0⟩)
/-- the defs that hold a generator expression -/
def tf : List He.Defn := [("are_rows", none), ("is_machine_form", none), ("is_word_form", none)]
def tbs (K : Frag) : List Addr := (tf.map (He.cT K)).map (·.2)
/-! _law_first -/
abbrev s__law_first : Stmt := top 34
theorem sc__law_first : FnScope ["script", "most"] ["script", "most"] (defScope s__law_first) := ⟨rfl, rfl, rfl, by decide +kernel, rfl, by decide +kernel, by decide +kernel⟩
def w__law_first : DS :=
  (dRet (dIf (dTst (dOp2 (gEq true) (dVarO 0) (dRes (dLst (dVKs []))))) (dSl (dVarO 0) dNoP (dPrt (dOf (dVar 1)))) (dLst (dVKs [(.int 0)]))))
def fs__law_first : FS := fsOf ["script", "most"] ["script", "most"] w__law_first
/-! _law_well -/
abbrev s__law_well : Stmt := top 32
theorem sc__law_well : FnScope ["cell", "k"] ["cell", "k"] (defScope s__law_well) := ⟨rfl, rfl, rfl, by decide +kernel, rfl, by decide +kernel, by decide +kernel⟩
def w__law_well : DS :=
  (dSeq (dIfS (dTst (dOp2 (gGe) (dVarO 0) (dRes (dOp2 gPow (dRes (dK (.int 10))) (dRes (dK (.int 18))))))) (dRet (dLst (dVCons (dFz (dOp2 gSub (dVarO 0) (dRes (dOp2 gPow (dRes (dK (.int 10))) (dRes (dK (.int 18))))))) (dVCons (dFz (dOp2 gAdd (dRes (dOp2 gMod (dRes (dCB gIntC (dOCons (dVarO 0) dONil))) (dRes (dOp2 gAdd (dRes (dOp2 gPow (dRes (dK (.int 10))) (dRes (dK (.int 29))))) (dRes (dK (.int 319))))))) (dRes (dOp2 gMul (dRes (dK (.int 59))) (dVarO 1))))) (dVCons (dVK (.int 0)) dVNil))))) dNext)
  (dRet (dLst (dVCons (dVK (.int 0)) (dVCons (dFz (dOp2 gMod (dRes (dCB gIntC (dOCons (dRes (dOp2 gAdd (dRes (dOp2 gAdd (dRes (dOp2 gMul (dVarO 0) (dRes (dK (.int 81799))))) (dRes (dOp2 gMul (dRes (dK (.int 59))) (dVarO 1))))) (dRes (dK (.int 13))))) dONil))) (dRes (dOp2 gAdd (dRes (dOp2 gPow (dRes (dK (.int 10))) (dRes (dK (.int 32))))) (dRes (dK (.int 49))))))) (dVCons (dVK (.int 0)) dVNil))))))
def fs__law_well : FS := fsOf ["cell", "k"] ["cell", "k"] w__law_well
/-! _law_take -/
abbrev s__law_take : Stmt := top 33
theorem sc__law_take : FnScope ["well", "many", "got", "stir"] ["well", "many"] (defScope s__law_take) := ⟨rfl, rfl, rfl, by decide +kernel, rfl, by decide +kernel, by decide +kernel⟩
def w__law_take : DS :=
  (dSeq (dIfS (dTst (dOp2 (gGt) (dRes (dOp2 gIx (dVarO 0) (dRes (dK (.int 0))))) (dRes (dK (.int 0))))) (dSeq (dAsg (dOp2 gMod (dRes (dCB gIntC (dOCons (dRes (dOp2 gIx (dVarO 0) (dRes (dK (.int 0))))) dONil))) (dVarO 1)) (gNm 2))
    (dSeq (dSetIx 0 (dRes (dK (.int 0))) (dFz (dOp2 gDiv (dRes (dOp2 gIx (dVarO 0) (dRes (dK (.int 0))))) (dVarO 1))))
    (dRet (dMove 2)))) dNext)
  (dSeq (dSetIx 0 (dRes (dK (.int 2))) (dFz (dOp2 gAdd (dRes (dOp2 gIx (dVarO 0) (dRes (dK (.int 2))))) (dRes (dK (.int 1))))))
  (dSeq (dAsg (dOp2 gAdd (dRes (dOp2 gIx (dVarO 0) (dRes (dK (.int 1))))) (dRes (dOp2 gMul (dRes (dK (.int 32452867))) (dRes (dOp2 gIx (dVarO 0) (dRes (dK (.int 2)))))))) (gNm 3))
  (dSeq (dAsg (dOp2 gMod (dRes (dCB gIntC (dOCons (dRes (dOp2 gAdd (dRes (dOp2 gMul (dRes (dOp2 gMul (dVarO 3) (dVarO 3))) (dVarO 3))) (dRes (dOp2 gMul (dRes (dK (.int 15485867))) (dRes (dOp2 gIx (dVarO 0) (dRes (dK (.int 2))))))))) dONil))) (dRes (dOp2 gAdd (dRes (dOp2 gPow (dRes (dK (.int 10))) (dRes (dK (.int 40))))) (dRes (dK (.int 121)))))) (gNm 3))
  (dSeq (dAsg (dOp2 gMod (dRes (dCB gIntC (dOCons (dRes (dOp2 gAdd (dRes (dOp2 gMul (dVarO 3) (dVarO 3))) (dRes (dOp2 gMul (dRes (dK (.int 67867979))) (dVarO 3))))) dONil))) (dRes (dOp2 gAdd (dRes (dOp2 gPow (dRes (dK (.int 10))) (dRes (dK (.int 39))))) (dRes (dK (.int 3)))))) (gNm 3))
  (dRet (dOp2 gMod (dRes (dCB gIntC (dOCons (dRes (dOp2 gDiv (dVarO 3) (dRes (dOp2 gPow (dRes (dK (.int 10))) (dRes (dK (.int 8))))))) dONil))) (dVarO 1))))))))
def fs__law_take : FS := fsOf ["well", "many", "got", "stir"] ["well", "many"] w__law_take
/-! _law_machine -/
abbrev s__law_machine : Stmt := top 35
theorem sc__law_machine : FnScope ["well", "letters", "answers", "many", "rows", "state", "letter"] ["well", "letters", "answers", "many"] (defScope s__law_machine) := ⟨rfl, rfl, rfl, by decide +kernel, rfl, by decide +kernel, by decide +kernel⟩
def w__law_machine_e1 : DV :=
  (dFz (dTup (dVCons (dFz (dCall fs__law_take (dOCons (dVarO 0) (dOCons (dVarO 3) dONil)))) (dVCons (dFz (dCall fs__law_take (dOCons (dVarO 0) (dOCons (dVarO 2) dONil)))) dVNil))))
def w__law_machine_b1 : DS :=
  (dExp (dApp 4 (dFz (dCB gTupC (dOCons (dRes (dLc (dRng1 (dVCons (dVar 1) dVNil)) (gNm 6) dYes w__law_machine_e1 [6])) dONil)))))
def w__law_machine : DS :=
  (dSeq (dAsg (dLst (dVKs [])) (gNm 4))
  (dSeq (dFor (dRng1 (dVCons (dVar 3) dVNil)) (gNm 5) w__law_machine_b1)
  (dRet (dTup (dVCons (dVar 1) (dVCons (dVar 2) (dVCons (dFz (dCB gTupC (dOCons (dVarO 4) dONil))) dVNil)))))))
def fs__law_machine : FS := fsOf ["well", "letters", "answers", "many", "rows", "state", "letter"] ["well", "letters", "answers", "many"] w__law_machine
/-! is_tuple_of -/
abbrev s_is_tuple_of : Stmt := top 8
theorem sc_is_tuple_of : FnScope ["thing", "least", "most"] ["thing", "least", "most"] (defScope s_is_tuple_of) := ⟨rfl, rfl, rfl, by decide +kernel, rfl, by decide +kernel, by decide +kernel⟩
def w_is_tuple_of : DS :=
  (dRet (dAndV (dIsi .tuple (dVarO 0)) (dChain gLe gLe (dVarO 1) (dRes (dCB gLen (dOCons (dVarO 0) dONil))) (dVarO 2))))
def fs_is_tuple_of : FS := fsOf ["thing", "least", "most"] ["thing", "least", "most"] w_is_tuple_of
/-! is_integer -/
abbrev s_is_integer : Stmt := top 6
theorem sc_is_integer : FnScope ["thing"] ["thing"] (defScope s_is_integer) := ⟨rfl, rfl, rfl, by decide +kernel, rfl, by decide +kernel, by decide +kernel⟩
def w_is_integer : DS :=
  (dRet (dAndV (dIsi .int (dVarO 0)) (dNotV (dIsi .bool (dVarO 0)))))
def fs_is_integer : FS := fsOf ["thing"] ["thing"] w_is_integer
/-! is_within -/
abbrev s_is_within : Stmt := top 7
theorem sc_is_within : FnScope ["thing", "low", "high"] ["thing", "low", "high"] (defScope s_is_within) := ⟨rfl, rfl, rfl, by decide +kernel, rfl, by decide +kernel, by decide +kernel⟩
def w_is_within : DS :=
  (dRet (dAndV (dCall fs_is_integer (dOCons (dVarO 0) dONil)) (dChain gLe gLe (dVarO 1) (dVarO 0) (dVarO 2))))
def fs_is_within : FS := fsOf ["thing", "low", "high"] ["thing", "low", "high"] w_is_within
/-! is_entry_form -/
abbrev s_is_entry_form : Stmt := top 16
theorem sc_is_entry_form : FnScope ["thing", "answers", "many"] ["thing", "answers", "many"] (defScope s_is_entry_form) := ⟨rfl, rfl, rfl, by decide +kernel, rfl, by decide +kernel, by decide +kernel⟩
def w_is_entry_form : DS :=
  (dSeq (dIfS (dTst (dOp2 (gIs false) (dVarO 0) (dRes (dK .none)))) (dRet (dK (.bool true))) dNext)
  (dRet (dAndV (dCall fs_is_tuple_of (dOCons (dVarO 0) (dOCons (dRes (dK (.int 2))) (dOCons (dRes (dK (.int 2))) dONil)))) (dAndV (dCall fs_is_within (dOCons (dRes (dOp2 gIx (dVarO 0) (dRes (dK (.int 0))))) (dOCons (dRes (dK (.int 0))) (dOCons (dRes (dOp2 gSub (dVarO 2) (dRes (dK (.int 1))))) dONil)))) (dCall fs_is_within (dOCons (dRes (dOp2 gIx (dVarO 0) (dRes (dK (.int 1))))) (dOCons (dRes (dK (.int 0))) (dOCons (dRes (dOp2 gSub (dVarO 1) (dRes (dK (.int 1))))) dONil))))))))
def fs_is_entry_form : FS := fsOf ["thing", "answers", "many"] ["thing", "answers", "many"] w_is_entry_form
/-! are_rows -/
abbrev s_are_rows : Stmt := top 17
theorem sc_are_rows : FnScope ["thing", "letters", "answers", "row", "one"] ["thing", "letters", "answers"] (defScope s_are_rows) := ⟨rfl, rfl, rfl, by decide +kernel, rfl, by decide +kernel, by decide +kernel⟩
def w_are_rows_g1 : DE :=
  (dCall fs_is_entry_form (dOCons (dVarO 4) (dOCons (dVarO 2) (dOCons (dRes (dCB gLen (dOCons (dVarO 0) dONil))) dONil))))
def w_are_rows_b1 : DS :=
  (dIfS (dOr (dNot (dTst (dCall fs_is_tuple_of (dOCons (dVarO 3) (dOCons (dVarO 1) (dOCons (dVarO 1) dONil)))))) (dNot (dTst (dAll (dSq (dVar 3)) (gNm 4) dYes w_are_rows_g1 [4])))) (dRet (dK (.bool false))) dNext)
def w_are_rows : DS :=
  (dSeq (dIfS (dNot (dTst (dIsi .tuple (dVarO 0)))) (dRet (dK (.bool false))) dNext)
  (dSeq (dFor (dSq (dVar 0)) (gNm 3) w_are_rows_b1)
  (dRet (dK (.bool true)))))
def fs_are_rows : FS := fsOf ["thing", "letters", "answers", "row", "one"] ["thing", "letters", "answers"] w_are_rows
/-! is_tree -/
abbrev s_is_tree : Stmt := top 18
theorem sc_is_tree : FnScope ["rows", "met", "waiting", "entry", "row"] ["rows"] (defScope s_is_tree) := ⟨rfl, rfl, rfl, by decide +kernel, rfl, by decide +kernel, by decide +kernel⟩
def w_is_tree_t1 : DT :=
  (dTst (dOp2 (gIs true) (dVarO 3) (dRes (dK .none))))
def w_is_tree_e1 : DV :=
  (dVK (.int 1))
def w_is_tree_s1 : DI :=
  (dSq (dVar 4))
def w_is_tree_b1 : DS :=
  (dIfS (dAnd (dTst (dOp2 (gIs true) (dVarO 3) (dRes (dK .none)))) (dTst (dOp2 (gIn true) (dRes (dOp2 gIx (dVarO 3) (dRes (dK (.int 0))))) (dVarO 1)))) (dSeq (dSetIx 1 (dRes (dOp2 gIx (dVarO 3) (dRes (dK (.int 0))))) (dVK (.bool true)))
        (dExp (dApp 2 (dFz (dOp2 gIx (dVarO 3) (dRes (dK (.int 0)))))))) dNext)
def w_is_tree_t2 : DT :=
  (dTst (dOp2 (gEq true) (dVarO 2) (dRes (dLst (dVKs [])))))
def w_is_tree_b2 : DS :=
  (dFor (dSq (dFz (dOp2 gIx (dVarO 0) (dRes (dPop 2))))) (gNm 3) w_is_tree_b1)
def w_is_tree : DS :=
  (dSeq (dIfS (dTst (dOp2 (gEq true) (dRes (dCB gLen (dOCons (dRes (dLc2 (dSq (dVar 0)) (gNm 4) dYes w_is_tree_s1 (gNm 3) w_is_tree_t1 w_is_tree_e1 [4, 3] [3])) dONil))) (dRes (dOp2 gSub (dRes (dCB gLen (dOCons (dVarO 0) dONil))) (dRes (dK (.int 1))))))) (dRet (dK (.bool false))) dNext)
  (dSeq (dPar 1 2 (dOCons (dRes (dDisK (dVK (.int 0)) (dVK (.bool true)))) (dOCons (dRes (dLst (dVKs [(.int 0)]))) dONil)))
  (dSeq (dWh w_is_tree_t2 w_is_tree_b2)
  (dRet (dOp2 (gEq false) (dRes (dCB gLen (dOCons (dVarO 1) dONil))) (dRes (dCB gLen (dOCons (dVarO 0) dONil))))))))
def fs_is_tree : FS := fsOf ["rows", "met", "waiting", "entry", "row"] ["rows"] w_is_tree
/-! is_sketch_form -/
abbrev s_is_sketch_form : Stmt := top 19
theorem sc_is_sketch_form : FnScope ["thing", "letters", "answers", "rows"] ["thing"] (defScope s_is_sketch_form) := ⟨rfl, rfl, rfl, by decide +kernel, rfl, by decide +kernel, by decide +kernel⟩
def w_is_sketch_form : DS :=
  (dSeq (dIfS (dOr (dNot (dTst (dCall fs_is_tuple_of (dOCons (dVarO 0) (dOCons (dRes (dK (.int 3))) (dOCons (dRes (dK (.int 3))) dONil)))))) (dNot (dTst (dCall fs_is_within (dOCons (dRes (dOp2 gIx (dVarO 0) (dRes (dK (.int 0))))) (dOCons (dRes (dK (.int 1))) (dOCons (dRes (dK (.int 3))) dONil))))))) (dRet (dK (.bool false))) dNext)
  (dSeq (dIfS (dOr (dNot (dTst (dCall fs_is_within (dOCons (dRes (dOp2 gIx (dVarO 0) (dRes (dK (.int 1))))) (dOCons (dRes (dK (.int 2))) (dOCons (dRes (dK (.int 9))) dONil)))))) (dNot (dTst (dCall fs_is_tuple_of (dOCons (dRes (dOp2 gIx (dVarO 0) (dRes (dK (.int 2))))) (dOCons (dRes (dK (.int 1))) (dOCons (dRes (dK (.int 600))) dONil))))))) (dRet (dK (.bool false))) dNext)
  (dSeq (dAsg (dOf (dVar 0)) (gTp 3 (gCons' (gNm 1) (gCons' (gNm 2) (gCons' (gNm 3) gNil')))))
  (dRet (dAndV (dCall fs_are_rows (dOCons (dVarO 3) (dOCons (dVarO 1) (dOCons (dVarO 2) dONil)))) (dOrV (dOp2 (gLe) (dRes (dCB gLen (dOCons (dVarO 3) dONil))) (dRes (dK (.int 12)))) (dCall fs_is_tree (dOCons (dVarO 3) dONil))))))))
def fs_is_sketch_form : FS := fsOf ["thing", "letters", "answers", "rows"] ["thing"] w_is_sketch_form
/-! is_machine_form -/
abbrev s_is_machine_form : Stmt := top 20
theorem sc_is_machine_form : FnScope ["thing", "row", "entry"] ["thing"] (defScope s_is_machine_form) := ⟨rfl, rfl, rfl, by decide +kernel, rfl, by decide +kernel, by decide +kernel⟩
def w_is_machine_form_g1 : DE :=
  (dOp2 (gIs true) (dVarO 2) (dRes (dK .none)))
def w_is_machine_form_s1 : DI :=
  (dSq (dVar 1))
def w_is_machine_form : DS :=
  (dSeq (dIfS (dOr (dNot (dTst (dCall fs_is_sketch_form (dOCons (dVarO 0) dONil)))) (dTst (dOp2 (gGt) (dRes (dCB gLen (dOCons (dRes (dOp2 gIx (dVarO 0) (dRes (dK (.int 2))))) dONil))) (dRes (dK (.int 12)))))) (dRet (dK (.bool false))) dNext)
  (dRet (dAll2 (dSq (dFz (dOp2 gIx (dVarO 0) (dRes (dK (.int 2)))))) (gNm 1) dYes w_is_machine_form_s1 (gNm 2) dYes w_is_machine_form_g1 [1, 2] [2])))
def fs_is_machine_form : FS := fsOf ["thing", "row", "entry"] ["thing"] w_is_machine_form
/-! need_machine -/
abbrev s_need_machine : Stmt := top 22
theorem sc_need_machine : FnScope ["thing"] ["thing"] (defScope s_need_machine) := ⟨rfl, rfl, rfl, by decide +kernel, rfl, by decide +kernel, by decide +kernel⟩
def w_need_machine : DS :=
  (dIfS (dNot (dTst (dCall fs_is_machine_form (dOCons (dVarO 0) dONil)))) dNever dNext)
def fs_need_machine : FS := fsOf ["thing"] ["thing"] w_need_machine
/-! access_of -/
abbrev s_access_of : Stmt := top 27
theorem sc_access_of : FnScope ["machine", "found", "waiting", "at", "here", "letter", "after", "state"] ["machine"] (defScope s_access_of) := ⟨rfl, rfl, rfl, by decide +kernel, rfl, by decide +kernel, by decide +kernel⟩
def w_access_of_b1 : DS :=
  (dSeq (dAsg (dOp2 gIx (dRes (dOp2 gIx (dRes (dOp2 gIx (dRes (dOp2 gIx (dVarO 0) (dRes (dK (.int 2))))) (dVarO 4))) (dVarO 5))) (dRes (dK (.int 0)))) (gNm 6))
      (dIfS (dTst (dOp2 (gIn true) (dVarO 6) (dVarO 1))) (dSeq (dSetIx 1 (dVarO 6) (dFz (dOp2 gAdd (dRes (dOp2 gIx (dVarO 1) (dVarO 4))) (dRes (dTup (dVCons (dVar 5) dVNil))))))
        (dExp (dApp 2 (dVar 6)))) dNext))
def w_access_of_b2 : DS :=
  (dSeq (dIfS (dTst (dOp2 (gEq false) (dVarO 3) (dRes (dCB gLen (dOCons (dVarO 2) dONil))))) dBreak dNext)
    (dSeq (dAsg (dOp2 gIx (dVarO 2) (dVarO 3)) (gNm 4))
    (dFor (dRng1 (dVCons (dFz (dOp2 gIx (dVarO 0) (dRes (dK (.int 0))))) dVNil)) (gNm 5) w_access_of_b1)))
def w_access_of_e1 : DV :=
  (dFz (dGet1 1 (dVarO 7)))
def w_access_of : DS :=
  (dSeq (dPar 1 2 (dOCons (dRes (dDisK (dVK (.int 0)) (dVK (.tuple [])))) (dOCons (dRes (dLst (dVKs [(.int 0)]))) dONil)))
  (dSeq (dFor (dRng1 (dVCons (dFz (dCB gLen (dOCons (dRes (dOp2 gIx (dVarO 0) (dRes (dK (.int 2))))) dONil))) dVNil)) (gNm 3) w_access_of_b2)
  (dRet (dLc (dRng1 (dVCons (dFz (dCB gLen (dOCons (dRes (dOp2 gIx (dVarO 0) (dRes (dK (.int 2))))) dONil))) dVNil)) (gNm 7) dYes w_access_of_e1 [7]))))
def fs_access_of : FS := fsOf ["machine", "found", "waiting", "at", "here", "letter", "after", "state"] ["machine"] w_access_of
/-! access -/
abbrev s_access : Stmt := top 30
theorem sc_access : FnScope ["machine"] ["machine"] (defScope s_access) := ⟨rfl, rfl, rfl, by decide +kernel, rfl, by decide +kernel, by decide +kernel⟩
def w_access : DS :=
  (dSeq (dExp (dCall fs_need_machine (dOCons (dVarO 0) dONil)))
  (dRet (dCB gTupC (dOCons (dRes (dCall fs_access_of (dOCons (dVarO 0) dONil))) dONil))))
def fs_access : FS := fsOf ["machine"] ["machine"] w_access
/-! _law_run -/
abbrev s__law_run : Stmt := top 36
theorem sc__law_run : FnScope ["rows", "word", "state", "answers", "letter", "entry"] ["rows", "word"] (defScope s__law_run) := ⟨rfl, rfl, rfl, by decide +kernel, rfl, by decide +kernel, by decide +kernel⟩
def w__law_run_b1 : DS :=
  (dSeq (dAsg (dOp2 gIx (dRes (dOp2 gIx (dVarO 0) (dVarO 2))) (dVarO 4)) (gNm 5))
    (dSeq (dIfS (dTst (dOp2 (gIs false) (dVarO 5) (dRes (dK .none)))) (dRet (dK .none)) dNext)
    (dSeq (dAsg (dOp2 gIx (dVarO 5) (dRes (dK (.int 0)))) (gNm 2))
    (dExp (dApp 3 (dFz (dOp2 gIx (dVarO 5) (dRes (dK (.int 1))))))))))
def w__law_run : DS :=
  (dSeq (dPar 2 3 (dOCons (dRes (dK (.int 0))) (dOCons (dRes (dLst (dVKs []))) dONil)))
  (dSeq (dFor (dSq (dVar 1)) (gNm 4) w__law_run_b1)
  (dRet (dLst (dVCons (dVar 2) (dVCons (dVar 3) dVNil))))))
def fs__law_run : FS := fsOf ["rows", "word", "state", "answers", "letter", "entry"] ["rows", "word"] w__law_run
/-! _law_access -/
abbrev s__law_access : Stmt := top 38
theorem sc__law_access : FnScope ["machine", "found", "level", "turn", "later", "word", "letter", "state"] ["machine"] (defScope s__law_access) := ⟨rfl, rfl, rfl, by decide +kernel, rfl, by decide +kernel, by decide +kernel⟩
def w__law_access_b1 : DS :=
  (dSeq (dAsg (dOp2 gIx (dRes (dCall fs__law_run (dOCons (dRes (dOp2 gIx (dVarO 0) (dRes (dK (.int 2))))) (dOCons (dRes (dOp2 gAdd (dVarO 5) (dRes (dTup (dVCons (dVar 6) dVNil))))) dONil)))) (dRes (dK (.int 0)))) (gNm 7))
        (dIfS (dTst (dOp2 (gIn true) (dVarO 7) (dVarO 1))) (dSeq (dSetIx 1 (dVarO 7) (dFz (dOp2 gAdd (dVarO 5) (dRes (dTup (dVCons (dVar 6) dVNil))))))
          (dExp (dApp 4 (dFz (dOp2 gAdd (dVarO 5) (dRes (dTup (dVCons (dVar 6) dVNil)))))))) dNext))
def w__law_access_b2 : DS :=
  (dFor (dRng1 (dVCons (dFz (dOp2 gIx (dVarO 0) (dRes (dK (.int 0))))) dVNil)) (gNm 6) w__law_access_b1)
def w__law_access_b3 : DS :=
  (dSeq (dAsg (dLst (dVKs [])) (gNm 4))
    (dSeq (dFor (dSq (dVar 2)) (gNm 5) w__law_access_b2)
    (dAsg (dMove 4) (gNm 2))))
def w__law_access_e1 : DV :=
  (dFz (dGet2 1 (dVarO 7) (dVK .none)))
def w__law_access : DS :=
  (dSeq (dPar 1 2 (dOCons (dRes (dDisK (dVK (.int 0)) (dVK (.tuple [])))) (dOCons (dRes (dLst (dVKs [(.tuple [])]))) dONil)))
  (dSeq (dFor (dRng1 (dVCons (dFz (dCB gLen (dOCons (dRes (dOp2 gIx (dVarO 0) (dRes (dK (.int 2))))) dONil))) dVNil)) (gNm 3) w__law_access_b3)
  (dRet (dCB gTupC (dOCons (dRes (dLc (dRng1 (dVCons (dFz (dCB gLen (dOCons (dRes (dOp2 gIx (dVarO 0) (dRes (dK (.int 2))))) dONil))) dVNil)) (gNm 7) dYes w__law_access_e1 [7])) dONil)))))
def fs__law_access : FS := fsOf ["machine", "found", "level", "turn", "later", "word", "letter", "state"] ["machine"] w__law_access
/-! need_sketch -/
abbrev s_need_sketch : Stmt := top 21
theorem sc_need_sketch : FnScope ["thing"] ["thing"] (defScope s_need_sketch) := ⟨rfl, rfl, rfl, by decide +kernel, rfl, by decide +kernel, by decide +kernel⟩
def w_need_sketch : DS :=
  (dIfS (dNot (dTst (dCall fs_is_sketch_form (dOCons (dVarO 0) dONil)))) dNever dNext)
def fs_need_sketch : FS := fsOf ["thing"] ["thing"] w_need_sketch
/-! is_word_form -/
abbrev s_is_word_form : Stmt := top 23
theorem sc_is_word_form : FnScope ["letters", "thing", "one"] ["letters", "thing"] (defScope s_is_word_form) := ⟨rfl, rfl, rfl, by decide +kernel, rfl, by decide +kernel, by decide +kernel⟩
def w_is_word_form_g1 : DE :=
  (dCall fs_is_within (dOCons (dVarO 2) (dOCons (dRes (dK (.int 0))) (dOCons (dRes (dOp2 gSub (dVarO 0) (dRes (dK (.int 1))))) dONil))))
def w_is_word_form : DS :=
  (dRet (dAndV (dCall fs_is_tuple_of (dOCons (dVarO 1) (dOCons (dRes (dK (.int 0))) (dOCons (dRes (dK (.int 600))) dONil)))) (dAll (dSq (dVar 1)) (gNm 2) dYes w_is_word_form_g1 [2])))
def fs_is_word_form : FS := fsOf ["letters", "thing", "one"] ["letters", "thing"] w_is_word_form
/-! need_word -/
abbrev s_need_word : Stmt := top 24
theorem sc_need_word : FnScope ["letters", "thing"] ["letters", "thing"] (defScope s_need_word) := ⟨rfl, rfl, rfl, by decide +kernel, rfl, by decide +kernel, by decide +kernel⟩
def w_need_word : DS :=
  (dIfS (dNot (dTst (dCall fs_is_word_form (dOCons (dVarO 0) (dOCons (dVarO 1) dONil))))) dNever dNext)
def fs_need_word : FS := fsOf ["letters", "thing"] ["letters", "thing"] w_need_word
/-! run_from -/
abbrev s_run_from : Stmt := top 25
theorem sc_run_from : FnScope ["sketch", "state", "word", "found", "rows", "letter", "entry"] ["sketch", "state", "word"] (defScope s_run_from) := ⟨rfl, rfl, rfl, by decide +kernel, rfl, by decide +kernel, by decide +kernel⟩
def w_run_from_b1 : DS :=
  (dSeq (dAsg (dOp2 gIx (dRes (dOp2 gIx (dVarO 4) (dVarO 1))) (dVarO 5)) (gNm 6))
    (dSeq (dIfS (dTst (dOp2 (gIs false) (dVarO 6) (dRes (dK .none)))) (dRet (dK .none)) dNext)
    (dSeq (dAsg (dOp2 gIx (dVarO 6) (dRes (dK (.int 0)))) (gNm 1))
    (dExp (dApp 3 (dFz (dOp2 gIx (dVarO 6) (dRes (dK (.int 1))))))))))
def w_run_from : DS :=
  (dSeq (dPar 3 4 (dOCons (dRes (dLst (dVKs []))) (dOCons (dRes (dOp2 gIx (dVarO 0) (dRes (dK (.int 2))))) dONil)))
  (dSeq (dFor (dSq (dVar 2)) (gNm 5) w_run_from_b1)
  (dRet (dTup (dVCons (dFz (dCB gTupC (dOCons (dVarO 3) dONil))) (dVCons (dVar 1) dVNil))))))
def fs_run_from : FS := fsOf ["sketch", "state", "word", "found", "rows", "letter", "entry"] ["sketch", "state", "word"] w_run_from
/-! state_from -/
abbrev s_state_from : Stmt := top 26
theorem sc_state_from : FnScope ["sketch", "state", "word", "found"] ["sketch", "state", "word"] (defScope s_state_from) := ⟨rfl, rfl, rfl, by decide +kernel, rfl, by decide +kernel, by decide +kernel⟩
def w_state_from : DS :=
  (dSeq (dAsg (dCall fs_run_from (dOCons (dVarO 0) (dOCons (dVarO 1) (dOCons (dVarO 2) dONil)))) (gNm 3))
  (dRet (dIf (dTst (dOp2 (gIs false) (dVarO 3) (dRes (dK .none)))) (dK .none) (dOp2 gIx (dVarO 3) (dRes (dK (.int 1)))))))
def fs_state_from : FS := fsOf ["sketch", "state", "word", "found"] ["sketch", "state", "word"] w_state_from
/-! behind -/
abbrev s_behind : Stmt := top 29
theorem sc_behind : FnScope ["sketch", "word"] ["sketch", "word"] (defScope s_behind) := ⟨rfl, rfl, rfl, by decide +kernel, rfl, by decide +kernel, by decide +kernel⟩
def w_behind : DS :=
  (dSeq (dExp (dCall fs_need_sketch (dOCons (dVarO 0) dONil)))
  (dSeq (dExp (dCall fs_need_word (dOCons (dRes (dOp2 gIx (dVarO 0) (dRes (dK (.int 0))))) (dOCons (dVarO 1) dONil))))
  (dRet (dCall fs_state_from (dOCons (dVarO 0) (dOCons (dRes (dK (.int 0))) (dOCons (dVarO 1) dONil)))))))
def fs_behind : FS := fsOf ["sketch", "word"] ["sketch", "word"] w_behind
/-! _law_shorter -/
abbrev s__law_shorter : Stmt := top 37
theorem sc__law_shorter : FnScope ["letters", "word", "found", "level", "size", "longer", "one", "letter"] ["letters", "word"] (defScope s__law_shorter) := ⟨rfl, rfl, rfl, by decide +kernel, rfl, by decide +kernel, by decide +kernel⟩
def w__law_shorter_t1 : DT :=
  (dOr (dTst (dOp2 (gLt) (dRes (dCB gLen (dOCons (dVarO 6) dONil))) (dRes (dCB gLen (dOCons (dVarO 1) dONil))))) (dTst (dOp2 (gLt) (dVarO 6) (dVarO 1))))
def w__law_shorter_e1 : DV :=
  (dFz (dOp2 gAdd (dVarO 6) (dRes (dTup (dVCons (dVar 7) dVNil)))))
def w__law_shorter_b1 : DS :=
  (dAsg (dOp2 gAdd (dVarO 5) (dRes (dLc (dRng1 (dVCons (dVar 0) dVNil)) (gNm 7) dYes w__law_shorter_e1 [7]))) (gNm 5))
def w__law_shorter_b2 : DS :=
  (dSeq (dAsg (dOp2 gAdd (dVarO 2) (dRes (dLc (dSq (dVar 3)) (gNm 6) w__law_shorter_t1 (dVar 6) [6]))) (gNm 2))
    (dSeq (dAsg (dLst (dVKs [])) (gNm 5))
    (dSeq (dFor (dSq (dVar 3)) (gNm 6) w__law_shorter_b1)
    (dAsg (dMove 5) (gNm 3)))))
def w__law_shorter : DS :=
  (dSeq (dPar 2 3 (dOCons (dRes (dLst (dVKs []))) (dOCons (dRes (dLst (dVKs [(.tuple [])]))) dONil)))
  (dSeq (dFor (dRng1 (dVCons (dFz (dCB (gII fun i j => if j < i then j else i) (dOCons (dRes (dOp2 gAdd (dRes (dCB gLen (dOCons (dVarO 1) dONil))) (dRes (dK (.int 1))))) (dOCons (dRes (dK (.int 6))) dONil)))) dVNil)) (gNm 4) w__law_shorter_b2)
  (dRet (dMove 2))))
def fs__law_shorter : FS := fsOf ["letters", "word", "found", "level", "size", "longer", "one", "letter"] ["letters", "word"] w__law_shorter
/-! law -/
abbrev s_law : Stmt := top 39
theorem sc_law : FnScope ["script", "k", "cell", "well", "letters", "answers", "machine", "rows", "held", "told", "due", "state", "word", "row", "after", "answer", "other"] ["script"] (defScope s_law) := ⟨rfl, rfl, rfl, by decide +kernel, rfl, by decide +kernel, by decide +kernel⟩
def w_law_e1 : DV :=
  (dFz (dTup (dVCons (dFz (dOp2 gMod (dRes (dCB gIntC (dOCons (dVarO 14) dONil))) (dRes (dCB gLen (dOCons (dRes (dOp2 gIx (dVarO 6) (dRes (dK (.int 2))))) dONil))))) (dVCons (dVar 15) dVNil))))
def w_law_e2 : DV :=
  (dFz (dCB gTupC (dOCons (dRes (dLc (dSq (dVar 13)) (gTp 2 (gCons' (gNm 14) (gCons' (gNm 15) gNil'))) dYes w_law_e1 [14, 15])) dONil)))
def w_law_t1 : DT :=
  (dTst (dOp2 (gEq false) (dRes (dOp2 gIx (dRes (dCall fs__law_run (dOCons (dRes (dOp2 gIx (dVarO 6) (dRes (dK (.int 2))))) (dOCons (dVarO 16) dONil)))) (dRes (dK (.int 0))))) (dVarO 11)))
def w_law_e3 : DV :=
  (dVK (.int 1))
def w_law_b1 : DS :=
  (dIfS (dTst (dOp2 (gIs true) (dVarO 12) (dRes (dK .none)))) (dSeq (dIfS (dTst (dOp2 (gEq true) (dRes (dCB gRepr (dOCons (dRes (dCall fs_behind (dOCons (dVarO 6) (dOCons (dVarO 12) dONil)))) dONil))) (dRes (dCB gRepr (dOCons (dVarO 11) dONil))))) (dRet (dK (.bool false))) dNext)
        (dIfS (dTst (dOp2 (gEq true) (dRes (dLc (dSq (dFz (dCall fs__law_shorter (dOCons (dVarO 4) (dOCons (dVarO 12) dONil))))) (gNm 16) w_law_t1 w_law_e3 [16])) (dRes (dLst (dVKs []))))) (dRet (dK (.bool false))) dNext)) dNext)
def w_law_b2 : DS :=
  (dSeq (dAsg (dCall fs__law_well (dOCons (dVarO 2) (dOCons (dVarO 1) dONil))) (gNm 3))
    (dSeq (dPar 4 5 (dOCons (dRes (dOp2 gAdd (dRes (dK (.int 1))) (dRes (dCall fs__law_take (dOCons (dVarO 3) (dOCons (dRes (dK (.int 3))) dONil)))))) (dOCons (dRes (dOp2 gAdd (dRes (dK (.int 2))) (dRes (dCall fs__law_take (dOCons (dVarO 3) (dOCons (dRes (dK (.int 8))) dONil)))))) dONil)))
    (dSeq (dAsg (dCall fs__law_machine (dOCons (dVarO 3) (dOCons (dVarO 4) (dOCons (dVarO 5) (dOCons (dRes (dOp2 gAdd (dRes (dK (.int 1))) (dRes (dCall fs__law_take (dOCons (dVarO 3) (dOCons (dRes (dK (.int 12))) dONil)))))) dONil))))) (gNm 6))
    (dSeq (dIfS (dTst (dOp2 (gEq false) (dRes (dCall fs__law_take (dOCons (dVarO 3) (dOCons (dRes (dK (.int 3))) dONil)))) (dRes (dK (.int 0))))) (dSeq (dAsg (dTup (dVCons (dVar 4) (dVCons (dVar 5) (dVCons (dFz (dOp2 gAdd (dRes (dOp2 gIx (dRes (dCall fs__law_machine (dOCons (dVarO 3) (dOCons (dVarO 4) (dOCons (dVarO 5) (dOCons (dRes (dOp2 gAdd (dRes (dK (.int 1))) (dRes (dCall fs__law_take (dOCons (dVarO 3) (dOCons (dRes (dK (.int 6))) dONil)))))) dONil)))))) (dRes (dK (.int 2))))) (dRes (dSl (dRes (dOp2 gIx (dVarO 6) (dRes (dK (.int 2))))) dNoP (dPrt (dK (.int 6))))))) dVNil)))) (gNm 6))
      (dSeq (dAsg (dLc (dSq (dFz (dOp2 gIx (dVarO 6) (dRes (dK (.int 2)))))) (gNm 13) dYes w_law_e2 [13]) (gNm 7))
      (dAsg (dTup (dVCons (dVar 4) (dVCons (dVar 5) (dVCons (dFz (dCB gTupC (dOCons (dVarO 7) dONil))) dVNil)))) (gNm 6)))) dNext)
    (dSeq (dPar3 8 9 10 (dOCons (dRes (dCB gRepr (dOCons (dVarO 6) dONil))) (dOCons (dRes (dCall fs_access (dOCons (dVarO 6) dONil))) (dOCons (dRes (dCall fs__law_access (dOCons (dVarO 6) dONil))) dONil))))
    (dSeq (dIfS (dOr (dTst (dOp2 (gEq true) (dRes (dCB gRepr (dOCons (dRes (dLst (dVCons (dVar 9) (dVCons (dFz (dCall fs_access (dOCons (dVarO 6) dONil))) dVNil)))) dONil))) (dRes (dCB gRepr (dOCons (dRes (dLst (dVCons (dVar 10) (dVCons (dVar 10) dVNil)))) dONil))))) (dTst (dOp2 (gEq true) (dRes (dCB gRepr (dOCons (dVarO 6) dONil))) (dVarO 8)))) (dRet (dK (.bool false))) dNext)
    (dFor (dEnmA (dVCons (dVar 10) dVNil)) (gTp 2 (gCons' (gNm 11) (gCons' (gNm 12) gNil'))) w_law_b1)))))))
def w_law : DS :=
  (dSeq (dFor (dEnmA (dVCons (dFz (dCall fs__law_first (dOCons (dVarO 0) (dOCons (dRes (dK (.int 6))) dONil)))) dVNil)) (gTp 2 (gCons' (gNm 1) (gCons' (gNm 2) gNil'))) w_law_b2)
  (dRet (dK (.bool true))))
def fs_law : FS := fsOf ["script", "k", "cell", "well", "letters", "answers", "machine", "rows", "held", "told", "due", "state", "word", "row", "after", "answer", "other"] ["script"] w_law
end DV

set_option Elab.async false
set_option linter.all false
set_option maxRecDepth 100000
set_option maxHeartbeats 0
namespace DV
open PySem PySem.Spec PyProof.Rows L2
/-! ### what the head tells -/
structure Fx (K : Frag) (mg : Str → Option Value) (base : Heap) : Prop where
  b_all : mg "all" = none
  b_bool : mg "bool" = none
  b_enumerate : mg "enumerate" = none
  b_int : mg "int" = none
  b_isinstance : mg "isinstance" = none
  b_len : mg "len" = none
  b_min : mg "min" = none
  b_range : mg "range" = none
  b_repr : mg "repr" = none
  b_tuple : mg "tuple" = none
  i_LEAST_ANSWERS : ∃ t, mg "LEAST_ANSWERS" = some (.int 2 t)
  i_MOST_ANSWERS : ∃ t, mg "MOST_ANSWERS" = some (.int 9 t)
  i_MOST_LETTERS : ∃ t, mg "MOST_LETTERS" = some (.int 3 t)
  i_MOST_ROWS : ∃ t, mg "MOST_ROWS" = some (.int 600 t)
  i_MOST_STATES : ∃ t, mg "MOST_STATES" = some (.int 12 t)
  i_MOST_WORD : ∃ t, mg "MOST_WORD" = some (.int 600 t)
  d__law_first : Told K mg "_law_first" s__law_first
  d__law_well : Told K mg "_law_well" s__law_well
  d__law_take : Told K mg "_law_take" s__law_take
  d__law_machine : Told K mg "_law_machine" s__law_machine
  d_is_tuple_of : Told K mg "is_tuple_of" s_is_tuple_of
  d_is_integer : Told K mg "is_integer" s_is_integer
  d_is_within : Told K mg "is_within" s_is_within
  d_is_entry_form : Told K mg "is_entry_form" s_is_entry_form
  d_are_rows : Told K mg "are_rows" s_are_rows
  d_is_tree : Told K mg "is_tree" s_is_tree
  d_is_sketch_form : Told K mg "is_sketch_form" s_is_sketch_form
  d_is_machine_form : Told K mg "is_machine_form" s_is_machine_form
  d_need_machine : Told K mg "need_machine" s_need_machine
  d_access_of : Told K mg "access_of" s_access_of
  d_access : Told K mg "access" s_access
  d__law_run : Told K mg "_law_run" s__law_run
  d__law_access : Told K mg "_law_access" s__law_access
  d_need_sketch : Told K mg "need_sketch" s_need_sketch
  d_is_word_form : Told K mg "is_word_form" s_is_word_form
  d_need_word : Told K mg "need_word" s_need_word
  d_run_from : Told K mg "run_from" s_run_from
  d_state_from : Told K mg "state_from" s_state_from
  d_behind : Told K mg "behind" s_behind
  d__law_shorter : Told K mg "_law_shorter" s__law_shorter
  d_law : Told K mg "law" s_law
  p_are_rows : (He.cT K ("are_rows", none)).2 ∈ tbs K
  t_are_rows : GxR.TabB base mg (He.codeOf K ("are_rows", none)) (He.cT K ("are_rows", none)).2
  p_is_machine_form : (He.cT K ("is_machine_form", none)).2 ∈ tbs K
  t_is_machine_form : GxR.TabB base mg (He.codeOf K ("is_machine_form", none)) (He.cT K ("is_machine_form", none)).2
  p_is_word_form : (He.cT K ("is_word_form", none)).2 ∈ tbs K
  t_is_word_form : GxR.TabB base mg (He.codeOf K ("is_word_form", none)) (He.cT K ("is_word_form", none)).2
/-! ### the walks -/
section
variable {P : Program} {w : World} {K : Frag} {mg : Str → Option Value} {base : Heap}
theorem c__law_first (x : Fx K mg base) : Cl P w K mg base (tbs K) 1 "_law_first" ["script", "most"] fs__law_first :=
  cl_of x.d__law_first sc__law_first (by decide) (fun _ _ _ _ _ _ us hl => match us, hl with | [_, _], _ => rfl) (fun _ _ _ _ _ _ us hl => match us, hl with | [_, _], _ => rfl) fun cdv A outer s H E hr hc => by
  exact (sss_one (ss_ret (se_if (st_ne hr (so_var 0) (so_se (se_lst svs_nilK))) (se_slice (so_var 0) sp_none (sp_some (se_sv (sv_var 1)))) (se_lst (svs_consK se_int svs_nilK)))))
theorem c__law_well (x : Fx K mg base) : Cl P w K mg base (tbs K) 1 "_law_well" ["cell", "k"] fs__law_well :=
  cl_of x.d__law_well sc__law_well (by decide) (fun _ _ _ _ _ _ us hl => match us, hl with | [_, _], _ => rfl) (fun _ _ _ _ _ _ us hl => match us, hl with | [_, _], _ => rfl) fun cdv A outer s H E hr hc => by
  exact (sss_cons (ss_if (st_ge (so_var 0) (so_se (se_pow (so_se se_int) (so_se se_int)))) (sss_one (ss_ret (se_lst (svs_cons (sv_se (se_sub (so_var 0) (so_se (se_pow (so_se se_int) (so_se se_int))))) (svs_cons (sv_se (se_add (so_se (se_mod (so_se (se_intC x.b_int (sos_cons (so_var 0) sos_nil))) (so_se (se_add (so_se (se_pow (so_se se_int) (so_se se_int))) (so_se se_int))))) (so_se (se_mul (so_se se_int) (so_var 1))))) (svs_cons (sv_K se_int) svs_nil)))))) sss_nil)
  (sss_one (ss_ret (se_lst (svs_cons (sv_K se_int) (svs_cons (sv_se (se_mod (so_se (se_intC x.b_int (sos_cons (so_se (se_add (so_se (se_add (so_se (se_mul (so_var 0) (so_se se_int))) (so_se (se_mul (so_se se_int) (so_var 1))))) (so_se se_int))) sos_nil))) (so_se (se_add (so_se (se_pow (so_se se_int) (so_se se_int))) (so_se se_int))))) (svs_cons (sv_K se_int) svs_nil)))))))
theorem c__law_take (x : Fx K mg base) : Cl P w K mg base (tbs K) 1 "_law_take" ["well", "many"] fs__law_take :=
  cl_of x.d__law_take sc__law_take (by decide) (fun _ _ _ _ _ _ us hl => match us, hl with | [_, _], _ => rfl) (fun _ _ _ _ _ _ us hl => match us, hl with | [_, _], _ => rfl) fun cdv A outer s H E hr hc => by
  exact (sss_cons (ss_if (st_gt (so_se (se_ix hr.u1 (so_var 0) (so_se se_int))) (so_se se_int)) (sss_cons (ss_set 2 sc__law_take.nd (se_mod (so_se (se_intC x.b_int (sos_cons (so_se (se_ix hr.u1 (so_var 0) (so_se se_int))) sos_nil))) (so_var 1)))
    (sss_cons (ss_setIx 0 hr.u1 (sv_se (se_fdiv (so_se (se_ix hr.u1 (so_var 0) (so_se se_int))) (so_var 1))) (so_se se_int))
    (sss_one (ss_ret (se_move 2))))) sss_nil)
  (sss_cons (ss_setIx 0 hr.u1 (sv_se (se_add (so_se (se_ix hr.u1 (so_var 0) (so_se se_int))) (so_se se_int))) (so_se se_int))
  (sss_cons (ss_set 3 sc__law_take.nd (se_add (so_se (se_ix hr.u1 (so_var 0) (so_se se_int))) (so_se (se_mul (so_se se_int) (so_se (se_ix hr.u1 (so_var 0) (so_se se_int)))))))
  (sss_cons (ss_set 3 sc__law_take.nd (se_mod (so_se (se_intC x.b_int (sos_cons (so_se (se_add (so_se (se_mul (so_se (se_mul (so_var 3) (so_var 3))) (so_var 3))) (so_se (se_mul (so_se se_int) (so_se (se_ix hr.u1 (so_var 0) (so_se se_int))))))) sos_nil))) (so_se (se_add (so_se (se_pow (so_se se_int) (so_se se_int))) (so_se se_int)))))
  (sss_cons (ss_set 3 sc__law_take.nd (se_mod (so_se (se_intC x.b_int (sos_cons (so_se (se_add (so_se (se_mul (so_var 3) (so_var 3))) (so_se (se_mul (so_se se_int) (so_var 3))))) sos_nil))) (so_se (se_add (so_se (se_pow (so_se se_int) (so_se se_int))) (so_se se_int)))))
  (sss_one (ss_ret (se_mod (so_se (se_intC x.b_int (sos_cons (so_se (se_fdiv (so_var 3) (so_se (se_pow (so_se se_int) (so_se se_int))))) sos_nil))) (so_var 1)))))))))
theorem c__law_machine (x : Fx K mg base) : Cl P w K mg base (tbs K) 2 "_law_machine" ["well", "letters", "answers", "many"] fs__law_machine :=
  cl_of x.d__law_machine sc__law_machine (by decide) (fun _ _ _ _ _ _ us hl => match us, hl with | [_, _, _, _], _ => rfl) (fun _ _ _ _ _ _ us hl => match us, hl with | [_, _, _, _], _ => rfl) fun cdv A outer s H E hr hc => by
  exact (sss_cons (ss_set 4 sc__law_machine.nd (se_lst svs_nilK))
  (sss_cons (ss_for PassesOwn.never rfl (si_rng1 (by rfl) x.b_range (svs_cons (sv_var 3) svs_nil)) (sg_name 5 sc__law_machine.nd) (sss_one (ss_expr (se_app 4 (sv_se (se_tupC x.b_tuple (sos_cons (so_se (se_lc [("letter", 6)] rfl sc__law_machine.nd (si_rng1 (by rfl) x.b_range (svs_cons (sv_var 1) svs_nil)) (blkOk_by (by kernel_rfl)) (fun _ _ _ _ _ => (sgb_name 6 sc__law_machine.nd)) (fun _ _ _ _ _ => sts_nil) (fun _ _ _ _ _ => (sv_se (se_tup (svs_cons (sv_se (se_cl (c__law_take x) hr (sos_cons (so_var 0) (sos_cons (so_var 3) sos_nil)))) (svs_cons (sv_se (se_cl (c__law_take x) hr (sos_cons (so_var 0) (sos_cons (so_var 2) sos_nil)))) svs_nil))))))) sos_nil)))))))
  (sss_one (ss_ret (se_tup (svs_cons (sv_var 1) (svs_cons (sv_var 2) (svs_cons (sv_se (se_tupC x.b_tuple (sos_cons (so_var 4) sos_nil))) svs_nil))))))))
theorem c_is_tuple_of (x : Fx K mg base) : Cl P w K mg base (tbs K) 1 "is_tuple_of" ["thing", "least", "most"] fs_is_tuple_of :=
  cl_of x.d_is_tuple_of sc_is_tuple_of (by decide) (fun _ _ _ _ _ _ us hl => match us, hl with | [_, _, _], _ => rfl) (fun _ _ _ _ _ _ us hl => match us, hl with | [_, _, _], _ => rfl) fun cdv A outer s H E hr hc => by
  exact (sss_one (ss_ret (se_and (se_isi .tuple (by decide) (so_var 0) x.b_isinstance x.b_tuple PyProof.Rows.boot_tuple) (se_one (se_lele (so_var 1) (so_se (se_len x.b_len (sos_cons (so_var 0) sos_nil))) (so_var 2))))))
theorem c_is_integer (x : Fx K mg base) : Cl P w K mg base (tbs K) 1 "is_integer" ["thing"] fs_is_integer :=
  cl_of x.d_is_integer sc_is_integer (by decide) (fun _ _ _ _ _ _ us hl => match us, hl with | [_], _ => rfl) (fun _ _ _ _ _ _ us hl => match us, hl with | [_], _ => rfl) fun cdv A outer s H E hr hc => by
  exact (sss_one (ss_ret (se_and (se_isi .int (by decide) (so_var 0) x.b_isinstance x.b_int PyProof.Rows.boot_int) (se_one (se_not (se_isi .bool (by decide) (so_var 0) x.b_isinstance x.b_bool PyProof.Rows.boot_bool))))))
theorem c_is_within (x : Fx K mg base) : Cl P w K mg base (tbs K) 2 "is_within" ["thing", "low", "high"] fs_is_within :=
  cl_of x.d_is_within sc_is_within (by decide) (fun _ _ _ _ _ _ us hl => match us, hl with | [_, _, _], _ => rfl) (fun _ _ _ _ _ _ us hl => match us, hl with | [_, _, _], _ => rfl) fun cdv A outer s H E hr hc => by
  exact (sss_one (ss_ret (se_and (se_cl (c_is_integer x) hr (sos_cons (so_var 0) sos_nil)) (se_one (se_lele (so_var 1) (so_var 0) (so_var 2))))))
theorem c_is_entry_form (x : Fx K mg base) : Cl P w K mg base (tbs K) 3 "is_entry_form" ["thing", "answers", "many"] fs_is_entry_form :=
  cl_of x.d_is_entry_form sc_is_entry_form (by decide) (fun _ _ _ _ _ _ us hl => match us, hl with | [_, _, _], _ => rfl) (fun _ _ _ _ _ _ us hl => match us, hl with | [_, _, _], _ => rfl) fun cdv A outer s H E hr hc => by
  exact (sss_cons (ss_if (st_is (so_var 0) (so_se se_none)) (sss_one (ss_ret se_bool)) sss_nil)
  (sss_one (ss_ret (se_and (se_cl (c_is_tuple_of x) hr (sos_cons (so_var 0) (sos_cons (so_se se_int) (sos_cons (so_se se_int) sos_nil)))) (se_and (se_cl (c_is_within x) hr (sos_cons (so_se (se_ix hr.u1 (so_var 0) (so_se se_int))) (sos_cons (so_se se_int) (sos_cons (so_se (se_sub (so_var 2) (so_se se_int))) sos_nil)))) (se_one (se_cl (c_is_within x) hr (sos_cons (so_se (se_ix hr.u1 (so_var 0) (so_se se_int))) (sos_cons (so_se se_int) (sos_cons (so_se (se_sub (so_var 1) (so_se se_int))) sos_nil))))))))))
theorem c_are_rows (x : Fx K mg base) : Cl P w K mg base (tbs K) 5 "are_rows" ["thing", "letters", "answers"] fs_are_rows :=
  cl_of x.d_are_rows sc_are_rows (by decide) (fun _ _ _ _ _ _ us hl => match us, hl with | [_, _, _], _ => rfl) (fun _ _ _ _ _ _ us hl => match us, hl with | [_, _, _], _ => rfl) fun cdv A outer s H E hr hc => by
  subst hc; exact (sss_cons (ss_if (st_not (st_val (se_isi .tuple (by decide) (so_var 0) x.b_isinstance x.b_tuple PyProof.Rows.boot_tuple))) (sss_one (ss_ret se_bool)) sss_nil)
  (sss_cons (ss_for PassesOwn.never rfl (si_seq (sv_var 0)) (sg_name 3 sc_are_rows.nd) (sss_one (ss_if (SW.st (sw_or (st_not (st_val (se_cl (c_is_tuple_of x) hr (sos_cons (so_var 3) (sos_cons (so_var 1) (sos_cons (so_var 1) sos_nil)))))) (sw_or1 (st_not (st_val (se_all [("one", 4)] hr rfl sc_are_rows.nd x.p_are_rows x.t_are_rows rfl x.b_all boot_all (si_seq (sv_var 3)) (blkOk_by (by kernel_rfl)) ⟨rfl, by decide +kernel, rfl⟩ (fun _ _ _ _ _ => (sgb_name 4 sc_are_rows.nd)) (fun _ _ _ _ _ => sts_nil) (fun _ _ _ _ _ => (se_cl (c_is_entry_form x) hr.gen (sos_cons (so_var 4) (sos_cons (so_var 2) (sos_cons (so_se (se_len x.b_len (sos_cons (so_var 0) sos_nil))) sos_nil))))))))))) (sss_one (ss_ret se_bool)) sss_nil)))
  (sss_one (ss_ret se_bool))))
theorem c_is_tree (x : Fx K mg base) : Cl P w K mg base (tbs K) 1 "is_tree" ["rows"] fs_is_tree :=
  cl_of x.d_is_tree sc_is_tree (by decide) (fun _ _ _ _ _ _ us hl => match us, hl with | [_], _ => rfl) (fun _ _ _ _ _ _ us hl => match us, hl with | [_], _ => rfl) fun cdv A outer s H E hr hc => by
  exact (sss_cons (ss_if (st_ne hr (so_se (se_len x.b_len (sos_cons (so_se (se_lc2 [("row", 4), ("entry", 3)] rfl sc_is_tree.nd (si_seq (sv_var 0)) (blkOk_by (by kernel_rfl)) (by decide) (fun _ _ _ _ _ => (sgb_name 4 sc_is_tree.nd)) (fun _ _ _ _ _ => sts_nil) (fun _ _ _ _ _ => (si_seq (sv_var 4))) (fun _ _ _ _ _ => (sgb_name 3 sc_is_tree.nd)) (fun _ _ _ _ _ => (sts_one (st_isn (so_var 3) (so_se se_none)))) (fun _ _ _ _ _ => (sv_K se_int)))) sos_nil))) (so_se (se_sub (so_se (se_len x.b_len (sos_cons (so_var 0) sos_nil))) (so_se se_int)))) (sss_one (ss_ret se_bool)) sss_nil)
  (sss_cons (ss_par 1 2 rfl sc_is_tree.nd (sos_cons (so_se (se_disK (sv_K se_int) (sv_K se_bool))) (sos_cons (so_se (se_lst (svs_consK se_int svs_nilK))) sos_nil)))
  (sss_cons (ss_while PassesOwn.never (st_ne hr (so_var 2) (so_se (se_lst svs_nilK))) (sss_one (ss_for PassesOwn.never rfl (si_seq (sv_se (se_ix hr.u1 (so_var 0) (so_se (se_pop 2))))) (sg_name 3 sc_is_tree.nd) (sss_one (ss_if (SW.st (sw_and (st_isn (so_var 3) (so_se se_none)) (sw_and1 (st_notinL hr (so_se (se_ix hr.u1 (so_var 3) (so_se se_int))) (so_var 1))))) (sss_cons (ss_setIx 1 hr.u1 (sv_K se_bool) (so_se (se_ix hr.u1 (so_var 3) (so_se se_int))))
        (sss_one (ss_expr (se_app 2 (sv_se (se_ix hr.u1 (so_var 3) (so_se se_int))))))) sss_nil)))))
  (sss_one (ss_ret (se_eq hr (so_se (se_len x.b_len (sos_cons (so_var 1) sos_nil))) (so_se (se_len x.b_len (sos_cons (so_var 0) sos_nil)))))))))
theorem c_is_sketch_form (x : Fx K mg base) : Cl P w K mg base (tbs K) 6 "is_sketch_form" ["thing"] fs_is_sketch_form :=
  cl_of x.d_is_sketch_form sc_is_sketch_form (by decide) (fun _ _ _ _ _ _ us hl => match us, hl with | [_], _ => rfl) (fun _ _ _ _ _ _ us hl => match us, hl with | [_], _ => rfl) fun cdv A outer s H E hr hc => by
  exact (sss_cons (ss_if (SW.st (sw_or (st_not (st_val (se_cl (c_is_tuple_of x) hr (sos_cons (so_var 0) (sos_cons (so_se se_int) (sos_cons (so_se se_int) sos_nil)))))) (sw_or1 (st_not (st_val (se_cl (c_is_within x) hr (sos_cons (so_se (se_ix hr.u1 (so_var 0) (so_se se_int))) (sos_cons (so_se se_int) (sos_cons (so_se (se_gI x.i_MOST_LETTERS)) sos_nil))))))))) (sss_one (ss_ret se_bool)) sss_nil)
  (sss_cons (ss_if (SW.st (sw_or (st_not (st_val (se_cl (c_is_within x) hr (sos_cons (so_se (se_ix hr.u1 (so_var 0) (so_se se_int))) (sos_cons (so_se (se_gI x.i_LEAST_ANSWERS)) (sos_cons (so_se (se_gI x.i_MOST_ANSWERS)) sos_nil)))))) (sw_or1 (st_not (st_val (se_cl (c_is_tuple_of x) hr (sos_cons (so_se (se_ix hr.u1 (so_var 0) (so_se se_int))) (sos_cons (so_se se_int) (sos_cons (so_se (se_gI x.i_MOST_ROWS)) sos_nil))))))))) (sss_one (ss_ret se_bool)) sss_nil)
  (sss_cons (ss_asg (se_sv (sv_var 0)) (sg_tup rfl (sgs_cons (sg_name 1 sc_is_sketch_form.nd) (sgs_cons (sg_name 2 sc_is_sketch_form.nd) (sgs_cons (sg_name 3 sc_is_sketch_form.nd) sgs_nil)))))
  (sss_one (ss_ret (se_and (se_cl (c_are_rows x) hr (sos_cons (so_var 3) (sos_cons (so_var 1) (sos_cons (so_var 2) sos_nil)))) (se_one (se_or (se_le (so_se (se_len x.b_len (sos_cons (so_var 3) sos_nil))) (so_se (se_gI x.i_MOST_STATES))) (se_one (se_cl (c_is_tree x) hr (sos_cons (so_var 3) sos_nil)))))))))))
theorem c_is_machine_form (x : Fx K mg base) : Cl P w K mg base (tbs K) 7 "is_machine_form" ["thing"] fs_is_machine_form :=
  cl_of x.d_is_machine_form sc_is_machine_form (by decide) (fun _ _ _ _ _ _ us hl => match us, hl with | [_], _ => rfl) (fun _ _ _ _ _ _ us hl => match us, hl with | [_], _ => rfl) fun cdv A outer s H E hr hc => by
  subst hc; exact (sss_cons (ss_if (SW.st (sw_or (st_not (st_val (se_cl (c_is_sketch_form x) hr (sos_cons (so_var 0) sos_nil)))) (sw_or1 (st_gt (so_se (se_len x.b_len (sos_cons (so_se (se_ix hr.u1 (so_var 0) (so_se se_int))) sos_nil))) (so_se (se_gI x.i_MOST_STATES)))))) (sss_one (ss_ret se_bool)) sss_nil)
  (sss_one (ss_ret (se_all2 [("row", 1), ("entry", 2)] hr rfl sc_is_machine_form.nd x.p_is_machine_form x.t_is_machine_form rfl x.b_all boot_all (si_seq (sv_se (se_ix hr.u1 (so_var 0) (so_se se_int)))) (blkOk_by (by kernel_rfl)) ⟨rfl, by decide +kernel, rfl⟩ (fun _ _ _ _ _ => (sgb_name 1 sc_is_machine_form.nd)) (fun _ _ _ _ _ => sts_nil) (vs1 := [2]) (by decide) (fun _ _ _ _ _ => (si_seq (sv_var 1))) (fun _ _ _ _ _ => (sgb_name 2 sc_is_machine_form.nd)) (fun _ _ _ _ _ => sts_nil) (fun _ _ _ _ _ => (se_isn (so_var 2) (so_se se_none)))))))
theorem c_need_machine (x : Fx K mg base) : Cl P w K mg base (tbs K) 8 "need_machine" ["thing"] fs_need_machine :=
  cl_of x.d_need_machine sc_need_machine (by decide) (fun _ _ _ _ _ _ us hl => match us, hl with | [_], _ => rfl) (fun _ _ _ _ _ _ us hl => match us, hl with | [_], _ => rfl) fun cdv A outer s H E hr hc => by
  exact (sss_one (ss_if (st_not (st_val (se_cl (c_is_machine_form x) hr (sos_cons (so_var 0) sos_nil)))) (sss_one ss_never) sss_nil))
theorem c_access_of (x : Fx K mg base) : Cl P w K mg base (tbs K) 1 "access_of" ["machine"] fs_access_of :=
  cl_of x.d_access_of sc_access_of (by decide) (fun _ _ _ _ _ _ us hl => match us, hl with | [_], _ => rfl) (fun _ _ _ _ _ _ us hl => match us, hl with | [_], _ => rfl) fun cdv A outer s H E hr hc => by
  exact (sss_cons (ss_parT 1 2 rfl sc_access_of.nd (sos_cons (so_se (se_disK (sv_K se_int) (sv_K (se_tupK svs_nilK)))) (sos_cons (so_se (se_lst (svs_consK se_int svs_nilK))) sos_nil)))
  (sss_cons (ss_for PassesOwn.never rfl (si_rng1 (by rfl) x.b_range (svs_cons (sv_se (se_len x.b_len (sos_cons (so_se (se_ix hr.u1 (so_var 0) (so_se se_int))) sos_nil))) svs_nil)) (sg_name 3 sc_access_of.nd) (sss_cons (ss_if (st_eq hr (so_var 3) (so_se (se_len x.b_len (sos_cons (so_var 2) sos_nil)))) (sss_one ss_break) sss_nil)
    (sss_cons (ss_set 4 sc_access_of.nd (se_ix hr.u1 (so_var 2) (so_var 3)))
    (sss_one (ss_for PassesOwn.never rfl (si_rng1 (by rfl) x.b_range (svs_cons (sv_se (se_ix hr.u1 (so_var 0) (so_se se_int))) svs_nil)) (sg_name 5 sc_access_of.nd) (sss_cons (ss_set 6 sc_access_of.nd (se_ix hr.u1 (so_se (se_ix hr.u1 (so_se (se_ix hr.u1 (so_se (se_ix hr.u1 (so_var 0) (so_se se_int))) (so_var 4))) (so_var 5))) (so_se se_int)))
      (sss_one (ss_if (st_notinL hr (so_var 6) (so_var 1)) (sss_cons (ss_setIx 1 hr.u1 (sv_se (se_add (so_se (se_ix hr.u1 (so_var 1) (so_var 4))) (so_se (se_tup (svs_cons (sv_var 5) svs_nil))))) (so_var 6))
        (sss_one (ss_expr (se_app 2 (sv_var 6))))) sss_nil))))))))
  (sss_one (ss_ret (se_lc [("state", 7)] rfl sc_access_of.nd (si_rng1 (by rfl) x.b_range (svs_cons (sv_se (se_len x.b_len (sos_cons (so_se (se_ix hr.u1 (so_var 0) (so_se se_int))) sos_nil))) svs_nil)) (blkOk_by (by kernel_rfl)) (fun _ _ _ _ _ => (sgb_name 7 sc_access_of.nd)) (fun _ _ _ _ _ => sts_nil) (fun _ _ _ _ _ => (sv_se (se_get1 1 hr.u1 (so_var 7)))))))))
theorem c_access (x : Fx K mg base) : Cl P w K mg base (tbs K) 9 "access" ["machine"] fs_access :=
  cl_of x.d_access sc_access (by decide) (fun _ _ _ _ _ _ us hl => match us, hl with | [_], _ => rfl) (fun _ _ _ _ _ _ us hl => match us, hl with | [_], _ => rfl) fun cdv A outer s H E hr hc => by
  exact (sss_cons (ss_expr (se_cl (c_need_machine x) hr (sos_cons (so_var 0) sos_nil)))
  (sss_one (ss_ret (se_tupC x.b_tuple (sos_cons (so_se (se_cl (c_access_of x) hr (sos_cons (so_var 0) sos_nil))) sos_nil)))))
theorem c__law_run (x : Fx K mg base) : Cl P w K mg base (tbs K) 1 "_law_run" ["rows", "word"] fs__law_run :=
  cl_of x.d__law_run sc__law_run (by decide) (fun _ _ _ _ _ _ us hl => match us, hl with | [_, _], _ => rfl) (fun _ _ _ _ _ _ us hl => match us, hl with | [_, _], _ => rfl) fun cdv A outer s H E hr hc => by
  exact (sss_cons (ss_par 2 3 rfl sc__law_run.nd (sos_cons (so_se se_int) (sos_cons (so_se (se_lst svs_nilK)) sos_nil)))
  (sss_cons (ss_for PassesOwn.never rfl (si_seq (sv_var 1)) (sg_name 4 sc__law_run.nd) (sss_cons (ss_set 5 sc__law_run.nd (se_ix hr.u1 (so_se (se_ix hr.u1 (so_var 0) (so_var 2))) (so_var 4)))
    (sss_cons (ss_if (st_is (so_var 5) (so_se se_none)) (sss_one (ss_ret se_none)) sss_nil)
    (sss_cons (ss_set 2 sc__law_run.nd (se_ix hr.u1 (so_var 5) (so_se se_int)))
    (sss_one (ss_expr (se_app 3 (sv_se (se_ix hr.u1 (so_var 5) (so_se se_int))))))))))
  (sss_one (ss_ret (se_lst (svs_cons (sv_var 2) (svs_cons (sv_var 3) svs_nil)))))))
theorem c__law_access (x : Fx K mg base) : Cl P w K mg base (tbs K) 2 "_law_access" ["machine"] fs__law_access :=
  cl_of x.d__law_access sc__law_access (by decide) (fun _ _ _ _ _ _ us hl => match us, hl with | [_], _ => rfl) (fun _ _ _ _ _ _ us hl => match us, hl with | [_], _ => rfl) fun cdv A outer s H E hr hc => by
  exact (sss_cons (ss_parT 1 2 rfl sc__law_access.nd (sos_cons (so_se (se_disK (sv_K se_int) (sv_K (se_tupK svs_nilK)))) (sos_cons (so_se (se_lst (svs_consK (se_tupK svs_nilK) svs_nilK))) sos_nil)))
  (sss_cons (ss_for PassesOwn.never rfl (si_rng1 (by rfl) x.b_range (svs_cons (sv_se (se_len x.b_len (sos_cons (so_se (se_ix hr.u1 (so_var 0) (so_se se_int))) sos_nil))) svs_nil)) (sg_name 3 sc__law_access.nd) (sss_cons (ss_set 4 sc__law_access.nd (se_lst svs_nilK))
    (sss_cons (ss_for PassesOwn.never rfl (si_seq (sv_var 2)) (sg_name 5 sc__law_access.nd) (sss_one (ss_for PassesOwn.never rfl (si_rng1 (by rfl) x.b_range (svs_cons (sv_se (se_ix hr.u1 (so_var 0) (so_se se_int))) svs_nil)) (sg_name 6 sc__law_access.nd) (sss_cons (ss_set 7 sc__law_access.nd (se_ix hr.u1 (so_se (se_cl (c__law_run x) hr (sos_cons (so_se (se_ix hr.u1 (so_var 0) (so_se se_int))) (sos_cons (so_se (se_add (so_var 5) (so_se (se_tup (svs_cons (sv_var 6) svs_nil))))) sos_nil)))) (so_se se_int)))
        (sss_one (ss_if (st_notinL hr (so_var 7) (so_var 1)) (sss_cons (ss_setIx 1 hr.u1 (sv_se (se_add (so_var 5) (so_se (se_tup (svs_cons (sv_var 6) svs_nil))))) (so_var 7))
          (sss_one (ss_expr (se_app 4 (sv_se (se_add (so_var 5) (so_se (se_tup (svs_cons (sv_var 6) svs_nil))))))))) sss_nil))))))
    (sss_one (ss_set 2 sc__law_access.nd (se_move 4))))))
  (sss_one (ss_ret (se_tupC x.b_tuple (sos_cons (so_se (se_lc [("state", 7)] rfl sc__law_access.nd (si_rng1 (by rfl) x.b_range (svs_cons (sv_se (se_len x.b_len (sos_cons (so_se (se_ix hr.u1 (so_var 0) (so_se se_int))) sos_nil))) svs_nil)) (blkOk_by (by kernel_rfl)) (fun _ _ _ _ _ => (sgb_name 7 sc__law_access.nd)) (fun _ _ _ _ _ => sts_nil) (fun _ _ _ _ _ => (sv_se (se_get2 1 hr.u1 (so_var 7) (sv_K se_none)))))) sos_nil))))))
theorem c_need_sketch (x : Fx K mg base) : Cl P w K mg base (tbs K) 7 "need_sketch" ["thing"] fs_need_sketch :=
  cl_of x.d_need_sketch sc_need_sketch (by decide) (fun _ _ _ _ _ _ us hl => match us, hl with | [_], _ => rfl) (fun _ _ _ _ _ _ us hl => match us, hl with | [_], _ => rfl) fun cdv A outer s H E hr hc => by
  exact (sss_one (ss_if (st_not (st_val (se_cl (c_is_sketch_form x) hr (sos_cons (so_var 0) sos_nil)))) (sss_one ss_never) sss_nil))
theorem c_is_word_form (x : Fx K mg base) : Cl P w K mg base (tbs K) 4 "is_word_form" ["letters", "thing"] fs_is_word_form :=
  cl_of x.d_is_word_form sc_is_word_form (by decide) (fun _ _ _ _ _ _ us hl => match us, hl with | [_, _], _ => rfl) (fun _ _ _ _ _ _ us hl => match us, hl with | [_, _], _ => rfl) fun cdv A outer s H E hr hc => by
  subst hc; exact (sss_one (ss_ret (se_and (se_cl (c_is_tuple_of x) hr (sos_cons (so_var 1) (sos_cons (so_se se_int) (sos_cons (so_se (se_gI x.i_MOST_WORD)) sos_nil)))) (se_one (se_all [("one", 2)] hr rfl sc_is_word_form.nd x.p_is_word_form x.t_is_word_form rfl x.b_all boot_all (si_seq (sv_var 1)) (blkOk_by (by kernel_rfl)) ⟨rfl, by decide +kernel, rfl⟩ (fun _ _ _ _ _ => (sgb_name 2 sc_is_word_form.nd)) (fun _ _ _ _ _ => sts_nil) (fun _ _ _ _ _ => (se_cl (c_is_within x) hr.gen (sos_cons (so_var 2) (sos_cons (so_se se_int) (sos_cons (so_se (se_sub (so_var 0) (so_se se_int))) sos_nil))))))))))
theorem c_need_word (x : Fx K mg base) : Cl P w K mg base (tbs K) 5 "need_word" ["letters", "thing"] fs_need_word :=
  cl_of x.d_need_word sc_need_word (by decide) (fun _ _ _ _ _ _ us hl => match us, hl with | [_, _], _ => rfl) (fun _ _ _ _ _ _ us hl => match us, hl with | [_, _], _ => rfl) fun cdv A outer s H E hr hc => by
  exact (sss_one (ss_if (st_not (st_val (se_cl (c_is_word_form x) hr (sos_cons (so_var 0) (sos_cons (so_var 1) sos_nil))))) (sss_one ss_never) sss_nil))
theorem c_run_from (x : Fx K mg base) : Cl P w K mg base (tbs K) 1 "run_from" ["sketch", "state", "word"] fs_run_from :=
  cl_of x.d_run_from sc_run_from (by decide) (fun _ _ _ _ _ _ us hl => match us, hl with | [_, _, _], _ => rfl) (fun _ _ _ _ _ _ us hl => match us, hl with | [_, _, _], _ => rfl) fun cdv A outer s H E hr hc => by
  exact (sss_cons (ss_par 3 4 rfl sc_run_from.nd (sos_cons (so_se (se_lst svs_nilK)) (sos_cons (so_se (se_ix hr.u1 (so_var 0) (so_se se_int))) sos_nil)))
  (sss_cons (ss_for PassesOwn.never rfl (si_seq (sv_var 2)) (sg_name 5 sc_run_from.nd) (sss_cons (ss_set 6 sc_run_from.nd (se_ix hr.u1 (so_se (se_ix hr.u1 (so_var 4) (so_var 1))) (so_var 5)))
    (sss_cons (ss_if (st_is (so_var 6) (so_se se_none)) (sss_one (ss_ret se_none)) sss_nil)
    (sss_cons (ss_set 1 sc_run_from.nd (se_ix hr.u1 (so_var 6) (so_se se_int)))
    (sss_one (ss_expr (se_app 3 (sv_se (se_ix hr.u1 (so_var 6) (so_se se_int))))))))))
  (sss_one (ss_ret (se_tup (svs_cons (sv_se (se_tupC x.b_tuple (sos_cons (so_var 3) sos_nil))) (svs_cons (sv_var 1) svs_nil)))))))
theorem c_state_from (x : Fx K mg base) : Cl P w K mg base (tbs K) 2 "state_from" ["sketch", "state", "word"] fs_state_from :=
  cl_of x.d_state_from sc_state_from (by decide) (fun _ _ _ _ _ _ us hl => match us, hl with | [_, _, _], _ => rfl) (fun _ _ _ _ _ _ us hl => match us, hl with | [_, _, _], _ => rfl) fun cdv A outer s H E hr hc => by
  exact (sss_cons (ss_set 3 sc_state_from.nd (se_cl (c_run_from x) hr (sos_cons (so_var 0) (sos_cons (so_var 1) (sos_cons (so_var 2) sos_nil)))))
  (sss_one (ss_ret (se_if (st_is (so_var 3) (so_se se_none)) se_none (se_ix hr.u1 (so_var 3) (so_se se_int))))))
theorem c_behind (x : Fx K mg base) : Cl P w K mg base (tbs K) 8 "behind" ["sketch", "word"] fs_behind :=
  cl_of x.d_behind sc_behind (by decide) (fun _ _ _ _ _ _ us hl => match us, hl with | [_, _], _ => rfl) (fun _ _ _ _ _ _ us hl => match us, hl with | [_, _], _ => rfl) fun cdv A outer s H E hr hc => by
  exact (sss_cons (ss_expr (se_cl (c_need_sketch x) hr (sos_cons (so_var 0) sos_nil)))
  (sss_cons (ss_expr (se_cl (c_need_word x) hr (sos_cons (so_se (se_ix hr.u1 (so_var 0) (so_se se_int))) (sos_cons (so_var 1) sos_nil))))
  (sss_one (ss_ret (se_cl (c_state_from x) hr (sos_cons (so_var 0) (sos_cons (so_se se_int) (sos_cons (so_var 1) sos_nil))))))))
theorem c__law_shorter (x : Fx K mg base) : Cl P w K mg base (tbs K) 1 "_law_shorter" ["letters", "word"] fs__law_shorter :=
  cl_of x.d__law_shorter sc__law_shorter (by decide) (fun _ _ _ _ _ _ us hl => match us, hl with | [_, _], _ => rfl) (fun _ _ _ _ _ _ us hl => match us, hl with | [_, _], _ => rfl) fun cdv A outer s H E hr hc => by
  exact (sss_cons (ss_par 2 3 rfl sc__law_shorter.nd (sos_cons (so_se (se_lst svs_nilK)) (sos_cons (so_se (se_lst (svs_consK (se_tupK svs_nilK) svs_nilK))) sos_nil)))
  (sss_cons (ss_for PassesOwn.never rfl (si_rng1 (by rfl) x.b_range (svs_cons (sv_se (se_min2 rfl x.b_min boot_min (sos_cons (so_se (se_add (so_se (se_len x.b_len (sos_cons (so_var 1) sos_nil))) (so_se se_int))) (sos_cons (so_se se_int) sos_nil)))) svs_nil)) (sg_name 4 sc__law_shorter.nd) (sss_cons (ss_set 2 sc__law_shorter.nd (se_add (so_var 2) (so_se (se_lc [("one", 6)] rfl sc__law_shorter.nd (si_seq (sv_var 3)) (blkOk_by (by kernel_rfl)) (fun _ _ _ _ _ => (sgb_name 6 sc__law_shorter.nd)) (fun _ _ _ _ _ => (sts_one (SW.st (sw_or (st_lt hr (so_se (se_len x.b_len (sos_cons (so_var 6) sos_nil))) (so_se (se_len x.b_len (sos_cons (so_var 1) sos_nil)))) (sw_or1 (st_lt hr (so_var 6) (so_var 1))))))) (fun _ _ _ _ _ => (sv_var 6))))))
    (sss_cons (ss_set 5 sc__law_shorter.nd (se_lst svs_nilK))
    (sss_cons (ss_for PassesOwn.never rfl (si_seq (sv_var 3)) (sg_name 6 sc__law_shorter.nd) (sss_one (ss_set 5 sc__law_shorter.nd (se_add (so_var 5) (so_se (se_lc [("letter", 7)] rfl sc__law_shorter.nd (si_rng1 (by rfl) x.b_range (svs_cons (sv_var 0) svs_nil)) (blkOk_by (by kernel_rfl)) (fun _ _ _ _ _ => (sgb_name 7 sc__law_shorter.nd)) (fun _ _ _ _ _ => sts_nil) (fun _ _ _ _ _ => (sv_se (se_add (so_var 6) (so_se (se_tup (svs_cons (sv_var 7) svs_nil))))))))))))
    (sss_one (ss_set 3 sc__law_shorter.nd (se_move 5)))))))
  (sss_one (ss_ret (se_move 2)))))
theorem f_law (x : Fx K mg base) {fd : FuncData} (F : L2.Fun K "law" "law" s_law (He.fAd K ("law", none)) fd) : FnG P w K mg base CX0 (tbs K) 10 (He.fAd K ("law", none)) fd ["script"] fs_law :=
  fn_by F sc_law (by decide) fun cdv A outer s H E hcd hr he => by
  exact (sss_cons (ss_for PassesOwn.never rfl (si_enumA (by rfl) x.b_enumerate (svs_cons (sv_se (se_cl (c__law_first x) hr (sos_cons (so_var 0) (sos_cons (so_se se_int) sos_nil)))) svs_nil)) (sg_tup rfl (sgs_cons (sg_name 1 sc_law.nd) (sgs_cons (sg_name 2 sc_law.nd) sgs_nil))) (sss_cons (ss_set 3 sc_law.nd (se_cl (c__law_well x) hr (sos_cons (so_var 2) (sos_cons (so_var 1) sos_nil))))
    (sss_cons (ss_par 4 5 rfl sc_law.nd (sos_cons (so_se (se_add (so_se se_int) (so_se (se_cl (c__law_take x) hr (sos_cons (so_var 3) (sos_cons (so_se se_int) sos_nil)))))) (sos_cons (so_se (se_add (so_se se_int) (so_se (se_cl (c__law_take x) hr (sos_cons (so_var 3) (sos_cons (so_se se_int) sos_nil)))))) sos_nil)))
    (sss_cons (ss_set 6 sc_law.nd (se_cl (c__law_machine x) hr (sos_cons (so_var 3) (sos_cons (so_var 4) (sos_cons (so_var 5) (sos_cons (so_se (se_add (so_se se_int) (so_se (se_cl (c__law_take x) hr (sos_cons (so_var 3) (sos_cons (so_se se_int) sos_nil)))))) sos_nil))))))
    (sss_cons (ss_if (st_eq hr (so_se (se_cl (c__law_take x) hr (sos_cons (so_var 3) (sos_cons (so_se se_int) sos_nil)))) (so_se se_int)) (sss_cons (ss_set 6 sc_law.nd (se_tup (svs_cons (sv_var 4) (svs_cons (sv_var 5) (svs_cons (sv_se (se_add (so_se (se_ix hr.u1 (so_se (se_cl (c__law_machine x) hr (sos_cons (so_var 3) (sos_cons (so_var 4) (sos_cons (so_var 5) (sos_cons (so_se (se_add (so_se se_int) (so_se (se_cl (c__law_take x) hr (sos_cons (so_var 3) (sos_cons (so_se se_int) sos_nil)))))) sos_nil)))))) (so_se se_int))) (so_se (se_slice (so_se (se_ix hr.u1 (so_var 6) (so_se se_int))) sp_none (sp_some se_int))))) svs_nil)))))
      (sss_cons (ss_setLc 7 [("row", 13)] rfl sc_law.nd (si_seq (sv_se (se_ix hr.u1 (so_var 6) (so_se se_int)))) (blkOk_by (by kernel_rfl)) (fun _ _ _ _ _ => (sgb_name 13 sc_law.nd)) (fun _ _ _ _ _ => sts_nil) (fun _ _ _ _ _ => (sv_se (se_tupC x.b_tuple (sos_cons (so_se (se_lc [("after", 14), ("answer", 15)] rfl sc_law.nd (si_seq (sv_var 13)) (blkOk_by (by kernel_rfl)) (fun _ _ _ _ _ => (sgb_tup rfl (sgbs_cons (sgb_name 14 sc_law.nd) (sgbs_cons (sgb_name 15 sc_law.nd) sgbs_nil)))) (fun _ _ _ _ _ => sts_nil) (fun _ _ _ _ _ => (sv_se (se_tup (svs_cons (sv_se (se_mod (so_se (se_intC x.b_int (sos_cons (so_var 14) sos_nil))) (so_se (se_len x.b_len (sos_cons (so_se (se_ix hr.u1 (so_var 6) (so_se se_int))) sos_nil))))) (svs_cons (sv_var 15) svs_nil))))))) sos_nil)))) (sw_true rfl rfl rfl (by kernel_rfl)))
      (sss_one (ss_set 6 sc_law.nd (se_tup (svs_cons (sv_var 4) (svs_cons (sv_var 5) (svs_cons (sv_se (se_tupC x.b_tuple (sos_cons (so_var 7) sos_nil))) svs_nil)))))))) sss_nil)
    (sss_cons (ss_par3 8 9 10 rfl sc_law.nd (sos_cons (so_se (se_repr hr x.b_repr (sos_cons (so_var 6) sos_nil))) (sos_cons (so_se (se_cl (c_access x) hr (sos_cons (so_var 6) sos_nil))) (sos_cons (so_se (se_cl (c__law_access x) hr (sos_cons (so_var 6) sos_nil))) sos_nil))))
    (sss_cons (ss_if (SW.st (sw_or (st_ne hr (so_se (se_repr hr x.b_repr (sos_cons (so_se (se_lst (svs_cons (sv_var 9) (svs_cons (sv_se (se_clK (c_access x) hr (sok_cons (so_var 6) sok_nil))) svs_nil)))) sos_nil))) (so_se (se_repr hr x.b_repr (sos_cons (so_se (se_lst (svs_cons (sv_var 10) (svs_cons (sv_var 10) svs_nil)))) sos_nil)))) (sw_or1 (st_ne hr (so_se (se_repr hr x.b_repr (sos_cons (so_var 6) sos_nil))) (so_var 8))))) (sss_one (ss_ret se_bool)) sss_nil)
    (sss_one (ss_for PassesOwn.never rfl (si_enumA (by rfl) x.b_enumerate (svs_cons (sv_var 10) svs_nil)) (sg_tup rfl (sgs_cons (sg_name 11 sc_law.nd) (sgs_cons (sg_name 12 sc_law.nd) sgs_nil))) (sss_one (ss_if (st_isn (so_var 12) (so_se se_none)) (sss_cons (ss_if (st_ne hr (so_se (se_repr hr x.b_repr (sos_cons (so_se (se_cl (c_behind x) hr (sos_cons (so_var 6) (sos_cons (so_var 12) sos_nil)))) sos_nil))) (so_se (se_repr hr x.b_repr (sos_cons (so_var 11) sos_nil)))) (sss_one (ss_ret se_bool)) sss_nil)
        (sss_one (ss_if (st_ne hr (so_se (se_lc [("other", 16)] rfl sc_law.nd (si_seq (sv_se (se_cl (c__law_shorter x) hr (sos_cons (so_var 4) (sos_cons (so_var 12) sos_nil))))) (blkOk_by (by kernel_rfl)) (fun _ _ _ _ _ => (sgb_name 16 sc_law.nd)) (fun _ _ _ _ _ => (sts_one (st_eq hr (so_se (se_ix hr.u1 (so_se (se_cl (c__law_run x) hr (sos_cons (so_se (se_ix hr.u1 (so_var 6) (so_se se_int))) (sos_cons (so_var 16) sos_nil)))) (so_se se_int))) (so_var 11)))) (fun _ _ _ _ _ => (sv_K se_int)))) (so_se (se_lst svs_nilK))) (sss_one (ss_ret se_bool)) sss_nil))) sss_nil)))))))))))
  (sss_one (ss_ret se_bool)))
end
end DV

set_option Elab.async false
set_option linter.all false
set_option maxRecDepth 100000
set_option maxHeartbeats 0
namespace DV
open PySem PySem.Spec PyProof.Rows L2
/-! ### the head -/
def fn : List He.DefD := [⟨("_law_first", none), "_law_first", "_law_first", defArgs s__law_first, defBody s__law_first, defScope s__law_first, [], []⟩, ⟨("_law_well", none), "_law_well", "_law_well", defArgs s__law_well, defBody s__law_well, defScope s__law_well, [], []⟩, ⟨("_law_take", none), "_law_take", "_law_take", defArgs s__law_take, defBody s__law_take, defScope s__law_take, [], []⟩, ⟨("_law_machine", none), "_law_machine", "_law_machine", defArgs s__law_machine, defBody s__law_machine, defScope s__law_machine, [], []⟩, ⟨("is_tuple_of", none), "is_tuple_of", "is_tuple_of", defArgs s_is_tuple_of, defBody s_is_tuple_of, defScope s_is_tuple_of, [], []⟩, ⟨("is_integer", none), "is_integer", "is_integer", defArgs s_is_integer, defBody s_is_integer, defScope s_is_integer, [], []⟩, ⟨("is_within", none), "is_within", "is_within", defArgs s_is_within, defBody s_is_within, defScope s_is_within, [], []⟩, ⟨("is_entry_form", none), "is_entry_form", "is_entry_form", defArgs s_is_entry_form, defBody s_is_entry_form, defScope s_is_entry_form, [], []⟩, ⟨("are_rows", none), "are_rows", "are_rows", defArgs s_are_rows, defBody s_are_rows, defScope s_are_rows, [], []⟩, ⟨("is_tree", none), "is_tree", "is_tree", defArgs s_is_tree, defBody s_is_tree, defScope s_is_tree, [], []⟩, ⟨("is_sketch_form", none), "is_sketch_form", "is_sketch_form", defArgs s_is_sketch_form, defBody s_is_sketch_form, defScope s_is_sketch_form, [], []⟩, ⟨("is_machine_form", none), "is_machine_form", "is_machine_form", defArgs s_is_machine_form, defBody s_is_machine_form, defScope s_is_machine_form, [], []⟩, ⟨("need_machine", none), "need_machine", "need_machine", defArgs s_need_machine, defBody s_need_machine, defScope s_need_machine, [], []⟩, ⟨("access_of", none), "access_of", "access_of", defArgs s_access_of, defBody s_access_of, defScope s_access_of, [], []⟩, ⟨("access", none), "access", "access", defArgs s_access, defBody s_access, defScope s_access, [], []⟩, ⟨("_law_run", none), "_law_run", "_law_run", defArgs s__law_run, defBody s__law_run, defScope s__law_run, [], []⟩, ⟨("_law_access", none), "_law_access", "_law_access", defArgs s__law_access, defBody s__law_access, defScope s__law_access, [], []⟩, ⟨("need_sketch", none), "need_sketch", "need_sketch", defArgs s_need_sketch, defBody s_need_sketch, defScope s_need_sketch, [], []⟩, ⟨("is_word_form", none), "is_word_form", "is_word_form", defArgs s_is_word_form, defBody s_is_word_form, defScope s_is_word_form, [], []⟩, ⟨("need_word", none), "need_word", "need_word", defArgs s_need_word, defBody s_need_word, defScope s_need_word, [], []⟩, ⟨("run_from", none), "run_from", "run_from", defArgs s_run_from, defBody s_run_from, defScope s_run_from, [], []⟩, ⟨("state_from", none), "state_from", "state_from", defArgs s_state_from, defBody s_state_from, defScope s_state_from, [], []⟩, ⟨("behind", none), "behind", "behind", defArgs s_behind, defBody s_behind, defScope s_behind, [], []⟩, ⟨("_law_shorter", none), "_law_shorter", "_law_shorter", defArgs s__law_shorter, defBody s__law_shorter, defScope s__law_shorter, [], []⟩, ⟨("law", none), "law", "law", defArgs s_law, defBody s_law, defScope s_law, [], []⟩]
def fa : List He.Fa := [.glo "_law_first", .glo "_law_well", .glo "_law_take", .glo "_law_machine", .glo "is_tuple_of", .glo "is_integer", .glo "is_within", .glo "is_entry_form", .glo "are_rows", .glo "is_tree", .glo "is_sketch_form", .glo "is_machine_form", .glo "need_machine", .glo "access_of", .glo "access", .glo "_law_run", .glo "_law_access", .glo "need_sketch", .glo "is_word_form", .glo "need_word", .glo "run_from", .glo "state_from", .glo "behind", .glo "_law_shorter", .glo "law", .free "all", .free "bool", .free "enumerate", .free "int", .free "isinstance", .free "len", .free "min", .free "range", .free "repr", .free "tuple", .int "LEAST_ANSWERS" 2, .int "MOST_ANSWERS" 9, .int "MOST_LETTERS" 3, .int "MOST_ROWS" 600, .int "MOST_STATES" 12, .int "MOST_WORD" 600]
abbrev R : PySem.W.OpenRow := PySem.W.OpenLaw.row PySem.Challenge.rw_answertests_k10_words_that_lead_to_state
abbrev hk : PySem.W.Hook := He.hookX 6 fa fn [] tf (fun _ => true)
def ob (s : PySem.W.SharedT) : He.AlX := He.obsX 6 fa fn [] tf (fun _ => true) (HandSHeadRun.getT s)
theorem ob_eq (s : PySem.W.SharedT) : ob s = hk.obs s.abs := He.obsX_eq (HandSHeadRun.getT_eq s)
def loose : List PySem.Str := (["TestsError", "BadWord", "BadSketch", "BadMachine", "is_integer", "is_within", "is_tuple_of", "MOST_LETTERS", "LEAST_ANSWERS", "MOST_ANSWERS", "MOST_STATES", "MOST_ROWS", "MOST_WORD", "is_entry_form", "are_rows", "is_tree", "is_sketch_form", "is_machine_form", "need_sketch", "need_machine", "is_word_form", "need_word", "run_from", "state_from", "access_of", "behind", "access", "_law_well", "_law_take", "_law_first"] : List PySem.Str) ++ (["_law_machine", "_law_run", "_law_shorter", "_law_access"] : List PySem.Str)
theorem run (w : World) : HandSHeadRun.RunEq R (PySem.W.view R.prog [39]) hk ob 6000 loose w := by
  intro os
  kernel_rfl
theorem facts {K : Frag} {h : Heap} {mg : Str → Option Value} {base : Heap} {w : World} (X : K.In h) (G : h.Ns mainGlobals mg) (c : He.SaysX fa fn [] tf (fun _ => true) w h K) (TB : ∀ p ∈ tf.map (He.cT K), GxR.TabB base mg p.1 p.2) : Fx K mg base := by
  have cd : He.SaysD fa fn K := congrArg (fun z : He.AlT => z.1) c.t
  exact {
    b_all := He.free_ok X G (cd.fact 25 (f := .free "all") rfl)
    b_bool := He.free_ok X G (cd.fact 26 (f := .free "bool") rfl)
    b_enumerate := He.free_ok X G (cd.fact 27 (f := .free "enumerate") rfl)
    b_int := He.free_ok X G (cd.fact 28 (f := .free "int") rfl)
    b_isinstance := He.free_ok X G (cd.fact 29 (f := .free "isinstance") rfl)
    b_len := He.free_ok X G (cd.fact 30 (f := .free "len") rfl)
    b_min := He.free_ok X G (cd.fact 31 (f := .free "min") rfl)
    b_range := He.free_ok X G (cd.fact 32 (f := .free "range") rfl)
    b_repr := He.free_ok X G (cd.fact 33 (f := .free "repr") rfl)
    b_tuple := He.free_ok X G (cd.fact 34 (f := .free "tuple") rfl)
    i_LEAST_ANSWERS := He.int_ok X G (cd.fact 35 (f := .int "LEAST_ANSWERS" 2) rfl)
    i_MOST_ANSWERS := He.int_ok X G (cd.fact 36 (f := .int "MOST_ANSWERS" 9) rfl)
    i_MOST_LETTERS := He.int_ok X G (cd.fact 37 (f := .int "MOST_LETTERS" 3) rfl)
    i_MOST_ROWS := He.int_ok X G (cd.fact 38 (f := .int "MOST_ROWS" 600) rfl)
    i_MOST_STATES := He.int_ok X G (cd.fact 39 (f := .int "MOST_STATES" 12) rfl)
    i_MOST_WORD := He.int_ok X G (cd.fact 40 (f := .int "MOST_WORD" 600) rfl)
    d__law_first := let ⟨fd, F⟩ := cd.def_ 0 rfl; ⟨fd, fun_of F, He.glo_ok X G (cd.fact 0 (f := .glo "_law_first") rfl)⟩
    d__law_well := let ⟨fd, F⟩ := cd.def_ 1 rfl; ⟨fd, fun_of F, He.glo_ok X G (cd.fact 1 (f := .glo "_law_well") rfl)⟩
    d__law_take := let ⟨fd, F⟩ := cd.def_ 2 rfl; ⟨fd, fun_of F, He.glo_ok X G (cd.fact 2 (f := .glo "_law_take") rfl)⟩
    d__law_machine := let ⟨fd, F⟩ := cd.def_ 3 rfl; ⟨fd, fun_of F, He.glo_ok X G (cd.fact 3 (f := .glo "_law_machine") rfl)⟩
    d_is_tuple_of := let ⟨fd, F⟩ := cd.def_ 4 rfl; ⟨fd, fun_of F, He.glo_ok X G (cd.fact 4 (f := .glo "is_tuple_of") rfl)⟩
    d_is_integer := let ⟨fd, F⟩ := cd.def_ 5 rfl; ⟨fd, fun_of F, He.glo_ok X G (cd.fact 5 (f := .glo "is_integer") rfl)⟩
    d_is_within := let ⟨fd, F⟩ := cd.def_ 6 rfl; ⟨fd, fun_of F, He.glo_ok X G (cd.fact 6 (f := .glo "is_within") rfl)⟩
    d_is_entry_form := let ⟨fd, F⟩ := cd.def_ 7 rfl; ⟨fd, fun_of F, He.glo_ok X G (cd.fact 7 (f := .glo "is_entry_form") rfl)⟩
    d_are_rows := let ⟨fd, F⟩ := cd.def_ 8 rfl; ⟨fd, fun_of F, He.glo_ok X G (cd.fact 8 (f := .glo "are_rows") rfl)⟩
    d_is_tree := let ⟨fd, F⟩ := cd.def_ 9 rfl; ⟨fd, fun_of F, He.glo_ok X G (cd.fact 9 (f := .glo "is_tree") rfl)⟩
    d_is_sketch_form := let ⟨fd, F⟩ := cd.def_ 10 rfl; ⟨fd, fun_of F, He.glo_ok X G (cd.fact 10 (f := .glo "is_sketch_form") rfl)⟩
    d_is_machine_form := let ⟨fd, F⟩ := cd.def_ 11 rfl; ⟨fd, fun_of F, He.glo_ok X G (cd.fact 11 (f := .glo "is_machine_form") rfl)⟩
    d_need_machine := let ⟨fd, F⟩ := cd.def_ 12 rfl; ⟨fd, fun_of F, He.glo_ok X G (cd.fact 12 (f := .glo "need_machine") rfl)⟩
    d_access_of := let ⟨fd, F⟩ := cd.def_ 13 rfl; ⟨fd, fun_of F, He.glo_ok X G (cd.fact 13 (f := .glo "access_of") rfl)⟩
    d_access := let ⟨fd, F⟩ := cd.def_ 14 rfl; ⟨fd, fun_of F, He.glo_ok X G (cd.fact 14 (f := .glo "access") rfl)⟩
    d__law_run := let ⟨fd, F⟩ := cd.def_ 15 rfl; ⟨fd, fun_of F, He.glo_ok X G (cd.fact 15 (f := .glo "_law_run") rfl)⟩
    d__law_access := let ⟨fd, F⟩ := cd.def_ 16 rfl; ⟨fd, fun_of F, He.glo_ok X G (cd.fact 16 (f := .glo "_law_access") rfl)⟩
    d_need_sketch := let ⟨fd, F⟩ := cd.def_ 17 rfl; ⟨fd, fun_of F, He.glo_ok X G (cd.fact 17 (f := .glo "need_sketch") rfl)⟩
    d_is_word_form := let ⟨fd, F⟩ := cd.def_ 18 rfl; ⟨fd, fun_of F, He.glo_ok X G (cd.fact 18 (f := .glo "is_word_form") rfl)⟩
    d_need_word := let ⟨fd, F⟩ := cd.def_ 19 rfl; ⟨fd, fun_of F, He.glo_ok X G (cd.fact 19 (f := .glo "need_word") rfl)⟩
    d_run_from := let ⟨fd, F⟩ := cd.def_ 20 rfl; ⟨fd, fun_of F, He.glo_ok X G (cd.fact 20 (f := .glo "run_from") rfl)⟩
    d_state_from := let ⟨fd, F⟩ := cd.def_ 21 rfl; ⟨fd, fun_of F, He.glo_ok X G (cd.fact 21 (f := .glo "state_from") rfl)⟩
    d_behind := let ⟨fd, F⟩ := cd.def_ 22 rfl; ⟨fd, fun_of F, He.glo_ok X G (cd.fact 22 (f := .glo "behind") rfl)⟩
    d__law_shorter := let ⟨fd, F⟩ := cd.def_ 23 rfl; ⟨fd, fun_of F, He.glo_ok X G (cd.fact 23 (f := .glo "_law_shorter") rfl)⟩
    d_law := let ⟨fd, F⟩ := cd.def_ 24 rfl; ⟨fd, fun_of F, He.glo_ok X G (cd.fact 24 (f := .glo "law") rfl)⟩
    p_are_rows := List.mem_map.mpr ⟨_, List.mem_map.mpr ⟨("are_rows", none), .head _, rfl⟩, rfl⟩
    t_are_rows := TB _ (List.mem_map.mpr ⟨("are_rows", none), .head _, rfl⟩)
    p_is_machine_form := List.mem_map.mpr ⟨_, List.mem_map.mpr ⟨("is_machine_form", none), .tail _ (.head _), rfl⟩, rfl⟩
    t_is_machine_form := TB _ (List.mem_map.mpr ⟨("is_machine_form", none), .tail _ (.head _), rfl⟩)
    p_is_word_form := List.mem_map.mpr ⟨_, List.mem_map.mpr ⟨("is_word_form", none), .tail _ (.tail _ (.head _)), rfl⟩, rfl⟩
    t_is_word_form := TB _ (List.mem_map.mpr ⟨("is_word_form", none), .tail _ (.tail _ (.head _)), rfl⟩) }
end DV


set_option Elab.async false
set_option linter.all false
set_option maxRecDepth 100000
set_option maxHeartbeats 4000000
namespace DV
open PySem PySem.Spec PyProof.Rows L2
theorem sz1 : (1 : Nat) ≤ sizeLine := by decide
theorem sz2 : (2 : Nat) ≤ sizeLine := by decide
theorem sz3 : (3 : Nat) ≤ sizeLine := by decide
theorem szlt {n : Nat} (h : n < 1000000) : n < sizeLine := Nat.lt_of_lt_of_le h (by decide)
theorem rng0_get {n i : Nat} {d : D} (h : (rngD 0 n)[i]? = some d) : i < n ∧ d = .int (i : Nat) := by
  obtain ⟨h1, h2⟩ := rngD_get h
  exact ⟨h1, by rw [h2, Int.zero_add]⟩
/-! ### typed sketches -/
abbrev Ent := Option (Nat × Nat)
abbrev Row := List Ent
def eE : Ent → D
  | none => .none
  | some (s, a) => .tuple [.int s, .int a]
def eR (r : Row) : D := .tuple (r.map eE)
structure Sk where
  L : Nat
  A : Nat
  rows : List Row
def eS (m : Sk) : D := .tuple [.int m.L, .int m.A, .tuple (m.rows.map eR)]
theorem seqV_S {m : Sk} : seqV (eS m) = some [.int m.L, .int m.A, .tuple (m.rows.map eR)] := rfl
theorem seqV_R {r : Row} : seqV (eR r) = some (r.map eE) := rfl
/-- a row of entries of so many letters, states, answers; all told -/
def FullR (L S A : Nat) (r : Row) : Prop := r.length = L ∧ ∀ x ∈ r, ∃ s a, x = some (s, a) ∧ s < S ∧ a < A
def GapR (L S A : Nat) (r : Row) : Prop := r.length = L ∧ ∀ x ∈ r, ∀ s a, x = some (s, a) → s < S ∧ a < A
theorem FullR.gap {L S A : Nat} {r : Row} (h : FullR L S A r) : GapR L S A r := ⟨h.1, fun x hx s a e => by
  obtain ⟨s', a', e', h1, h2⟩ := h.2 x hx
  rw [e] at e'
  cases e'
  exact ⟨h1, h2⟩⟩

abbrev uo (u : MO) : Slot := .own none u
abbrev un (u : MO) : Option Slot := some (.own none u)
abbrev ua (u : MO) : Option Slot := some (.own (some 0) u)
theorem cut_take {α : Type} (xs : List α) (k : Nat) : cutD xs none (some (k : Int)) = xs.take k := by
  unfold cutD
  rw [HT.sIx_none, HT.sIx_nat, List.drop_zero, Nat.sub_zero]
  rcases Nat.le_total k xs.length with h | h
  · rw [Nat.min_eq_left h]
  · rw [Nat.min_eq_right h, List.take_of_length_le (Nat.le_refl _), List.take_of_length_le h]
theorem mem_snoc' {α : Type} {P : α → Prop} {xs : List α} {y : α} (h : ∀ e ∈ xs, P e) (hy : P y) : ∀ e ∈ xs ++ [y], P e := fun e he => by
  rcases List.mem_append.mp he with he | he
  · exact h e he
  · rw [List.mem_singleton.mp he]; exact hy
theorem map_snoc {α β : Type} (f : α → β) (xs : List α) (y : α) : xs.map f ++ [f y] = (xs ++ [y]).map f := by simp
def FullE (S A : Nat) (x : Ent) : Prop := ∃ s a, x = some (s, a) ∧ s < S ∧ a < A
theorem eE_some (s a : Nat) : PyData.tuple [.int s, .int a] = eE (some (s, a)) := rfl
theorem eR_of (r : Row) : PyData.tuple (r.map eE) = eR r := rfl
theorem atI_map {α β : Type} (f : α → β) {xs : List α} {i : Int} : atI (xs.map f) i = (atI xs i).map f := by
  unfold atI
  rw [List.length_map]
  cases ixN xs.length i with
  | none => rfl
  | some j => simp
theorem atI_natD {α : Type} {xs : List α} {i : Nat} : i < xs.length → ∃ x, xs[i]? = some x ∧ x ∈ xs ∧ atI xs (i : Int) = some x := fun h =>
  ⟨xs[i], List.getElem?_eq_getElem h, List.getElem_mem h, atI_nat (List.getElem?_eq_getElem h)⟩
structure Mach (m : Sk) : Prop where
  l1 : 1 ≤ m.L
  l3 : m.L ≤ 3
  a2 : 2 ≤ m.A
  a9 : m.A ≤ 9
  n1 : 1 ≤ m.rows.length
  n12 : m.rows.length ≤ 12
  full : ∀ r ∈ m.rows, FullR m.L m.rows.length m.A r
end DV

set_option Elab.async false
set_option linter.all false
set_option maxRecDepth 100000
set_option maxHeartbeats 4000000
namespace DV
open PySem PySem.Spec PyProof.Rows L2
/-! ### forms -/
def tupB (d : D) (lo hi : Int) : Bool := match d with
  | .tuple xs => decide (lo ≤ (xs.length : Int)) && decide ((xs.length : Int) ≤ hi)
  | _ => false
def intB (d : D) : Bool := match d with
  | .int _ => true
  | _ => false
def withinB (d : D) (lo hi : Int) : Bool := match d with
  | .int i => decide (lo ≤ i) && decide (i ≤ hi)
  | _ => false
def entB (A n : Int) (d : D) : Bool := match d with
  | .none => true
  | .tuple [x, y] => withinB x 0 (n - 1) && withinB y 0 (A - 1)
  | _ => false
def rowB (L : Int) (A n : Int) (d : D) : Bool := match d with
  | .tuple es => (decide (L ≤ (es.length : Int)) && decide ((es.length : Int) ≤ L)) && es.all (entB A n)
  | _ => false
theorem sp_tuple_of {d : D} {lo hi : Int} {Q : Slot → List Slot → Prop} {X : Value → Prop} (h : Q (.val (.bool (tupB d lo hi))) [.val d, .val (.int lo), .val (.int hi)]) :
    fs_is_tuple_of [.val d, .val (.int lo), .val (.int hi)] Q X := by
  refine ⟨rfl, ?_⟩
  unfold w_is_tuple_of
  simp -dsimp only [↓z_K, ↓z_VarO, ↓z_Var, ↓z_Move, ↓z_Of, ↓z_Fz, ↓z_Res, ↓z_VNil, ↓z_VCons, ↓z_Tup, ↓z_Lst, ↓z_Op2, ↓z_Tst, ↓z_Not, ↓z_Chain, ↓z_AndV, ↓z_OrV, ↓z_NotV, ↓z_And, ↓z_Or, ↓z_If, ↓z_Next, ↓z_Seq, ↓z_Break, ↓z_Cont, ↓z_Exp, ↓z_Ret, ↓z_RetN, ↓z_IfS, ↓z_Nm, ↓z_Tp, ↓z_GN, ↓z_GC, ↓z_Asg, ↓z_ONil, ↓z_OCons, ↓z_SetIx, ↓z_Call, ↓z_Sq, ↓z_Rev, ↓z_For, ↓z_Wh, ↓z_Lc, ↓z_Lc2, ↓z_All, ↓z_All2, ↓z_Yes, ↓z_CB, ↓z_Isi, ↓z_Neg, ↓z_NoP, ↓z_Prt, ↓z_Sl, ↓z_App, ↓z_Pop, ↓z_VK, ↓z_VKs, ↓z_Eq, ↓z_InL, ↓z_InK, ↓z_InT, ↓z_In1, ↓z_In2, ↓z_In3, ↓z_In4, ↓z_IxS, ↓z_Ix1, ↓z_Ix2, ↓z_Ix3, ↓z_Ix4, ↓z_Ix5, ↓z_put1, ↓z_put2, ↓z_put3, ↓z_Len, ↓z_TupC, ↓z_LstC, ↓z_Repr, ↓z_NewD, ↓z_DisK, ↓z_DisT, ↓z_Get1, ↓z_Get2, ↓z_get2K, ↓z_get2T, ↓z_fin, ↓z_Rng1, ↓z_Rng2, ↓rng1F_i, ↓rng2F_i, ↓z_Enm, ↓z_EnmA, ↓enmAF_l, ↓enmAF_t, ↓enmF_l, ↓z_Zip, ↓zipF_l, ↓zipF_t, ↓z_Par, ↓parF_r, ↓z_Par3, ↓par3F_r, ↓z_Never, ↓z_NevE, ↓z_getK, ↓z_getT, ↓z_AddI, ↓z_AddT, ↓z_AddO, ↓z_AddS, ↓z_MulI, ↓z_MulT, ↓z_LtI, ↓z_LtT, ↓z_IsN, ↓z_IntI, ↓z_SlT, ↓z_SlL, ↓z_SlO, ↓z_SlS, ↓z_Sub, ↓z_Mod, ↓z_Div, ↓z_Pow, ↓z_Le, ↓z_Gt, ↓z_Ge, ↓z_II, ↓varF_v, ↓varF_l, ↓mvF_o, ↓mvF_v, ↓mvF_s, ndF_some, ifB_t, ifB_f, con, sl, frzS, isB, tuO_t, daO, sqO_l, sqO_t, sqO_o, sqO_s, lsO, lenO_K, lenO_T, lenO_o, lenO_l, lenO_t, lenO_s, ngO, consO, argO, varsO, wrB, untag, owL, tyS, tyD_n, tyD_b, tyD_i, tyD_s, tyD_l, tyD_t, tyD_d, entryE, tagA, backA, wipeE, backE, keepS, seqD_l, seqD_t, seqV_l, seqV_t, liD_l, kyS, ksS, keyD_i, keyD_s, keysD, ixS, tupD_t, isDic, isT, eq_self, isNone_n, isNone_i, isNone_t, isNone_l, isNone_b, isNone_s, isNone_o, need_some, atI_0, atI_1, atI_2, atI_3, ixN_30, ixN_31, ixN_32, eqv_int, eqv_str, Int.toNat_natCast, List.getElem?_cons_zero, List.getElem?_cons_succ, List.getElem?_nil, List.set_cons_zero, List.set_cons_succ, List.length_cons, List.length_nil, Option.join_some, Option.join_none, List.replicate_succ, List.replicate_zero, List.cons_append, List.nil_append, Option.map_some, Nat.zero_add, Nat.reduceAdd, Nat.reduceSub, Bool.not_true, Bool.not_false, if_true, if_false, Bool.false_eq_true, true_and, and_true, decide_true, decide_false, Nat.reduceLeDiff, Nat.reduceEqDiff, reduceIte, reduceCtorEq, Bool.or_false, Bool.or_true, Bool.and_true, Bool.and_false, Bool.true_and, Bool.false_and, Bool.true_or, Bool.false_or, List.map_cons, List.map_nil, List.nodup_cons, List.nodup_nil, List.mem_cons, List.not_mem_nil, not_false_eq_true, or_false, false_or, seqV_S, seqV_R]
  cases d with
  | tuple xs =>
    simp -dsimp only [↓z_K, ↓z_VarO, ↓z_Var, ↓z_Move, ↓z_Of, ↓z_Fz, ↓z_Res, ↓z_VNil, ↓z_VCons, ↓z_Tup, ↓z_Lst, ↓z_Op2, ↓z_Tst, ↓z_Not, ↓z_Chain, ↓z_AndV, ↓z_OrV, ↓z_NotV, ↓z_And, ↓z_Or, ↓z_If, ↓z_Next, ↓z_Seq, ↓z_Break, ↓z_Cont, ↓z_Exp, ↓z_Ret, ↓z_RetN, ↓z_IfS, ↓z_Nm, ↓z_Tp, ↓z_GN, ↓z_GC, ↓z_Asg, ↓z_ONil, ↓z_OCons, ↓z_SetIx, ↓z_Call, ↓z_Sq, ↓z_Rev, ↓z_For, ↓z_Wh, ↓z_Lc, ↓z_Lc2, ↓z_All, ↓z_All2, ↓z_Yes, ↓z_CB, ↓z_Isi, ↓z_Neg, ↓z_NoP, ↓z_Prt, ↓z_Sl, ↓z_App, ↓z_Pop, ↓z_VK, ↓z_VKs, ↓z_Eq, ↓z_InL, ↓z_InK, ↓z_InT, ↓z_In1, ↓z_In2, ↓z_In3, ↓z_In4, ↓z_IxS, ↓z_Ix1, ↓z_Ix2, ↓z_Ix3, ↓z_Ix4, ↓z_Ix5, ↓z_put1, ↓z_put2, ↓z_put3, ↓z_Len, ↓z_TupC, ↓z_LstC, ↓z_Repr, ↓z_NewD, ↓z_DisK, ↓z_DisT, ↓z_Get1, ↓z_Get2, ↓z_get2K, ↓z_get2T, ↓z_fin, ↓z_Rng1, ↓z_Rng2, ↓rng1F_i, ↓rng2F_i, ↓z_Enm, ↓z_EnmA, ↓enmAF_l, ↓enmAF_t, ↓enmF_l, ↓z_Zip, ↓zipF_l, ↓zipF_t, ↓z_Par, ↓parF_r, ↓z_Par3, ↓par3F_r, ↓z_Never, ↓z_NevE, ↓z_getK, ↓z_getT, ↓z_AddI, ↓z_AddT, ↓z_AddO, ↓z_AddS, ↓z_MulI, ↓z_MulT, ↓z_LtI, ↓z_LtT, ↓z_IsN, ↓z_IntI, ↓z_SlT, ↓z_SlL, ↓z_SlO, ↓z_SlS, ↓z_Sub, ↓z_Mod, ↓z_Div, ↓z_Pow, ↓z_Le, ↓z_Gt, ↓z_Ge, ↓z_II, ↓varF_v, ↓varF_l, ↓mvF_o, ↓mvF_v, ↓mvF_s, ndF_some, ifB_t, ifB_f, con, sl, frzS, isB, tuO_t, daO, sqO_l, sqO_t, sqO_o, sqO_s, lsO, lenO_K, lenO_T, lenO_o, lenO_l, lenO_t, lenO_s, ngO, consO, argO, varsO, wrB, untag, owL, tyS, tyD_n, tyD_b, tyD_i, tyD_s, tyD_l, tyD_t, tyD_d, entryE, tagA, backA, wipeE, backE, keepS, seqD_l, seqD_t, seqV_l, seqV_t, liD_l, kyS, ksS, keyD_i, keyD_s, keysD, ixS, tupD_t, isDic, isT, eq_self, isNone_n, isNone_i, isNone_t, isNone_l, isNone_b, isNone_s, isNone_o, need_some, atI_0, atI_1, atI_2, atI_3, ixN_30, ixN_31, ixN_32, eqv_int, eqv_str, Int.toNat_natCast, List.getElem?_cons_zero, List.getElem?_cons_succ, List.getElem?_nil, List.set_cons_zero, List.set_cons_succ, List.length_cons, List.length_nil, Option.join_some, Option.join_none, List.replicate_succ, List.replicate_zero, List.cons_append, List.nil_append, Option.map_some, Nat.zero_add, Nat.reduceAdd, Nat.reduceSub, Bool.not_true, Bool.not_false, if_true, if_false, Bool.false_eq_true, true_and, and_true, decide_true, decide_false, Nat.reduceLeDiff, Nat.reduceEqDiff, reduceIte, reduceCtorEq, Bool.or_false, Bool.or_true, Bool.and_true, Bool.and_false, Bool.true_and, Bool.false_and, Bool.true_or, Bool.false_or, List.map_cons, List.map_nil, List.nodup_cons, List.nodup_nil, List.mem_cons, List.not_mem_nil, not_false_eq_true, or_false, false_or, seqV_S, seqV_R]
    refine brB (fun q => ?_) fun q => ?_
    · simp -dsimp only [↓z_K, ↓z_VarO, ↓z_Var, ↓z_Move, ↓z_Of, ↓z_Fz, ↓z_Res, ↓z_VNil, ↓z_VCons, ↓z_Tup, ↓z_Lst, ↓z_Op2, ↓z_Tst, ↓z_Not, ↓z_Chain, ↓z_AndV, ↓z_OrV, ↓z_NotV, ↓z_And, ↓z_Or, ↓z_If, ↓z_Next, ↓z_Seq, ↓z_Break, ↓z_Cont, ↓z_Exp, ↓z_Ret, ↓z_RetN, ↓z_IfS, ↓z_Nm, ↓z_Tp, ↓z_GN, ↓z_GC, ↓z_Asg, ↓z_ONil, ↓z_OCons, ↓z_SetIx, ↓z_Call, ↓z_Sq, ↓z_Rev, ↓z_For, ↓z_Wh, ↓z_Lc, ↓z_Lc2, ↓z_All, ↓z_All2, ↓z_Yes, ↓z_CB, ↓z_Isi, ↓z_Neg, ↓z_NoP, ↓z_Prt, ↓z_Sl, ↓z_App, ↓z_Pop, ↓z_VK, ↓z_VKs, ↓z_Eq, ↓z_InL, ↓z_InK, ↓z_InT, ↓z_In1, ↓z_In2, ↓z_In3, ↓z_In4, ↓z_IxS, ↓z_Ix1, ↓z_Ix2, ↓z_Ix3, ↓z_Ix4, ↓z_Ix5, ↓z_put1, ↓z_put2, ↓z_put3, ↓z_Len, ↓z_TupC, ↓z_LstC, ↓z_Repr, ↓z_NewD, ↓z_DisK, ↓z_DisT, ↓z_Get1, ↓z_Get2, ↓z_get2K, ↓z_get2T, ↓z_fin, ↓z_Rng1, ↓z_Rng2, ↓rng1F_i, ↓rng2F_i, ↓z_Enm, ↓z_EnmA, ↓enmAF_l, ↓enmAF_t, ↓enmF_l, ↓z_Zip, ↓zipF_l, ↓zipF_t, ↓z_Par, ↓parF_r, ↓z_Par3, ↓par3F_r, ↓z_Never, ↓z_NevE, ↓z_getK, ↓z_getT, ↓z_AddI, ↓z_AddT, ↓z_AddO, ↓z_AddS, ↓z_MulI, ↓z_MulT, ↓z_LtI, ↓z_LtT, ↓z_IsN, ↓z_IntI, ↓z_SlT, ↓z_SlL, ↓z_SlO, ↓z_SlS, ↓z_Sub, ↓z_Mod, ↓z_Div, ↓z_Pow, ↓z_Le, ↓z_Gt, ↓z_Ge, ↓z_II, ↓varF_v, ↓varF_l, ↓mvF_o, ↓mvF_v, ↓mvF_s, ndF_some, ifB_t, ifB_f, con, sl, frzS, isB, tuO_t, daO, sqO_l, sqO_t, sqO_o, sqO_s, lsO, lenO_K, lenO_T, lenO_o, lenO_l, lenO_t, lenO_s, ngO, consO, argO, varsO, wrB, untag, owL, tyS, tyD_n, tyD_b, tyD_i, tyD_s, tyD_l, tyD_t, tyD_d, entryE, tagA, backA, wipeE, backE, keepS, seqD_l, seqD_t, seqV_l, seqV_t, liD_l, kyS, ksS, keyD_i, keyD_s, keysD, ixS, tupD_t, isDic, isT, eq_self, isNone_n, isNone_i, isNone_t, isNone_l, isNone_b, isNone_s, isNone_o, need_some, atI_0, atI_1, atI_2, atI_3, ixN_30, ixN_31, ixN_32, eqv_int, eqv_str, Int.toNat_natCast, List.getElem?_cons_zero, List.getElem?_cons_succ, List.getElem?_nil, List.set_cons_zero, List.set_cons_succ, List.length_cons, List.length_nil, Option.join_some, Option.join_none, List.replicate_succ, List.replicate_zero, List.cons_append, List.nil_append, Option.map_some, Nat.zero_add, Nat.reduceAdd, Nat.reduceSub, Bool.not_true, Bool.not_false, if_true, if_false, Bool.false_eq_true, true_and, and_true, decide_true, decide_false, Nat.reduceLeDiff, Nat.reduceEqDiff, reduceIte, reduceCtorEq, Bool.or_false, Bool.or_true, Bool.and_true, Bool.and_false, Bool.true_and, Bool.false_and, Bool.true_or, Bool.false_or, List.map_cons, List.map_nil, List.nodup_cons, List.nodup_nil, List.mem_cons, List.not_mem_nil, not_false_eq_true, or_false, false_or, seqV_S, seqV_R]
      rw [tupB, q, Bool.true_and] at h
      exact h
    · simp -dsimp only [↓z_K, ↓z_VarO, ↓z_Var, ↓z_Move, ↓z_Of, ↓z_Fz, ↓z_Res, ↓z_VNil, ↓z_VCons, ↓z_Tup, ↓z_Lst, ↓z_Op2, ↓z_Tst, ↓z_Not, ↓z_Chain, ↓z_AndV, ↓z_OrV, ↓z_NotV, ↓z_And, ↓z_Or, ↓z_If, ↓z_Next, ↓z_Seq, ↓z_Break, ↓z_Cont, ↓z_Exp, ↓z_Ret, ↓z_RetN, ↓z_IfS, ↓z_Nm, ↓z_Tp, ↓z_GN, ↓z_GC, ↓z_Asg, ↓z_ONil, ↓z_OCons, ↓z_SetIx, ↓z_Call, ↓z_Sq, ↓z_Rev, ↓z_For, ↓z_Wh, ↓z_Lc, ↓z_Lc2, ↓z_All, ↓z_All2, ↓z_Yes, ↓z_CB, ↓z_Isi, ↓z_Neg, ↓z_NoP, ↓z_Prt, ↓z_Sl, ↓z_App, ↓z_Pop, ↓z_VK, ↓z_VKs, ↓z_Eq, ↓z_InL, ↓z_InK, ↓z_InT, ↓z_In1, ↓z_In2, ↓z_In3, ↓z_In4, ↓z_IxS, ↓z_Ix1, ↓z_Ix2, ↓z_Ix3, ↓z_Ix4, ↓z_Ix5, ↓z_put1, ↓z_put2, ↓z_put3, ↓z_Len, ↓z_TupC, ↓z_LstC, ↓z_Repr, ↓z_NewD, ↓z_DisK, ↓z_DisT, ↓z_Get1, ↓z_Get2, ↓z_get2K, ↓z_get2T, ↓z_fin, ↓z_Rng1, ↓z_Rng2, ↓rng1F_i, ↓rng2F_i, ↓z_Enm, ↓z_EnmA, ↓enmAF_l, ↓enmAF_t, ↓enmF_l, ↓z_Zip, ↓zipF_l, ↓zipF_t, ↓z_Par, ↓parF_r, ↓z_Par3, ↓par3F_r, ↓z_Never, ↓z_NevE, ↓z_getK, ↓z_getT, ↓z_AddI, ↓z_AddT, ↓z_AddO, ↓z_AddS, ↓z_MulI, ↓z_MulT, ↓z_LtI, ↓z_LtT, ↓z_IsN, ↓z_IntI, ↓z_SlT, ↓z_SlL, ↓z_SlO, ↓z_SlS, ↓z_Sub, ↓z_Mod, ↓z_Div, ↓z_Pow, ↓z_Le, ↓z_Gt, ↓z_Ge, ↓z_II, ↓varF_v, ↓varF_l, ↓mvF_o, ↓mvF_v, ↓mvF_s, ndF_some, ifB_t, ifB_f, con, sl, frzS, isB, tuO_t, daO, sqO_l, sqO_t, sqO_o, sqO_s, lsO, lenO_K, lenO_T, lenO_o, lenO_l, lenO_t, lenO_s, ngO, consO, argO, varsO, wrB, untag, owL, tyS, tyD_n, tyD_b, tyD_i, tyD_s, tyD_l, tyD_t, tyD_d, entryE, tagA, backA, wipeE, backE, keepS, seqD_l, seqD_t, seqV_l, seqV_t, liD_l, kyS, ksS, keyD_i, keyD_s, keysD, ixS, tupD_t, isDic, isT, eq_self, isNone_n, isNone_i, isNone_t, isNone_l, isNone_b, isNone_s, isNone_o, need_some, atI_0, atI_1, atI_2, atI_3, ixN_30, ixN_31, ixN_32, eqv_int, eqv_str, Int.toNat_natCast, List.getElem?_cons_zero, List.getElem?_cons_succ, List.getElem?_nil, List.set_cons_zero, List.set_cons_succ, List.length_cons, List.length_nil, Option.join_some, Option.join_none, List.replicate_succ, List.replicate_zero, List.cons_append, List.nil_append, Option.map_some, Nat.zero_add, Nat.reduceAdd, Nat.reduceSub, Bool.not_true, Bool.not_false, if_true, if_false, Bool.false_eq_true, true_and, and_true, decide_true, decide_false, Nat.reduceLeDiff, Nat.reduceEqDiff, reduceIte, reduceCtorEq, Bool.or_false, Bool.or_true, Bool.and_true, Bool.and_false, Bool.true_and, Bool.false_and, Bool.true_or, Bool.false_or, List.map_cons, List.map_nil, List.nodup_cons, List.nodup_nil, List.mem_cons, List.not_mem_nil, not_false_eq_true, or_false, false_or, seqV_S, seqV_R]
      rw [tupB, q, Bool.false_and] at h
      exact h
  | none => simp -dsimp only [↓z_K, ↓z_VarO, ↓z_Var, ↓z_Move, ↓z_Of, ↓z_Fz, ↓z_Res, ↓z_VNil, ↓z_VCons, ↓z_Tup, ↓z_Lst, ↓z_Op2, ↓z_Tst, ↓z_Not, ↓z_Chain, ↓z_AndV, ↓z_OrV, ↓z_NotV, ↓z_And, ↓z_Or, ↓z_If, ↓z_Next, ↓z_Seq, ↓z_Break, ↓z_Cont, ↓z_Exp, ↓z_Ret, ↓z_RetN, ↓z_IfS, ↓z_Nm, ↓z_Tp, ↓z_GN, ↓z_GC, ↓z_Asg, ↓z_ONil, ↓z_OCons, ↓z_SetIx, ↓z_Call, ↓z_Sq, ↓z_Rev, ↓z_For, ↓z_Wh, ↓z_Lc, ↓z_Lc2, ↓z_All, ↓z_All2, ↓z_Yes, ↓z_CB, ↓z_Isi, ↓z_Neg, ↓z_NoP, ↓z_Prt, ↓z_Sl, ↓z_App, ↓z_Pop, ↓z_VK, ↓z_VKs, ↓z_Eq, ↓z_InL, ↓z_InK, ↓z_InT, ↓z_In1, ↓z_In2, ↓z_In3, ↓z_In4, ↓z_IxS, ↓z_Ix1, ↓z_Ix2, ↓z_Ix3, ↓z_Ix4, ↓z_Ix5, ↓z_put1, ↓z_put2, ↓z_put3, ↓z_Len, ↓z_TupC, ↓z_LstC, ↓z_Repr, ↓z_NewD, ↓z_DisK, ↓z_DisT, ↓z_Get1, ↓z_Get2, ↓z_get2K, ↓z_get2T, ↓z_fin, ↓z_Rng1, ↓z_Rng2, ↓rng1F_i, ↓rng2F_i, ↓z_Enm, ↓z_EnmA, ↓enmAF_l, ↓enmAF_t, ↓enmF_l, ↓z_Zip, ↓zipF_l, ↓zipF_t, ↓z_Par, ↓parF_r, ↓z_Par3, ↓par3F_r, ↓z_Never, ↓z_NevE, ↓z_getK, ↓z_getT, ↓z_AddI, ↓z_AddT, ↓z_AddO, ↓z_AddS, ↓z_MulI, ↓z_MulT, ↓z_LtI, ↓z_LtT, ↓z_IsN, ↓z_IntI, ↓z_SlT, ↓z_SlL, ↓z_SlO, ↓z_SlS, ↓z_Sub, ↓z_Mod, ↓z_Div, ↓z_Pow, ↓z_Le, ↓z_Gt, ↓z_Ge, ↓z_II, ↓varF_v, ↓varF_l, ↓mvF_o, ↓mvF_v, ↓mvF_s, ndF_some, ifB_t, ifB_f, con, sl, frzS, isB, tuO_t, daO, sqO_l, sqO_t, sqO_o, sqO_s, lsO, lenO_K, lenO_T, lenO_o, lenO_l, lenO_t, lenO_s, ngO, consO, argO, varsO, wrB, untag, owL, tyS, tyD_n, tyD_b, tyD_i, tyD_s, tyD_l, tyD_t, tyD_d, entryE, tagA, backA, wipeE, backE, keepS, seqD_l, seqD_t, seqV_l, seqV_t, liD_l, kyS, ksS, keyD_i, keyD_s, keysD, ixS, tupD_t, isDic, isT, eq_self, isNone_n, isNone_i, isNone_t, isNone_l, isNone_b, isNone_s, isNone_o, need_some, atI_0, atI_1, atI_2, atI_3, ixN_30, ixN_31, ixN_32, eqv_int, eqv_str, Int.toNat_natCast, List.getElem?_cons_zero, List.getElem?_cons_succ, List.getElem?_nil, List.set_cons_zero, List.set_cons_succ, List.length_cons, List.length_nil, Option.join_some, Option.join_none, List.replicate_succ, List.replicate_zero, List.cons_append, List.nil_append, Option.map_some, Nat.zero_add, Nat.reduceAdd, Nat.reduceSub, Bool.not_true, Bool.not_false, if_true, if_false, Bool.false_eq_true, true_and, and_true, decide_true, decide_false, Nat.reduceLeDiff, Nat.reduceEqDiff, reduceIte, reduceCtorEq, Bool.or_false, Bool.or_true, Bool.and_true, Bool.and_false, Bool.true_and, Bool.false_and, Bool.true_or, Bool.false_or, List.map_cons, List.map_nil, List.nodup_cons, List.nodup_nil, List.mem_cons, List.not_mem_nil, not_false_eq_true, or_false, false_or, seqV_S, seqV_R]; exact h
  | bool => simp -dsimp only [↓z_K, ↓z_VarO, ↓z_Var, ↓z_Move, ↓z_Of, ↓z_Fz, ↓z_Res, ↓z_VNil, ↓z_VCons, ↓z_Tup, ↓z_Lst, ↓z_Op2, ↓z_Tst, ↓z_Not, ↓z_Chain, ↓z_AndV, ↓z_OrV, ↓z_NotV, ↓z_And, ↓z_Or, ↓z_If, ↓z_Next, ↓z_Seq, ↓z_Break, ↓z_Cont, ↓z_Exp, ↓z_Ret, ↓z_RetN, ↓z_IfS, ↓z_Nm, ↓z_Tp, ↓z_GN, ↓z_GC, ↓z_Asg, ↓z_ONil, ↓z_OCons, ↓z_SetIx, ↓z_Call, ↓z_Sq, ↓z_Rev, ↓z_For, ↓z_Wh, ↓z_Lc, ↓z_Lc2, ↓z_All, ↓z_All2, ↓z_Yes, ↓z_CB, ↓z_Isi, ↓z_Neg, ↓z_NoP, ↓z_Prt, ↓z_Sl, ↓z_App, ↓z_Pop, ↓z_VK, ↓z_VKs, ↓z_Eq, ↓z_InL, ↓z_InK, ↓z_InT, ↓z_In1, ↓z_In2, ↓z_In3, ↓z_In4, ↓z_IxS, ↓z_Ix1, ↓z_Ix2, ↓z_Ix3, ↓z_Ix4, ↓z_Ix5, ↓z_put1, ↓z_put2, ↓z_put3, ↓z_Len, ↓z_TupC, ↓z_LstC, ↓z_Repr, ↓z_NewD, ↓z_DisK, ↓z_DisT, ↓z_Get1, ↓z_Get2, ↓z_get2K, ↓z_get2T, ↓z_fin, ↓z_Rng1, ↓z_Rng2, ↓rng1F_i, ↓rng2F_i, ↓z_Enm, ↓z_EnmA, ↓enmAF_l, ↓enmAF_t, ↓enmF_l, ↓z_Zip, ↓zipF_l, ↓zipF_t, ↓z_Par, ↓parF_r, ↓z_Par3, ↓par3F_r, ↓z_Never, ↓z_NevE, ↓z_getK, ↓z_getT, ↓z_AddI, ↓z_AddT, ↓z_AddO, ↓z_AddS, ↓z_MulI, ↓z_MulT, ↓z_LtI, ↓z_LtT, ↓z_IsN, ↓z_IntI, ↓z_SlT, ↓z_SlL, ↓z_SlO, ↓z_SlS, ↓z_Sub, ↓z_Mod, ↓z_Div, ↓z_Pow, ↓z_Le, ↓z_Gt, ↓z_Ge, ↓z_II, ↓varF_v, ↓varF_l, ↓mvF_o, ↓mvF_v, ↓mvF_s, ndF_some, ifB_t, ifB_f, con, sl, frzS, isB, tuO_t, daO, sqO_l, sqO_t, sqO_o, sqO_s, lsO, lenO_K, lenO_T, lenO_o, lenO_l, lenO_t, lenO_s, ngO, consO, argO, varsO, wrB, untag, owL, tyS, tyD_n, tyD_b, tyD_i, tyD_s, tyD_l, tyD_t, tyD_d, entryE, tagA, backA, wipeE, backE, keepS, seqD_l, seqD_t, seqV_l, seqV_t, liD_l, kyS, ksS, keyD_i, keyD_s, keysD, ixS, tupD_t, isDic, isT, eq_self, isNone_n, isNone_i, isNone_t, isNone_l, isNone_b, isNone_s, isNone_o, need_some, atI_0, atI_1, atI_2, atI_3, ixN_30, ixN_31, ixN_32, eqv_int, eqv_str, Int.toNat_natCast, List.getElem?_cons_zero, List.getElem?_cons_succ, List.getElem?_nil, List.set_cons_zero, List.set_cons_succ, List.length_cons, List.length_nil, Option.join_some, Option.join_none, List.replicate_succ, List.replicate_zero, List.cons_append, List.nil_append, Option.map_some, Nat.zero_add, Nat.reduceAdd, Nat.reduceSub, Bool.not_true, Bool.not_false, if_true, if_false, Bool.false_eq_true, true_and, and_true, decide_true, decide_false, Nat.reduceLeDiff, Nat.reduceEqDiff, reduceIte, reduceCtorEq, Bool.or_false, Bool.or_true, Bool.and_true, Bool.and_false, Bool.true_and, Bool.false_and, Bool.true_or, Bool.false_or, List.map_cons, List.map_nil, List.nodup_cons, List.nodup_nil, List.mem_cons, List.not_mem_nil, not_false_eq_true, or_false, false_or, seqV_S, seqV_R]; exact h
  | int => simp -dsimp only [↓z_K, ↓z_VarO, ↓z_Var, ↓z_Move, ↓z_Of, ↓z_Fz, ↓z_Res, ↓z_VNil, ↓z_VCons, ↓z_Tup, ↓z_Lst, ↓z_Op2, ↓z_Tst, ↓z_Not, ↓z_Chain, ↓z_AndV, ↓z_OrV, ↓z_NotV, ↓z_And, ↓z_Or, ↓z_If, ↓z_Next, ↓z_Seq, ↓z_Break, ↓z_Cont, ↓z_Exp, ↓z_Ret, ↓z_RetN, ↓z_IfS, ↓z_Nm, ↓z_Tp, ↓z_GN, ↓z_GC, ↓z_Asg, ↓z_ONil, ↓z_OCons, ↓z_SetIx, ↓z_Call, ↓z_Sq, ↓z_Rev, ↓z_For, ↓z_Wh, ↓z_Lc, ↓z_Lc2, ↓z_All, ↓z_All2, ↓z_Yes, ↓z_CB, ↓z_Isi, ↓z_Neg, ↓z_NoP, ↓z_Prt, ↓z_Sl, ↓z_App, ↓z_Pop, ↓z_VK, ↓z_VKs, ↓z_Eq, ↓z_InL, ↓z_InK, ↓z_InT, ↓z_In1, ↓z_In2, ↓z_In3, ↓z_In4, ↓z_IxS, ↓z_Ix1, ↓z_Ix2, ↓z_Ix3, ↓z_Ix4, ↓z_Ix5, ↓z_put1, ↓z_put2, ↓z_put3, ↓z_Len, ↓z_TupC, ↓z_LstC, ↓z_Repr, ↓z_NewD, ↓z_DisK, ↓z_DisT, ↓z_Get1, ↓z_Get2, ↓z_get2K, ↓z_get2T, ↓z_fin, ↓z_Rng1, ↓z_Rng2, ↓rng1F_i, ↓rng2F_i, ↓z_Enm, ↓z_EnmA, ↓enmAF_l, ↓enmAF_t, ↓enmF_l, ↓z_Zip, ↓zipF_l, ↓zipF_t, ↓z_Par, ↓parF_r, ↓z_Par3, ↓par3F_r, ↓z_Never, ↓z_NevE, ↓z_getK, ↓z_getT, ↓z_AddI, ↓z_AddT, ↓z_AddO, ↓z_AddS, ↓z_MulI, ↓z_MulT, ↓z_LtI, ↓z_LtT, ↓z_IsN, ↓z_IntI, ↓z_SlT, ↓z_SlL, ↓z_SlO, ↓z_SlS, ↓z_Sub, ↓z_Mod, ↓z_Div, ↓z_Pow, ↓z_Le, ↓z_Gt, ↓z_Ge, ↓z_II, ↓varF_v, ↓varF_l, ↓mvF_o, ↓mvF_v, ↓mvF_s, ndF_some, ifB_t, ifB_f, con, sl, frzS, isB, tuO_t, daO, sqO_l, sqO_t, sqO_o, sqO_s, lsO, lenO_K, lenO_T, lenO_o, lenO_l, lenO_t, lenO_s, ngO, consO, argO, varsO, wrB, untag, owL, tyS, tyD_n, tyD_b, tyD_i, tyD_s, tyD_l, tyD_t, tyD_d, entryE, tagA, backA, wipeE, backE, keepS, seqD_l, seqD_t, seqV_l, seqV_t, liD_l, kyS, ksS, keyD_i, keyD_s, keysD, ixS, tupD_t, isDic, isT, eq_self, isNone_n, isNone_i, isNone_t, isNone_l, isNone_b, isNone_s, isNone_o, need_some, atI_0, atI_1, atI_2, atI_3, ixN_30, ixN_31, ixN_32, eqv_int, eqv_str, Int.toNat_natCast, List.getElem?_cons_zero, List.getElem?_cons_succ, List.getElem?_nil, List.set_cons_zero, List.set_cons_succ, List.length_cons, List.length_nil, Option.join_some, Option.join_none, List.replicate_succ, List.replicate_zero, List.cons_append, List.nil_append, Option.map_some, Nat.zero_add, Nat.reduceAdd, Nat.reduceSub, Bool.not_true, Bool.not_false, if_true, if_false, Bool.false_eq_true, true_and, and_true, decide_true, decide_false, Nat.reduceLeDiff, Nat.reduceEqDiff, reduceIte, reduceCtorEq, Bool.or_false, Bool.or_true, Bool.and_true, Bool.and_false, Bool.true_and, Bool.false_and, Bool.true_or, Bool.false_or, List.map_cons, List.map_nil, List.nodup_cons, List.nodup_nil, List.mem_cons, List.not_mem_nil, not_false_eq_true, or_false, false_or, seqV_S, seqV_R]; exact h
  | str => simp -dsimp only [↓z_K, ↓z_VarO, ↓z_Var, ↓z_Move, ↓z_Of, ↓z_Fz, ↓z_Res, ↓z_VNil, ↓z_VCons, ↓z_Tup, ↓z_Lst, ↓z_Op2, ↓z_Tst, ↓z_Not, ↓z_Chain, ↓z_AndV, ↓z_OrV, ↓z_NotV, ↓z_And, ↓z_Or, ↓z_If, ↓z_Next, ↓z_Seq, ↓z_Break, ↓z_Cont, ↓z_Exp, ↓z_Ret, ↓z_RetN, ↓z_IfS, ↓z_Nm, ↓z_Tp, ↓z_GN, ↓z_GC, ↓z_Asg, ↓z_ONil, ↓z_OCons, ↓z_SetIx, ↓z_Call, ↓z_Sq, ↓z_Rev, ↓z_For, ↓z_Wh, ↓z_Lc, ↓z_Lc2, ↓z_All, ↓z_All2, ↓z_Yes, ↓z_CB, ↓z_Isi, ↓z_Neg, ↓z_NoP, ↓z_Prt, ↓z_Sl, ↓z_App, ↓z_Pop, ↓z_VK, ↓z_VKs, ↓z_Eq, ↓z_InL, ↓z_InK, ↓z_InT, ↓z_In1, ↓z_In2, ↓z_In3, ↓z_In4, ↓z_IxS, ↓z_Ix1, ↓z_Ix2, ↓z_Ix3, ↓z_Ix4, ↓z_Ix5, ↓z_put1, ↓z_put2, ↓z_put3, ↓z_Len, ↓z_TupC, ↓z_LstC, ↓z_Repr, ↓z_NewD, ↓z_DisK, ↓z_DisT, ↓z_Get1, ↓z_Get2, ↓z_get2K, ↓z_get2T, ↓z_fin, ↓z_Rng1, ↓z_Rng2, ↓rng1F_i, ↓rng2F_i, ↓z_Enm, ↓z_EnmA, ↓enmAF_l, ↓enmAF_t, ↓enmF_l, ↓z_Zip, ↓zipF_l, ↓zipF_t, ↓z_Par, ↓parF_r, ↓z_Par3, ↓par3F_r, ↓z_Never, ↓z_NevE, ↓z_getK, ↓z_getT, ↓z_AddI, ↓z_AddT, ↓z_AddO, ↓z_AddS, ↓z_MulI, ↓z_MulT, ↓z_LtI, ↓z_LtT, ↓z_IsN, ↓z_IntI, ↓z_SlT, ↓z_SlL, ↓z_SlO, ↓z_SlS, ↓z_Sub, ↓z_Mod, ↓z_Div, ↓z_Pow, ↓z_Le, ↓z_Gt, ↓z_Ge, ↓z_II, ↓varF_v, ↓varF_l, ↓mvF_o, ↓mvF_v, ↓mvF_s, ndF_some, ifB_t, ifB_f, con, sl, frzS, isB, tuO_t, daO, sqO_l, sqO_t, sqO_o, sqO_s, lsO, lenO_K, lenO_T, lenO_o, lenO_l, lenO_t, lenO_s, ngO, consO, argO, varsO, wrB, untag, owL, tyS, tyD_n, tyD_b, tyD_i, tyD_s, tyD_l, tyD_t, tyD_d, entryE, tagA, backA, wipeE, backE, keepS, seqD_l, seqD_t, seqV_l, seqV_t, liD_l, kyS, ksS, keyD_i, keyD_s, keysD, ixS, tupD_t, isDic, isT, eq_self, isNone_n, isNone_i, isNone_t, isNone_l, isNone_b, isNone_s, isNone_o, need_some, atI_0, atI_1, atI_2, atI_3, ixN_30, ixN_31, ixN_32, eqv_int, eqv_str, Int.toNat_natCast, List.getElem?_cons_zero, List.getElem?_cons_succ, List.getElem?_nil, List.set_cons_zero, List.set_cons_succ, List.length_cons, List.length_nil, Option.join_some, Option.join_none, List.replicate_succ, List.replicate_zero, List.cons_append, List.nil_append, Option.map_some, Nat.zero_add, Nat.reduceAdd, Nat.reduceSub, Bool.not_true, Bool.not_false, if_true, if_false, Bool.false_eq_true, true_and, and_true, decide_true, decide_false, Nat.reduceLeDiff, Nat.reduceEqDiff, reduceIte, reduceCtorEq, Bool.or_false, Bool.or_true, Bool.and_true, Bool.and_false, Bool.true_and, Bool.false_and, Bool.true_or, Bool.false_or, List.map_cons, List.map_nil, List.nodup_cons, List.nodup_nil, List.mem_cons, List.not_mem_nil, not_false_eq_true, or_false, false_or, seqV_S, seqV_R]; exact h
  | list => simp -dsimp only [↓z_K, ↓z_VarO, ↓z_Var, ↓z_Move, ↓z_Of, ↓z_Fz, ↓z_Res, ↓z_VNil, ↓z_VCons, ↓z_Tup, ↓z_Lst, ↓z_Op2, ↓z_Tst, ↓z_Not, ↓z_Chain, ↓z_AndV, ↓z_OrV, ↓z_NotV, ↓z_And, ↓z_Or, ↓z_If, ↓z_Next, ↓z_Seq, ↓z_Break, ↓z_Cont, ↓z_Exp, ↓z_Ret, ↓z_RetN, ↓z_IfS, ↓z_Nm, ↓z_Tp, ↓z_GN, ↓z_GC, ↓z_Asg, ↓z_ONil, ↓z_OCons, ↓z_SetIx, ↓z_Call, ↓z_Sq, ↓z_Rev, ↓z_For, ↓z_Wh, ↓z_Lc, ↓z_Lc2, ↓z_All, ↓z_All2, ↓z_Yes, ↓z_CB, ↓z_Isi, ↓z_Neg, ↓z_NoP, ↓z_Prt, ↓z_Sl, ↓z_App, ↓z_Pop, ↓z_VK, ↓z_VKs, ↓z_Eq, ↓z_InL, ↓z_InK, ↓z_InT, ↓z_In1, ↓z_In2, ↓z_In3, ↓z_In4, ↓z_IxS, ↓z_Ix1, ↓z_Ix2, ↓z_Ix3, ↓z_Ix4, ↓z_Ix5, ↓z_put1, ↓z_put2, ↓z_put3, ↓z_Len, ↓z_TupC, ↓z_LstC, ↓z_Repr, ↓z_NewD, ↓z_DisK, ↓z_DisT, ↓z_Get1, ↓z_Get2, ↓z_get2K, ↓z_get2T, ↓z_fin, ↓z_Rng1, ↓z_Rng2, ↓rng1F_i, ↓rng2F_i, ↓z_Enm, ↓z_EnmA, ↓enmAF_l, ↓enmAF_t, ↓enmF_l, ↓z_Zip, ↓zipF_l, ↓zipF_t, ↓z_Par, ↓parF_r, ↓z_Par3, ↓par3F_r, ↓z_Never, ↓z_NevE, ↓z_getK, ↓z_getT, ↓z_AddI, ↓z_AddT, ↓z_AddO, ↓z_AddS, ↓z_MulI, ↓z_MulT, ↓z_LtI, ↓z_LtT, ↓z_IsN, ↓z_IntI, ↓z_SlT, ↓z_SlL, ↓z_SlO, ↓z_SlS, ↓z_Sub, ↓z_Mod, ↓z_Div, ↓z_Pow, ↓z_Le, ↓z_Gt, ↓z_Ge, ↓z_II, ↓varF_v, ↓varF_l, ↓mvF_o, ↓mvF_v, ↓mvF_s, ndF_some, ifB_t, ifB_f, con, sl, frzS, isB, tuO_t, daO, sqO_l, sqO_t, sqO_o, sqO_s, lsO, lenO_K, lenO_T, lenO_o, lenO_l, lenO_t, lenO_s, ngO, consO, argO, varsO, wrB, untag, owL, tyS, tyD_n, tyD_b, tyD_i, tyD_s, tyD_l, tyD_t, tyD_d, entryE, tagA, backA, wipeE, backE, keepS, seqD_l, seqD_t, seqV_l, seqV_t, liD_l, kyS, ksS, keyD_i, keyD_s, keysD, ixS, tupD_t, isDic, isT, eq_self, isNone_n, isNone_i, isNone_t, isNone_l, isNone_b, isNone_s, isNone_o, need_some, atI_0, atI_1, atI_2, atI_3, ixN_30, ixN_31, ixN_32, eqv_int, eqv_str, Int.toNat_natCast, List.getElem?_cons_zero, List.getElem?_cons_succ, List.getElem?_nil, List.set_cons_zero, List.set_cons_succ, List.length_cons, List.length_nil, Option.join_some, Option.join_none, List.replicate_succ, List.replicate_zero, List.cons_append, List.nil_append, Option.map_some, Nat.zero_add, Nat.reduceAdd, Nat.reduceSub, Bool.not_true, Bool.not_false, if_true, if_false, Bool.false_eq_true, true_and, and_true, decide_true, decide_false, Nat.reduceLeDiff, Nat.reduceEqDiff, reduceIte, reduceCtorEq, Bool.or_false, Bool.or_true, Bool.and_true, Bool.and_false, Bool.true_and, Bool.false_and, Bool.true_or, Bool.false_or, List.map_cons, List.map_nil, List.nodup_cons, List.nodup_nil, List.mem_cons, List.not_mem_nil, not_false_eq_true, or_false, false_or, seqV_S, seqV_R]; exact h
  | dict => simp -dsimp only [↓z_K, ↓z_VarO, ↓z_Var, ↓z_Move, ↓z_Of, ↓z_Fz, ↓z_Res, ↓z_VNil, ↓z_VCons, ↓z_Tup, ↓z_Lst, ↓z_Op2, ↓z_Tst, ↓z_Not, ↓z_Chain, ↓z_AndV, ↓z_OrV, ↓z_NotV, ↓z_And, ↓z_Or, ↓z_If, ↓z_Next, ↓z_Seq, ↓z_Break, ↓z_Cont, ↓z_Exp, ↓z_Ret, ↓z_RetN, ↓z_IfS, ↓z_Nm, ↓z_Tp, ↓z_GN, ↓z_GC, ↓z_Asg, ↓z_ONil, ↓z_OCons, ↓z_SetIx, ↓z_Call, ↓z_Sq, ↓z_Rev, ↓z_For, ↓z_Wh, ↓z_Lc, ↓z_Lc2, ↓z_All, ↓z_All2, ↓z_Yes, ↓z_CB, ↓z_Isi, ↓z_Neg, ↓z_NoP, ↓z_Prt, ↓z_Sl, ↓z_App, ↓z_Pop, ↓z_VK, ↓z_VKs, ↓z_Eq, ↓z_InL, ↓z_InK, ↓z_InT, ↓z_In1, ↓z_In2, ↓z_In3, ↓z_In4, ↓z_IxS, ↓z_Ix1, ↓z_Ix2, ↓z_Ix3, ↓z_Ix4, ↓z_Ix5, ↓z_put1, ↓z_put2, ↓z_put3, ↓z_Len, ↓z_TupC, ↓z_LstC, ↓z_Repr, ↓z_NewD, ↓z_DisK, ↓z_DisT, ↓z_Get1, ↓z_Get2, ↓z_get2K, ↓z_get2T, ↓z_fin, ↓z_Rng1, ↓z_Rng2, ↓rng1F_i, ↓rng2F_i, ↓z_Enm, ↓z_EnmA, ↓enmAF_l, ↓enmAF_t, ↓enmF_l, ↓z_Zip, ↓zipF_l, ↓zipF_t, ↓z_Par, ↓parF_r, ↓z_Par3, ↓par3F_r, ↓z_Never, ↓z_NevE, ↓z_getK, ↓z_getT, ↓z_AddI, ↓z_AddT, ↓z_AddO, ↓z_AddS, ↓z_MulI, ↓z_MulT, ↓z_LtI, ↓z_LtT, ↓z_IsN, ↓z_IntI, ↓z_SlT, ↓z_SlL, ↓z_SlO, ↓z_SlS, ↓z_Sub, ↓z_Mod, ↓z_Div, ↓z_Pow, ↓z_Le, ↓z_Gt, ↓z_Ge, ↓z_II, ↓varF_v, ↓varF_l, ↓mvF_o, ↓mvF_v, ↓mvF_s, ndF_some, ifB_t, ifB_f, con, sl, frzS, isB, tuO_t, daO, sqO_l, sqO_t, sqO_o, sqO_s, lsO, lenO_K, lenO_T, lenO_o, lenO_l, lenO_t, lenO_s, ngO, consO, argO, varsO, wrB, untag, owL, tyS, tyD_n, tyD_b, tyD_i, tyD_s, tyD_l, tyD_t, tyD_d, entryE, tagA, backA, wipeE, backE, keepS, seqD_l, seqD_t, seqV_l, seqV_t, liD_l, kyS, ksS, keyD_i, keyD_s, keysD, ixS, tupD_t, isDic, isT, eq_self, isNone_n, isNone_i, isNone_t, isNone_l, isNone_b, isNone_s, isNone_o, need_some, atI_0, atI_1, atI_2, atI_3, ixN_30, ixN_31, ixN_32, eqv_int, eqv_str, Int.toNat_natCast, List.getElem?_cons_zero, List.getElem?_cons_succ, List.getElem?_nil, List.set_cons_zero, List.set_cons_succ, List.length_cons, List.length_nil, Option.join_some, Option.join_none, List.replicate_succ, List.replicate_zero, List.cons_append, List.nil_append, Option.map_some, Nat.zero_add, Nat.reduceAdd, Nat.reduceSub, Bool.not_true, Bool.not_false, if_true, if_false, Bool.false_eq_true, true_and, and_true, decide_true, decide_false, Nat.reduceLeDiff, Nat.reduceEqDiff, reduceIte, reduceCtorEq, Bool.or_false, Bool.or_true, Bool.and_true, Bool.and_false, Bool.true_and, Bool.false_and, Bool.true_or, Bool.false_or, List.map_cons, List.map_nil, List.nodup_cons, List.nodup_nil, List.mem_cons, List.not_mem_nil, not_false_eq_true, or_false, false_or, seqV_S, seqV_R]; exact h
theorem sp_integer {d : D} {Q : Slot → List Slot → Prop} {X : Value → Prop} (h : Q (.val (.bool (intB d))) [.val d]) : fs_is_integer [.val d] Q X := by
  refine ⟨rfl, ?_⟩
  unfold w_is_integer
  simp -dsimp only [↓z_K, ↓z_VarO, ↓z_Var, ↓z_Move, ↓z_Of, ↓z_Fz, ↓z_Res, ↓z_VNil, ↓z_VCons, ↓z_Tup, ↓z_Lst, ↓z_Op2, ↓z_Tst, ↓z_Not, ↓z_Chain, ↓z_AndV, ↓z_OrV, ↓z_NotV, ↓z_And, ↓z_Or, ↓z_If, ↓z_Next, ↓z_Seq, ↓z_Break, ↓z_Cont, ↓z_Exp, ↓z_Ret, ↓z_RetN, ↓z_IfS, ↓z_Nm, ↓z_Tp, ↓z_GN, ↓z_GC, ↓z_Asg, ↓z_ONil, ↓z_OCons, ↓z_SetIx, ↓z_Call, ↓z_Sq, ↓z_Rev, ↓z_For, ↓z_Wh, ↓z_Lc, ↓z_Lc2, ↓z_All, ↓z_All2, ↓z_Yes, ↓z_CB, ↓z_Isi, ↓z_Neg, ↓z_NoP, ↓z_Prt, ↓z_Sl, ↓z_App, ↓z_Pop, ↓z_VK, ↓z_VKs, ↓z_Eq, ↓z_InL, ↓z_InK, ↓z_InT, ↓z_In1, ↓z_In2, ↓z_In3, ↓z_In4, ↓z_IxS, ↓z_Ix1, ↓z_Ix2, ↓z_Ix3, ↓z_Ix4, ↓z_Ix5, ↓z_put1, ↓z_put2, ↓z_put3, ↓z_Len, ↓z_TupC, ↓z_LstC, ↓z_Repr, ↓z_NewD, ↓z_DisK, ↓z_DisT, ↓z_Get1, ↓z_Get2, ↓z_get2K, ↓z_get2T, ↓z_fin, ↓z_Rng1, ↓z_Rng2, ↓rng1F_i, ↓rng2F_i, ↓z_Enm, ↓z_EnmA, ↓enmAF_l, ↓enmAF_t, ↓enmF_l, ↓z_Zip, ↓zipF_l, ↓zipF_t, ↓z_Par, ↓parF_r, ↓z_Par3, ↓par3F_r, ↓z_Never, ↓z_NevE, ↓z_getK, ↓z_getT, ↓z_AddI, ↓z_AddT, ↓z_AddO, ↓z_AddS, ↓z_MulI, ↓z_MulT, ↓z_LtI, ↓z_LtT, ↓z_IsN, ↓z_IntI, ↓z_SlT, ↓z_SlL, ↓z_SlO, ↓z_SlS, ↓z_Sub, ↓z_Mod, ↓z_Div, ↓z_Pow, ↓z_Le, ↓z_Gt, ↓z_Ge, ↓z_II, ↓varF_v, ↓varF_l, ↓mvF_o, ↓mvF_v, ↓mvF_s, ndF_some, ifB_t, ifB_f, con, sl, frzS, isB, tuO_t, daO, sqO_l, sqO_t, sqO_o, sqO_s, lsO, lenO_K, lenO_T, lenO_o, lenO_l, lenO_t, lenO_s, ngO, consO, argO, varsO, wrB, untag, owL, tyS, tyD_n, tyD_b, tyD_i, tyD_s, tyD_l, tyD_t, tyD_d, entryE, tagA, backA, wipeE, backE, keepS, seqD_l, seqD_t, seqV_l, seqV_t, liD_l, kyS, ksS, keyD_i, keyD_s, keysD, ixS, tupD_t, isDic, isT, eq_self, isNone_n, isNone_i, isNone_t, isNone_l, isNone_b, isNone_s, isNone_o, need_some, atI_0, atI_1, atI_2, atI_3, ixN_30, ixN_31, ixN_32, eqv_int, eqv_str, Int.toNat_natCast, List.getElem?_cons_zero, List.getElem?_cons_succ, List.getElem?_nil, List.set_cons_zero, List.set_cons_succ, List.length_cons, List.length_nil, Option.join_some, Option.join_none, List.replicate_succ, List.replicate_zero, List.cons_append, List.nil_append, Option.map_some, Nat.zero_add, Nat.reduceAdd, Nat.reduceSub, Bool.not_true, Bool.not_false, if_true, if_false, Bool.false_eq_true, true_and, and_true, decide_true, decide_false, Nat.reduceLeDiff, Nat.reduceEqDiff, reduceIte, reduceCtorEq, Bool.or_false, Bool.or_true, Bool.and_true, Bool.and_false, Bool.true_and, Bool.false_and, Bool.true_or, Bool.false_or, List.map_cons, List.map_nil, List.nodup_cons, List.nodup_nil, List.mem_cons, List.not_mem_nil, not_false_eq_true, or_false, false_or, seqV_S, seqV_R]
  cases d <;> simp -dsimp only [↓z_K, ↓z_VarO, ↓z_Var, ↓z_Move, ↓z_Of, ↓z_Fz, ↓z_Res, ↓z_VNil, ↓z_VCons, ↓z_Tup, ↓z_Lst, ↓z_Op2, ↓z_Tst, ↓z_Not, ↓z_Chain, ↓z_AndV, ↓z_OrV, ↓z_NotV, ↓z_And, ↓z_Or, ↓z_If, ↓z_Next, ↓z_Seq, ↓z_Break, ↓z_Cont, ↓z_Exp, ↓z_Ret, ↓z_RetN, ↓z_IfS, ↓z_Nm, ↓z_Tp, ↓z_GN, ↓z_GC, ↓z_Asg, ↓z_ONil, ↓z_OCons, ↓z_SetIx, ↓z_Call, ↓z_Sq, ↓z_Rev, ↓z_For, ↓z_Wh, ↓z_Lc, ↓z_Lc2, ↓z_All, ↓z_All2, ↓z_Yes, ↓z_CB, ↓z_Isi, ↓z_Neg, ↓z_NoP, ↓z_Prt, ↓z_Sl, ↓z_App, ↓z_Pop, ↓z_VK, ↓z_VKs, ↓z_Eq, ↓z_InL, ↓z_InK, ↓z_InT, ↓z_In1, ↓z_In2, ↓z_In3, ↓z_In4, ↓z_IxS, ↓z_Ix1, ↓z_Ix2, ↓z_Ix3, ↓z_Ix4, ↓z_Ix5, ↓z_put1, ↓z_put2, ↓z_put3, ↓z_Len, ↓z_TupC, ↓z_LstC, ↓z_Repr, ↓z_NewD, ↓z_DisK, ↓z_DisT, ↓z_Get1, ↓z_Get2, ↓z_get2K, ↓z_get2T, ↓z_fin, ↓z_Rng1, ↓z_Rng2, ↓rng1F_i, ↓rng2F_i, ↓z_Enm, ↓z_EnmA, ↓enmAF_l, ↓enmAF_t, ↓enmF_l, ↓z_Zip, ↓zipF_l, ↓zipF_t, ↓z_Par, ↓parF_r, ↓z_Par3, ↓par3F_r, ↓z_Never, ↓z_NevE, ↓z_getK, ↓z_getT, ↓z_AddI, ↓z_AddT, ↓z_AddO, ↓z_AddS, ↓z_MulI, ↓z_MulT, ↓z_LtI, ↓z_LtT, ↓z_IsN, ↓z_IntI, ↓z_SlT, ↓z_SlL, ↓z_SlO, ↓z_SlS, ↓z_Sub, ↓z_Mod, ↓z_Div, ↓z_Pow, ↓z_Le, ↓z_Gt, ↓z_Ge, ↓z_II, ↓varF_v, ↓varF_l, ↓mvF_o, ↓mvF_v, ↓mvF_s, ndF_some, ifB_t, ifB_f, con, sl, frzS, isB, tuO_t, daO, sqO_l, sqO_t, sqO_o, sqO_s, lsO, lenO_K, lenO_T, lenO_o, lenO_l, lenO_t, lenO_s, ngO, consO, argO, varsO, wrB, untag, owL, tyS, tyD_n, tyD_b, tyD_i, tyD_s, tyD_l, tyD_t, tyD_d, entryE, tagA, backA, wipeE, backE, keepS, seqD_l, seqD_t, seqV_l, seqV_t, liD_l, kyS, ksS, keyD_i, keyD_s, keysD, ixS, tupD_t, isDic, isT, eq_self, isNone_n, isNone_i, isNone_t, isNone_l, isNone_b, isNone_s, isNone_o, need_some, atI_0, atI_1, atI_2, atI_3, ixN_30, ixN_31, ixN_32, eqv_int, eqv_str, Int.toNat_natCast, List.getElem?_cons_zero, List.getElem?_cons_succ, List.getElem?_nil, List.set_cons_zero, List.set_cons_succ, List.length_cons, List.length_nil, Option.join_some, Option.join_none, List.replicate_succ, List.replicate_zero, List.cons_append, List.nil_append, Option.map_some, Nat.zero_add, Nat.reduceAdd, Nat.reduceSub, Bool.not_true, Bool.not_false, if_true, if_false, Bool.false_eq_true, true_and, and_true, decide_true, decide_false, Nat.reduceLeDiff, Nat.reduceEqDiff, reduceIte, reduceCtorEq, Bool.or_false, Bool.or_true, Bool.and_true, Bool.and_false, Bool.true_and, Bool.false_and, Bool.true_or, Bool.false_or, List.map_cons, List.map_nil, List.nodup_cons, List.nodup_nil, List.mem_cons, List.not_mem_nil, not_false_eq_true, or_false, false_or, seqV_S, seqV_R] <;> exact h
theorem sp_within {d : D} {lo hi : Int} {Q : Slot → List Slot → Prop} {X : Value → Prop} (h : Q (.val (.bool (withinB d lo hi))) [.val d, .val (.int lo), .val (.int hi)]) :
    fs_is_within [.val d, .val (.int lo), .val (.int hi)] Q X := by
  refine ⟨rfl, ?_⟩
  unfold w_is_within
  simp -dsimp only [↓z_K, ↓z_VarO, ↓z_Var, ↓z_Move, ↓z_Of, ↓z_Fz, ↓z_Res, ↓z_VNil, ↓z_VCons, ↓z_Tup, ↓z_Lst, ↓z_Op2, ↓z_Tst, ↓z_Not, ↓z_Chain, ↓z_AndV, ↓z_OrV, ↓z_NotV, ↓z_And, ↓z_Or, ↓z_If, ↓z_Next, ↓z_Seq, ↓z_Break, ↓z_Cont, ↓z_Exp, ↓z_Ret, ↓z_RetN, ↓z_IfS, ↓z_Nm, ↓z_Tp, ↓z_GN, ↓z_GC, ↓z_Asg, ↓z_ONil, ↓z_OCons, ↓z_SetIx, ↓z_Call, ↓z_Sq, ↓z_Rev, ↓z_For, ↓z_Wh, ↓z_Lc, ↓z_Lc2, ↓z_All, ↓z_All2, ↓z_Yes, ↓z_CB, ↓z_Isi, ↓z_Neg, ↓z_NoP, ↓z_Prt, ↓z_Sl, ↓z_App, ↓z_Pop, ↓z_VK, ↓z_VKs, ↓z_Eq, ↓z_InL, ↓z_InK, ↓z_InT, ↓z_In1, ↓z_In2, ↓z_In3, ↓z_In4, ↓z_IxS, ↓z_Ix1, ↓z_Ix2, ↓z_Ix3, ↓z_Ix4, ↓z_Ix5, ↓z_put1, ↓z_put2, ↓z_put3, ↓z_Len, ↓z_TupC, ↓z_LstC, ↓z_Repr, ↓z_NewD, ↓z_DisK, ↓z_DisT, ↓z_Get1, ↓z_Get2, ↓z_get2K, ↓z_get2T, ↓z_fin, ↓z_Rng1, ↓z_Rng2, ↓rng1F_i, ↓rng2F_i, ↓z_Enm, ↓z_EnmA, ↓enmAF_l, ↓enmAF_t, ↓enmF_l, ↓z_Zip, ↓zipF_l, ↓zipF_t, ↓z_Par, ↓parF_r, ↓z_Par3, ↓par3F_r, ↓z_Never, ↓z_NevE, ↓z_getK, ↓z_getT, ↓z_AddI, ↓z_AddT, ↓z_AddO, ↓z_AddS, ↓z_MulI, ↓z_MulT, ↓z_LtI, ↓z_LtT, ↓z_IsN, ↓z_IntI, ↓z_SlT, ↓z_SlL, ↓z_SlO, ↓z_SlS, ↓z_Sub, ↓z_Mod, ↓z_Div, ↓z_Pow, ↓z_Le, ↓z_Gt, ↓z_Ge, ↓z_II, ↓varF_v, ↓varF_l, ↓mvF_o, ↓mvF_v, ↓mvF_s, ndF_some, ifB_t, ifB_f, con, sl, frzS, isB, tuO_t, daO, sqO_l, sqO_t, sqO_o, sqO_s, lsO, lenO_K, lenO_T, lenO_o, lenO_l, lenO_t, lenO_s, ngO, consO, argO, varsO, wrB, untag, owL, tyS, tyD_n, tyD_b, tyD_i, tyD_s, tyD_l, tyD_t, tyD_d, entryE, tagA, backA, wipeE, backE, keepS, seqD_l, seqD_t, seqV_l, seqV_t, liD_l, kyS, ksS, keyD_i, keyD_s, keysD, ixS, tupD_t, isDic, isT, eq_self, isNone_n, isNone_i, isNone_t, isNone_l, isNone_b, isNone_s, isNone_o, need_some, atI_0, atI_1, atI_2, atI_3, ixN_30, ixN_31, ixN_32, eqv_int, eqv_str, Int.toNat_natCast, List.getElem?_cons_zero, List.getElem?_cons_succ, List.getElem?_nil, List.set_cons_zero, List.set_cons_succ, List.length_cons, List.length_nil, Option.join_some, Option.join_none, List.replicate_succ, List.replicate_zero, List.cons_append, List.nil_append, Option.map_some, Nat.zero_add, Nat.reduceAdd, Nat.reduceSub, Bool.not_true, Bool.not_false, if_true, if_false, Bool.false_eq_true, true_and, and_true, decide_true, decide_false, Nat.reduceLeDiff, Nat.reduceEqDiff, reduceIte, reduceCtorEq, Bool.or_false, Bool.or_true, Bool.and_true, Bool.and_false, Bool.true_and, Bool.false_and, Bool.true_or, Bool.false_or, List.map_cons, List.map_nil, List.nodup_cons, List.nodup_nil, List.mem_cons, List.not_mem_nil, not_false_eq_true, or_false, false_or, seqV_S, seqV_R]
  refine sp_integer ?_
  simp -dsimp only [↓z_K, ↓z_VarO, ↓z_Var, ↓z_Move, ↓z_Of, ↓z_Fz, ↓z_Res, ↓z_VNil, ↓z_VCons, ↓z_Tup, ↓z_Lst, ↓z_Op2, ↓z_Tst, ↓z_Not, ↓z_Chain, ↓z_AndV, ↓z_OrV, ↓z_NotV, ↓z_And, ↓z_Or, ↓z_If, ↓z_Next, ↓z_Seq, ↓z_Break, ↓z_Cont, ↓z_Exp, ↓z_Ret, ↓z_RetN, ↓z_IfS, ↓z_Nm, ↓z_Tp, ↓z_GN, ↓z_GC, ↓z_Asg, ↓z_ONil, ↓z_OCons, ↓z_SetIx, ↓z_Call, ↓z_Sq, ↓z_Rev, ↓z_For, ↓z_Wh, ↓z_Lc, ↓z_Lc2, ↓z_All, ↓z_All2, ↓z_Yes, ↓z_CB, ↓z_Isi, ↓z_Neg, ↓z_NoP, ↓z_Prt, ↓z_Sl, ↓z_App, ↓z_Pop, ↓z_VK, ↓z_VKs, ↓z_Eq, ↓z_InL, ↓z_InK, ↓z_InT, ↓z_In1, ↓z_In2, ↓z_In3, ↓z_In4, ↓z_IxS, ↓z_Ix1, ↓z_Ix2, ↓z_Ix3, ↓z_Ix4, ↓z_Ix5, ↓z_put1, ↓z_put2, ↓z_put3, ↓z_Len, ↓z_TupC, ↓z_LstC, ↓z_Repr, ↓z_NewD, ↓z_DisK, ↓z_DisT, ↓z_Get1, ↓z_Get2, ↓z_get2K, ↓z_get2T, ↓z_fin, ↓z_Rng1, ↓z_Rng2, ↓rng1F_i, ↓rng2F_i, ↓z_Enm, ↓z_EnmA, ↓enmAF_l, ↓enmAF_t, ↓enmF_l, ↓z_Zip, ↓zipF_l, ↓zipF_t, ↓z_Par, ↓parF_r, ↓z_Par3, ↓par3F_r, ↓z_Never, ↓z_NevE, ↓z_getK, ↓z_getT, ↓z_AddI, ↓z_AddT, ↓z_AddO, ↓z_AddS, ↓z_MulI, ↓z_MulT, ↓z_LtI, ↓z_LtT, ↓z_IsN, ↓z_IntI, ↓z_SlT, ↓z_SlL, ↓z_SlO, ↓z_SlS, ↓z_Sub, ↓z_Mod, ↓z_Div, ↓z_Pow, ↓z_Le, ↓z_Gt, ↓z_Ge, ↓z_II, ↓varF_v, ↓varF_l, ↓mvF_o, ↓mvF_v, ↓mvF_s, ndF_some, ifB_t, ifB_f, con, sl, frzS, isB, tuO_t, daO, sqO_l, sqO_t, sqO_o, sqO_s, lsO, lenO_K, lenO_T, lenO_o, lenO_l, lenO_t, lenO_s, ngO, consO, argO, varsO, wrB, untag, owL, tyS, tyD_n, tyD_b, tyD_i, tyD_s, tyD_l, tyD_t, tyD_d, entryE, tagA, backA, wipeE, backE, keepS, seqD_l, seqD_t, seqV_l, seqV_t, liD_l, kyS, ksS, keyD_i, keyD_s, keysD, ixS, tupD_t, isDic, isT, eq_self, isNone_n, isNone_i, isNone_t, isNone_l, isNone_b, isNone_s, isNone_o, need_some, atI_0, atI_1, atI_2, atI_3, ixN_30, ixN_31, ixN_32, eqv_int, eqv_str, Int.toNat_natCast, List.getElem?_cons_zero, List.getElem?_cons_succ, List.getElem?_nil, List.set_cons_zero, List.set_cons_succ, List.length_cons, List.length_nil, Option.join_some, Option.join_none, List.replicate_succ, List.replicate_zero, List.cons_append, List.nil_append, Option.map_some, Nat.zero_add, Nat.reduceAdd, Nat.reduceSub, Bool.not_true, Bool.not_false, if_true, if_false, Bool.false_eq_true, true_and, and_true, decide_true, decide_false, Nat.reduceLeDiff, Nat.reduceEqDiff, reduceIte, reduceCtorEq, Bool.or_false, Bool.or_true, Bool.and_true, Bool.and_false, Bool.true_and, Bool.false_and, Bool.true_or, Bool.false_or, List.map_cons, List.map_nil, List.nodup_cons, List.nodup_nil, List.mem_cons, List.not_mem_nil, not_false_eq_true, or_false, false_or, seqV_S, seqV_R]
  cases d with
  | int i =>
    simp -dsimp only [↓z_K, ↓z_VarO, ↓z_Var, ↓z_Move, ↓z_Of, ↓z_Fz, ↓z_Res, ↓z_VNil, ↓z_VCons, ↓z_Tup, ↓z_Lst, ↓z_Op2, ↓z_Tst, ↓z_Not, ↓z_Chain, ↓z_AndV, ↓z_OrV, ↓z_NotV, ↓z_And, ↓z_Or, ↓z_If, ↓z_Next, ↓z_Seq, ↓z_Break, ↓z_Cont, ↓z_Exp, ↓z_Ret, ↓z_RetN, ↓z_IfS, ↓z_Nm, ↓z_Tp, ↓z_GN, ↓z_GC, ↓z_Asg, ↓z_ONil, ↓z_OCons, ↓z_SetIx, ↓z_Call, ↓z_Sq, ↓z_Rev, ↓z_For, ↓z_Wh, ↓z_Lc, ↓z_Lc2, ↓z_All, ↓z_All2, ↓z_Yes, ↓z_CB, ↓z_Isi, ↓z_Neg, ↓z_NoP, ↓z_Prt, ↓z_Sl, ↓z_App, ↓z_Pop, ↓z_VK, ↓z_VKs, ↓z_Eq, ↓z_InL, ↓z_InK, ↓z_InT, ↓z_In1, ↓z_In2, ↓z_In3, ↓z_In4, ↓z_IxS, ↓z_Ix1, ↓z_Ix2, ↓z_Ix3, ↓z_Ix4, ↓z_Ix5, ↓z_put1, ↓z_put2, ↓z_put3, ↓z_Len, ↓z_TupC, ↓z_LstC, ↓z_Repr, ↓z_NewD, ↓z_DisK, ↓z_DisT, ↓z_Get1, ↓z_Get2, ↓z_get2K, ↓z_get2T, ↓z_fin, ↓z_Rng1, ↓z_Rng2, ↓rng1F_i, ↓rng2F_i, ↓z_Enm, ↓z_EnmA, ↓enmAF_l, ↓enmAF_t, ↓enmF_l, ↓z_Zip, ↓zipF_l, ↓zipF_t, ↓z_Par, ↓parF_r, ↓z_Par3, ↓par3F_r, ↓z_Never, ↓z_NevE, ↓z_getK, ↓z_getT, ↓z_AddI, ↓z_AddT, ↓z_AddO, ↓z_AddS, ↓z_MulI, ↓z_MulT, ↓z_LtI, ↓z_LtT, ↓z_IsN, ↓z_IntI, ↓z_SlT, ↓z_SlL, ↓z_SlO, ↓z_SlS, ↓z_Sub, ↓z_Mod, ↓z_Div, ↓z_Pow, ↓z_Le, ↓z_Gt, ↓z_Ge, ↓z_II, ↓varF_v, ↓varF_l, ↓mvF_o, ↓mvF_v, ↓mvF_s, ndF_some, ifB_t, ifB_f, con, sl, frzS, isB, tuO_t, daO, sqO_l, sqO_t, sqO_o, sqO_s, lsO, lenO_K, lenO_T, lenO_o, lenO_l, lenO_t, lenO_s, ngO, consO, argO, varsO, wrB, untag, owL, tyS, tyD_n, tyD_b, tyD_i, tyD_s, tyD_l, tyD_t, tyD_d, entryE, tagA, backA, wipeE, backE, keepS, seqD_l, seqD_t, seqV_l, seqV_t, liD_l, kyS, ksS, keyD_i, keyD_s, keysD, ixS, tupD_t, isDic, isT, eq_self, isNone_n, isNone_i, isNone_t, isNone_l, isNone_b, isNone_s, isNone_o, need_some, atI_0, atI_1, atI_2, atI_3, ixN_30, ixN_31, ixN_32, eqv_int, eqv_str, Int.toNat_natCast, List.getElem?_cons_zero, List.getElem?_cons_succ, List.getElem?_nil, List.set_cons_zero, List.set_cons_succ, List.length_cons, List.length_nil, Option.join_some, Option.join_none, List.replicate_succ, List.replicate_zero, List.cons_append, List.nil_append, Option.map_some, Nat.zero_add, Nat.reduceAdd, Nat.reduceSub, Bool.not_true, Bool.not_false, if_true, if_false, Bool.false_eq_true, true_and, and_true, decide_true, decide_false, Nat.reduceLeDiff, Nat.reduceEqDiff, reduceIte, reduceCtorEq, Bool.or_false, Bool.or_true, Bool.and_true, Bool.and_false, Bool.true_and, Bool.false_and, Bool.true_or, Bool.false_or, List.map_cons, List.map_nil, List.nodup_cons, List.nodup_nil, List.mem_cons, List.not_mem_nil, not_false_eq_true, or_false, false_or, seqV_S, seqV_R, intB]
    refine brB (fun q => ?_) fun q => ?_
    · simp -dsimp only [↓z_K, ↓z_VarO, ↓z_Var, ↓z_Move, ↓z_Of, ↓z_Fz, ↓z_Res, ↓z_VNil, ↓z_VCons, ↓z_Tup, ↓z_Lst, ↓z_Op2, ↓z_Tst, ↓z_Not, ↓z_Chain, ↓z_AndV, ↓z_OrV, ↓z_NotV, ↓z_And, ↓z_Or, ↓z_If, ↓z_Next, ↓z_Seq, ↓z_Break, ↓z_Cont, ↓z_Exp, ↓z_Ret, ↓z_RetN, ↓z_IfS, ↓z_Nm, ↓z_Tp, ↓z_GN, ↓z_GC, ↓z_Asg, ↓z_ONil, ↓z_OCons, ↓z_SetIx, ↓z_Call, ↓z_Sq, ↓z_Rev, ↓z_For, ↓z_Wh, ↓z_Lc, ↓z_Lc2, ↓z_All, ↓z_All2, ↓z_Yes, ↓z_CB, ↓z_Isi, ↓z_Neg, ↓z_NoP, ↓z_Prt, ↓z_Sl, ↓z_App, ↓z_Pop, ↓z_VK, ↓z_VKs, ↓z_Eq, ↓z_InL, ↓z_InK, ↓z_InT, ↓z_In1, ↓z_In2, ↓z_In3, ↓z_In4, ↓z_IxS, ↓z_Ix1, ↓z_Ix2, ↓z_Ix3, ↓z_Ix4, ↓z_Ix5, ↓z_put1, ↓z_put2, ↓z_put3, ↓z_Len, ↓z_TupC, ↓z_LstC, ↓z_Repr, ↓z_NewD, ↓z_DisK, ↓z_DisT, ↓z_Get1, ↓z_Get2, ↓z_get2K, ↓z_get2T, ↓z_fin, ↓z_Rng1, ↓z_Rng2, ↓rng1F_i, ↓rng2F_i, ↓z_Enm, ↓z_EnmA, ↓enmAF_l, ↓enmAF_t, ↓enmF_l, ↓z_Zip, ↓zipF_l, ↓zipF_t, ↓z_Par, ↓parF_r, ↓z_Par3, ↓par3F_r, ↓z_Never, ↓z_NevE, ↓z_getK, ↓z_getT, ↓z_AddI, ↓z_AddT, ↓z_AddO, ↓z_AddS, ↓z_MulI, ↓z_MulT, ↓z_LtI, ↓z_LtT, ↓z_IsN, ↓z_IntI, ↓z_SlT, ↓z_SlL, ↓z_SlO, ↓z_SlS, ↓z_Sub, ↓z_Mod, ↓z_Div, ↓z_Pow, ↓z_Le, ↓z_Gt, ↓z_Ge, ↓z_II, ↓varF_v, ↓varF_l, ↓mvF_o, ↓mvF_v, ↓mvF_s, ndF_some, ifB_t, ifB_f, con, sl, frzS, isB, tuO_t, daO, sqO_l, sqO_t, sqO_o, sqO_s, lsO, lenO_K, lenO_T, lenO_o, lenO_l, lenO_t, lenO_s, ngO, consO, argO, varsO, wrB, untag, owL, tyS, tyD_n, tyD_b, tyD_i, tyD_s, tyD_l, tyD_t, tyD_d, entryE, tagA, backA, wipeE, backE, keepS, seqD_l, seqD_t, seqV_l, seqV_t, liD_l, kyS, ksS, keyD_i, keyD_s, keysD, ixS, tupD_t, isDic, isT, eq_self, isNone_n, isNone_i, isNone_t, isNone_l, isNone_b, isNone_s, isNone_o, need_some, atI_0, atI_1, atI_2, atI_3, ixN_30, ixN_31, ixN_32, eqv_int, eqv_str, Int.toNat_natCast, List.getElem?_cons_zero, List.getElem?_cons_succ, List.getElem?_nil, List.set_cons_zero, List.set_cons_succ, List.length_cons, List.length_nil, Option.join_some, Option.join_none, List.replicate_succ, List.replicate_zero, List.cons_append, List.nil_append, Option.map_some, Nat.zero_add, Nat.reduceAdd, Nat.reduceSub, Bool.not_true, Bool.not_false, if_true, if_false, Bool.false_eq_true, true_and, and_true, decide_true, decide_false, Nat.reduceLeDiff, Nat.reduceEqDiff, reduceIte, reduceCtorEq, Bool.or_false, Bool.or_true, Bool.and_true, Bool.and_false, Bool.true_and, Bool.false_and, Bool.true_or, Bool.false_or, List.map_cons, List.map_nil, List.nodup_cons, List.nodup_nil, List.mem_cons, List.not_mem_nil, not_false_eq_true, or_false, false_or, seqV_S, seqV_R]
      rw [withinB, q, Bool.true_and] at h
      exact h
    · simp -dsimp only [↓z_K, ↓z_VarO, ↓z_Var, ↓z_Move, ↓z_Of, ↓z_Fz, ↓z_Res, ↓z_VNil, ↓z_VCons, ↓z_Tup, ↓z_Lst, ↓z_Op2, ↓z_Tst, ↓z_Not, ↓z_Chain, ↓z_AndV, ↓z_OrV, ↓z_NotV, ↓z_And, ↓z_Or, ↓z_If, ↓z_Next, ↓z_Seq, ↓z_Break, ↓z_Cont, ↓z_Exp, ↓z_Ret, ↓z_RetN, ↓z_IfS, ↓z_Nm, ↓z_Tp, ↓z_GN, ↓z_GC, ↓z_Asg, ↓z_ONil, ↓z_OCons, ↓z_SetIx, ↓z_Call, ↓z_Sq, ↓z_Rev, ↓z_For, ↓z_Wh, ↓z_Lc, ↓z_Lc2, ↓z_All, ↓z_All2, ↓z_Yes, ↓z_CB, ↓z_Isi, ↓z_Neg, ↓z_NoP, ↓z_Prt, ↓z_Sl, ↓z_App, ↓z_Pop, ↓z_VK, ↓z_VKs, ↓z_Eq, ↓z_InL, ↓z_InK, ↓z_InT, ↓z_In1, ↓z_In2, ↓z_In3, ↓z_In4, ↓z_IxS, ↓z_Ix1, ↓z_Ix2, ↓z_Ix3, ↓z_Ix4, ↓z_Ix5, ↓z_put1, ↓z_put2, ↓z_put3, ↓z_Len, ↓z_TupC, ↓z_LstC, ↓z_Repr, ↓z_NewD, ↓z_DisK, ↓z_DisT, ↓z_Get1, ↓z_Get2, ↓z_get2K, ↓z_get2T, ↓z_fin, ↓z_Rng1, ↓z_Rng2, ↓rng1F_i, ↓rng2F_i, ↓z_Enm, ↓z_EnmA, ↓enmAF_l, ↓enmAF_t, ↓enmF_l, ↓z_Zip, ↓zipF_l, ↓zipF_t, ↓z_Par, ↓parF_r, ↓z_Par3, ↓par3F_r, ↓z_Never, ↓z_NevE, ↓z_getK, ↓z_getT, ↓z_AddI, ↓z_AddT, ↓z_AddO, ↓z_AddS, ↓z_MulI, ↓z_MulT, ↓z_LtI, ↓z_LtT, ↓z_IsN, ↓z_IntI, ↓z_SlT, ↓z_SlL, ↓z_SlO, ↓z_SlS, ↓z_Sub, ↓z_Mod, ↓z_Div, ↓z_Pow, ↓z_Le, ↓z_Gt, ↓z_Ge, ↓z_II, ↓varF_v, ↓varF_l, ↓mvF_o, ↓mvF_v, ↓mvF_s, ndF_some, ifB_t, ifB_f, con, sl, frzS, isB, tuO_t, daO, sqO_l, sqO_t, sqO_o, sqO_s, lsO, lenO_K, lenO_T, lenO_o, lenO_l, lenO_t, lenO_s, ngO, consO, argO, varsO, wrB, untag, owL, tyS, tyD_n, tyD_b, tyD_i, tyD_s, tyD_l, tyD_t, tyD_d, entryE, tagA, backA, wipeE, backE, keepS, seqD_l, seqD_t, seqV_l, seqV_t, liD_l, kyS, ksS, keyD_i, keyD_s, keysD, ixS, tupD_t, isDic, isT, eq_self, isNone_n, isNone_i, isNone_t, isNone_l, isNone_b, isNone_s, isNone_o, need_some, atI_0, atI_1, atI_2, atI_3, ixN_30, ixN_31, ixN_32, eqv_int, eqv_str, Int.toNat_natCast, List.getElem?_cons_zero, List.getElem?_cons_succ, List.getElem?_nil, List.set_cons_zero, List.set_cons_succ, List.length_cons, List.length_nil, Option.join_some, Option.join_none, List.replicate_succ, List.replicate_zero, List.cons_append, List.nil_append, Option.map_some, Nat.zero_add, Nat.reduceAdd, Nat.reduceSub, Bool.not_true, Bool.not_false, if_true, if_false, Bool.false_eq_true, true_and, and_true, decide_true, decide_false, Nat.reduceLeDiff, Nat.reduceEqDiff, reduceIte, reduceCtorEq, Bool.or_false, Bool.or_true, Bool.and_true, Bool.and_false, Bool.true_and, Bool.false_and, Bool.true_or, Bool.false_or, List.map_cons, List.map_nil, List.nodup_cons, List.nodup_nil, List.mem_cons, List.not_mem_nil, not_false_eq_true, or_false, false_or, seqV_S, seqV_R]
      rw [withinB, q, Bool.false_and] at h
      exact h
  | none => simp -dsimp only [↓z_K, ↓z_VarO, ↓z_Var, ↓z_Move, ↓z_Of, ↓z_Fz, ↓z_Res, ↓z_VNil, ↓z_VCons, ↓z_Tup, ↓z_Lst, ↓z_Op2, ↓z_Tst, ↓z_Not, ↓z_Chain, ↓z_AndV, ↓z_OrV, ↓z_NotV, ↓z_And, ↓z_Or, ↓z_If, ↓z_Next, ↓z_Seq, ↓z_Break, ↓z_Cont, ↓z_Exp, ↓z_Ret, ↓z_RetN, ↓z_IfS, ↓z_Nm, ↓z_Tp, ↓z_GN, ↓z_GC, ↓z_Asg, ↓z_ONil, ↓z_OCons, ↓z_SetIx, ↓z_Call, ↓z_Sq, ↓z_Rev, ↓z_For, ↓z_Wh, ↓z_Lc, ↓z_Lc2, ↓z_All, ↓z_All2, ↓z_Yes, ↓z_CB, ↓z_Isi, ↓z_Neg, ↓z_NoP, ↓z_Prt, ↓z_Sl, ↓z_App, ↓z_Pop, ↓z_VK, ↓z_VKs, ↓z_Eq, ↓z_InL, ↓z_InK, ↓z_InT, ↓z_In1, ↓z_In2, ↓z_In3, ↓z_In4, ↓z_IxS, ↓z_Ix1, ↓z_Ix2, ↓z_Ix3, ↓z_Ix4, ↓z_Ix5, ↓z_put1, ↓z_put2, ↓z_put3, ↓z_Len, ↓z_TupC, ↓z_LstC, ↓z_Repr, ↓z_NewD, ↓z_DisK, ↓z_DisT, ↓z_Get1, ↓z_Get2, ↓z_get2K, ↓z_get2T, ↓z_fin, ↓z_Rng1, ↓z_Rng2, ↓rng1F_i, ↓rng2F_i, ↓z_Enm, ↓z_EnmA, ↓enmAF_l, ↓enmAF_t, ↓enmF_l, ↓z_Zip, ↓zipF_l, ↓zipF_t, ↓z_Par, ↓parF_r, ↓z_Par3, ↓par3F_r, ↓z_Never, ↓z_NevE, ↓z_getK, ↓z_getT, ↓z_AddI, ↓z_AddT, ↓z_AddO, ↓z_AddS, ↓z_MulI, ↓z_MulT, ↓z_LtI, ↓z_LtT, ↓z_IsN, ↓z_IntI, ↓z_SlT, ↓z_SlL, ↓z_SlO, ↓z_SlS, ↓z_Sub, ↓z_Mod, ↓z_Div, ↓z_Pow, ↓z_Le, ↓z_Gt, ↓z_Ge, ↓z_II, ↓varF_v, ↓varF_l, ↓mvF_o, ↓mvF_v, ↓mvF_s, ndF_some, ifB_t, ifB_f, con, sl, frzS, isB, tuO_t, daO, sqO_l, sqO_t, sqO_o, sqO_s, lsO, lenO_K, lenO_T, lenO_o, lenO_l, lenO_t, lenO_s, ngO, consO, argO, varsO, wrB, untag, owL, tyS, tyD_n, tyD_b, tyD_i, tyD_s, tyD_l, tyD_t, tyD_d, entryE, tagA, backA, wipeE, backE, keepS, seqD_l, seqD_t, seqV_l, seqV_t, liD_l, kyS, ksS, keyD_i, keyD_s, keysD, ixS, tupD_t, isDic, isT, eq_self, isNone_n, isNone_i, isNone_t, isNone_l, isNone_b, isNone_s, isNone_o, need_some, atI_0, atI_1, atI_2, atI_3, ixN_30, ixN_31, ixN_32, eqv_int, eqv_str, Int.toNat_natCast, List.getElem?_cons_zero, List.getElem?_cons_succ, List.getElem?_nil, List.set_cons_zero, List.set_cons_succ, List.length_cons, List.length_nil, Option.join_some, Option.join_none, List.replicate_succ, List.replicate_zero, List.cons_append, List.nil_append, Option.map_some, Nat.zero_add, Nat.reduceAdd, Nat.reduceSub, Bool.not_true, Bool.not_false, if_true, if_false, Bool.false_eq_true, true_and, and_true, decide_true, decide_false, Nat.reduceLeDiff, Nat.reduceEqDiff, reduceIte, reduceCtorEq, Bool.or_false, Bool.or_true, Bool.and_true, Bool.and_false, Bool.true_and, Bool.false_and, Bool.true_or, Bool.false_or, List.map_cons, List.map_nil, List.nodup_cons, List.nodup_nil, List.mem_cons, List.not_mem_nil, not_false_eq_true, or_false, false_or, seqV_S, seqV_R, intB]; exact h
  | bool => simp -dsimp only [↓z_K, ↓z_VarO, ↓z_Var, ↓z_Move, ↓z_Of, ↓z_Fz, ↓z_Res, ↓z_VNil, ↓z_VCons, ↓z_Tup, ↓z_Lst, ↓z_Op2, ↓z_Tst, ↓z_Not, ↓z_Chain, ↓z_AndV, ↓z_OrV, ↓z_NotV, ↓z_And, ↓z_Or, ↓z_If, ↓z_Next, ↓z_Seq, ↓z_Break, ↓z_Cont, ↓z_Exp, ↓z_Ret, ↓z_RetN, ↓z_IfS, ↓z_Nm, ↓z_Tp, ↓z_GN, ↓z_GC, ↓z_Asg, ↓z_ONil, ↓z_OCons, ↓z_SetIx, ↓z_Call, ↓z_Sq, ↓z_Rev, ↓z_For, ↓z_Wh, ↓z_Lc, ↓z_Lc2, ↓z_All, ↓z_All2, ↓z_Yes, ↓z_CB, ↓z_Isi, ↓z_Neg, ↓z_NoP, ↓z_Prt, ↓z_Sl, ↓z_App, ↓z_Pop, ↓z_VK, ↓z_VKs, ↓z_Eq, ↓z_InL, ↓z_InK, ↓z_InT, ↓z_In1, ↓z_In2, ↓z_In3, ↓z_In4, ↓z_IxS, ↓z_Ix1, ↓z_Ix2, ↓z_Ix3, ↓z_Ix4, ↓z_Ix5, ↓z_put1, ↓z_put2, ↓z_put3, ↓z_Len, ↓z_TupC, ↓z_LstC, ↓z_Repr, ↓z_NewD, ↓z_DisK, ↓z_DisT, ↓z_Get1, ↓z_Get2, ↓z_get2K, ↓z_get2T, ↓z_fin, ↓z_Rng1, ↓z_Rng2, ↓rng1F_i, ↓rng2F_i, ↓z_Enm, ↓z_EnmA, ↓enmAF_l, ↓enmAF_t, ↓enmF_l, ↓z_Zip, ↓zipF_l, ↓zipF_t, ↓z_Par, ↓parF_r, ↓z_Par3, ↓par3F_r, ↓z_Never, ↓z_NevE, ↓z_getK, ↓z_getT, ↓z_AddI, ↓z_AddT, ↓z_AddO, ↓z_AddS, ↓z_MulI, ↓z_MulT, ↓z_LtI, ↓z_LtT, ↓z_IsN, ↓z_IntI, ↓z_SlT, ↓z_SlL, ↓z_SlO, ↓z_SlS, ↓z_Sub, ↓z_Mod, ↓z_Div, ↓z_Pow, ↓z_Le, ↓z_Gt, ↓z_Ge, ↓z_II, ↓varF_v, ↓varF_l, ↓mvF_o, ↓mvF_v, ↓mvF_s, ndF_some, ifB_t, ifB_f, con, sl, frzS, isB, tuO_t, daO, sqO_l, sqO_t, sqO_o, sqO_s, lsO, lenO_K, lenO_T, lenO_o, lenO_l, lenO_t, lenO_s, ngO, consO, argO, varsO, wrB, untag, owL, tyS, tyD_n, tyD_b, tyD_i, tyD_s, tyD_l, tyD_t, tyD_d, entryE, tagA, backA, wipeE, backE, keepS, seqD_l, seqD_t, seqV_l, seqV_t, liD_l, kyS, ksS, keyD_i, keyD_s, keysD, ixS, tupD_t, isDic, isT, eq_self, isNone_n, isNone_i, isNone_t, isNone_l, isNone_b, isNone_s, isNone_o, need_some, atI_0, atI_1, atI_2, atI_3, ixN_30, ixN_31, ixN_32, eqv_int, eqv_str, Int.toNat_natCast, List.getElem?_cons_zero, List.getElem?_cons_succ, List.getElem?_nil, List.set_cons_zero, List.set_cons_succ, List.length_cons, List.length_nil, Option.join_some, Option.join_none, List.replicate_succ, List.replicate_zero, List.cons_append, List.nil_append, Option.map_some, Nat.zero_add, Nat.reduceAdd, Nat.reduceSub, Bool.not_true, Bool.not_false, if_true, if_false, Bool.false_eq_true, true_and, and_true, decide_true, decide_false, Nat.reduceLeDiff, Nat.reduceEqDiff, reduceIte, reduceCtorEq, Bool.or_false, Bool.or_true, Bool.and_true, Bool.and_false, Bool.true_and, Bool.false_and, Bool.true_or, Bool.false_or, List.map_cons, List.map_nil, List.nodup_cons, List.nodup_nil, List.mem_cons, List.not_mem_nil, not_false_eq_true, or_false, false_or, seqV_S, seqV_R, intB]; exact h
  | tuple => simp -dsimp only [↓z_K, ↓z_VarO, ↓z_Var, ↓z_Move, ↓z_Of, ↓z_Fz, ↓z_Res, ↓z_VNil, ↓z_VCons, ↓z_Tup, ↓z_Lst, ↓z_Op2, ↓z_Tst, ↓z_Not, ↓z_Chain, ↓z_AndV, ↓z_OrV, ↓z_NotV, ↓z_And, ↓z_Or, ↓z_If, ↓z_Next, ↓z_Seq, ↓z_Break, ↓z_Cont, ↓z_Exp, ↓z_Ret, ↓z_RetN, ↓z_IfS, ↓z_Nm, ↓z_Tp, ↓z_GN, ↓z_GC, ↓z_Asg, ↓z_ONil, ↓z_OCons, ↓z_SetIx, ↓z_Call, ↓z_Sq, ↓z_Rev, ↓z_For, ↓z_Wh, ↓z_Lc, ↓z_Lc2, ↓z_All, ↓z_All2, ↓z_Yes, ↓z_CB, ↓z_Isi, ↓z_Neg, ↓z_NoP, ↓z_Prt, ↓z_Sl, ↓z_App, ↓z_Pop, ↓z_VK, ↓z_VKs, ↓z_Eq, ↓z_InL, ↓z_InK, ↓z_InT, ↓z_In1, ↓z_In2, ↓z_In3, ↓z_In4, ↓z_IxS, ↓z_Ix1, ↓z_Ix2, ↓z_Ix3, ↓z_Ix4, ↓z_Ix5, ↓z_put1, ↓z_put2, ↓z_put3, ↓z_Len, ↓z_TupC, ↓z_LstC, ↓z_Repr, ↓z_NewD, ↓z_DisK, ↓z_DisT, ↓z_Get1, ↓z_Get2, ↓z_get2K, ↓z_get2T, ↓z_fin, ↓z_Rng1, ↓z_Rng2, ↓rng1F_i, ↓rng2F_i, ↓z_Enm, ↓z_EnmA, ↓enmAF_l, ↓enmAF_t, ↓enmF_l, ↓z_Zip, ↓zipF_l, ↓zipF_t, ↓z_Par, ↓parF_r, ↓z_Par3, ↓par3F_r, ↓z_Never, ↓z_NevE, ↓z_getK, ↓z_getT, ↓z_AddI, ↓z_AddT, ↓z_AddO, ↓z_AddS, ↓z_MulI, ↓z_MulT, ↓z_LtI, ↓z_LtT, ↓z_IsN, ↓z_IntI, ↓z_SlT, ↓z_SlL, ↓z_SlO, ↓z_SlS, ↓z_Sub, ↓z_Mod, ↓z_Div, ↓z_Pow, ↓z_Le, ↓z_Gt, ↓z_Ge, ↓z_II, ↓varF_v, ↓varF_l, ↓mvF_o, ↓mvF_v, ↓mvF_s, ndF_some, ifB_t, ifB_f, con, sl, frzS, isB, tuO_t, daO, sqO_l, sqO_t, sqO_o, sqO_s, lsO, lenO_K, lenO_T, lenO_o, lenO_l, lenO_t, lenO_s, ngO, consO, argO, varsO, wrB, untag, owL, tyS, tyD_n, tyD_b, tyD_i, tyD_s, tyD_l, tyD_t, tyD_d, entryE, tagA, backA, wipeE, backE, keepS, seqD_l, seqD_t, seqV_l, seqV_t, liD_l, kyS, ksS, keyD_i, keyD_s, keysD, ixS, tupD_t, isDic, isT, eq_self, isNone_n, isNone_i, isNone_t, isNone_l, isNone_b, isNone_s, isNone_o, need_some, atI_0, atI_1, atI_2, atI_3, ixN_30, ixN_31, ixN_32, eqv_int, eqv_str, Int.toNat_natCast, List.getElem?_cons_zero, List.getElem?_cons_succ, List.getElem?_nil, List.set_cons_zero, List.set_cons_succ, List.length_cons, List.length_nil, Option.join_some, Option.join_none, List.replicate_succ, List.replicate_zero, List.cons_append, List.nil_append, Option.map_some, Nat.zero_add, Nat.reduceAdd, Nat.reduceSub, Bool.not_true, Bool.not_false, if_true, if_false, Bool.false_eq_true, true_and, and_true, decide_true, decide_false, Nat.reduceLeDiff, Nat.reduceEqDiff, reduceIte, reduceCtorEq, Bool.or_false, Bool.or_true, Bool.and_true, Bool.and_false, Bool.true_and, Bool.false_and, Bool.true_or, Bool.false_or, List.map_cons, List.map_nil, List.nodup_cons, List.nodup_nil, List.mem_cons, List.not_mem_nil, not_false_eq_true, or_false, false_or, seqV_S, seqV_R, intB]; exact h
  | str => simp -dsimp only [↓z_K, ↓z_VarO, ↓z_Var, ↓z_Move, ↓z_Of, ↓z_Fz, ↓z_Res, ↓z_VNil, ↓z_VCons, ↓z_Tup, ↓z_Lst, ↓z_Op2, ↓z_Tst, ↓z_Not, ↓z_Chain, ↓z_AndV, ↓z_OrV, ↓z_NotV, ↓z_And, ↓z_Or, ↓z_If, ↓z_Next, ↓z_Seq, ↓z_Break, ↓z_Cont, ↓z_Exp, ↓z_Ret, ↓z_RetN, ↓z_IfS, ↓z_Nm, ↓z_Tp, ↓z_GN, ↓z_GC, ↓z_Asg, ↓z_ONil, ↓z_OCons, ↓z_SetIx, ↓z_Call, ↓z_Sq, ↓z_Rev, ↓z_For, ↓z_Wh, ↓z_Lc, ↓z_Lc2, ↓z_All, ↓z_All2, ↓z_Yes, ↓z_CB, ↓z_Isi, ↓z_Neg, ↓z_NoP, ↓z_Prt, ↓z_Sl, ↓z_App, ↓z_Pop, ↓z_VK, ↓z_VKs, ↓z_Eq, ↓z_InL, ↓z_InK, ↓z_InT, ↓z_In1, ↓z_In2, ↓z_In3, ↓z_In4, ↓z_IxS, ↓z_Ix1, ↓z_Ix2, ↓z_Ix3, ↓z_Ix4, ↓z_Ix5, ↓z_put1, ↓z_put2, ↓z_put3, ↓z_Len, ↓z_TupC, ↓z_LstC, ↓z_Repr, ↓z_NewD, ↓z_DisK, ↓z_DisT, ↓z_Get1, ↓z_Get2, ↓z_get2K, ↓z_get2T, ↓z_fin, ↓z_Rng1, ↓z_Rng2, ↓rng1F_i, ↓rng2F_i, ↓z_Enm, ↓z_EnmA, ↓enmAF_l, ↓enmAF_t, ↓enmF_l, ↓z_Zip, ↓zipF_l, ↓zipF_t, ↓z_Par, ↓parF_r, ↓z_Par3, ↓par3F_r, ↓z_Never, ↓z_NevE, ↓z_getK, ↓z_getT, ↓z_AddI, ↓z_AddT, ↓z_AddO, ↓z_AddS, ↓z_MulI, ↓z_MulT, ↓z_LtI, ↓z_LtT, ↓z_IsN, ↓z_IntI, ↓z_SlT, ↓z_SlL, ↓z_SlO, ↓z_SlS, ↓z_Sub, ↓z_Mod, ↓z_Div, ↓z_Pow, ↓z_Le, ↓z_Gt, ↓z_Ge, ↓z_II, ↓varF_v, ↓varF_l, ↓mvF_o, ↓mvF_v, ↓mvF_s, ndF_some, ifB_t, ifB_f, con, sl, frzS, isB, tuO_t, daO, sqO_l, sqO_t, sqO_o, sqO_s, lsO, lenO_K, lenO_T, lenO_o, lenO_l, lenO_t, lenO_s, ngO, consO, argO, varsO, wrB, untag, owL, tyS, tyD_n, tyD_b, tyD_i, tyD_s, tyD_l, tyD_t, tyD_d, entryE, tagA, backA, wipeE, backE, keepS, seqD_l, seqD_t, seqV_l, seqV_t, liD_l, kyS, ksS, keyD_i, keyD_s, keysD, ixS, tupD_t, isDic, isT, eq_self, isNone_n, isNone_i, isNone_t, isNone_l, isNone_b, isNone_s, isNone_o, need_some, atI_0, atI_1, atI_2, atI_3, ixN_30, ixN_31, ixN_32, eqv_int, eqv_str, Int.toNat_natCast, List.getElem?_cons_zero, List.getElem?_cons_succ, List.getElem?_nil, List.set_cons_zero, List.set_cons_succ, List.length_cons, List.length_nil, Option.join_some, Option.join_none, List.replicate_succ, List.replicate_zero, List.cons_append, List.nil_append, Option.map_some, Nat.zero_add, Nat.reduceAdd, Nat.reduceSub, Bool.not_true, Bool.not_false, if_true, if_false, Bool.false_eq_true, true_and, and_true, decide_true, decide_false, Nat.reduceLeDiff, Nat.reduceEqDiff, reduceIte, reduceCtorEq, Bool.or_false, Bool.or_true, Bool.and_true, Bool.and_false, Bool.true_and, Bool.false_and, Bool.true_or, Bool.false_or, List.map_cons, List.map_nil, List.nodup_cons, List.nodup_nil, List.mem_cons, List.not_mem_nil, not_false_eq_true, or_false, false_or, seqV_S, seqV_R, intB]; exact h
  | list => simp -dsimp only [↓z_K, ↓z_VarO, ↓z_Var, ↓z_Move, ↓z_Of, ↓z_Fz, ↓z_Res, ↓z_VNil, ↓z_VCons, ↓z_Tup, ↓z_Lst, ↓z_Op2, ↓z_Tst, ↓z_Not, ↓z_Chain, ↓z_AndV, ↓z_OrV, ↓z_NotV, ↓z_And, ↓z_Or, ↓z_If, ↓z_Next, ↓z_Seq, ↓z_Break, ↓z_Cont, ↓z_Exp, ↓z_Ret, ↓z_RetN, ↓z_IfS, ↓z_Nm, ↓z_Tp, ↓z_GN, ↓z_GC, ↓z_Asg, ↓z_ONil, ↓z_OCons, ↓z_SetIx, ↓z_Call, ↓z_Sq, ↓z_Rev, ↓z_For, ↓z_Wh, ↓z_Lc, ↓z_Lc2, ↓z_All, ↓z_All2, ↓z_Yes, ↓z_CB, ↓z_Isi, ↓z_Neg, ↓z_NoP, ↓z_Prt, ↓z_Sl, ↓z_App, ↓z_Pop, ↓z_VK, ↓z_VKs, ↓z_Eq, ↓z_InL, ↓z_InK, ↓z_InT, ↓z_In1, ↓z_In2, ↓z_In3, ↓z_In4, ↓z_IxS, ↓z_Ix1, ↓z_Ix2, ↓z_Ix3, ↓z_Ix4, ↓z_Ix5, ↓z_put1, ↓z_put2, ↓z_put3, ↓z_Len, ↓z_TupC, ↓z_LstC, ↓z_Repr, ↓z_NewD, ↓z_DisK, ↓z_DisT, ↓z_Get1, ↓z_Get2, ↓z_get2K, ↓z_get2T, ↓z_fin, ↓z_Rng1, ↓z_Rng2, ↓rng1F_i, ↓rng2F_i, ↓z_Enm, ↓z_EnmA, ↓enmAF_l, ↓enmAF_t, ↓enmF_l, ↓z_Zip, ↓zipF_l, ↓zipF_t, ↓z_Par, ↓parF_r, ↓z_Par3, ↓par3F_r, ↓z_Never, ↓z_NevE, ↓z_getK, ↓z_getT, ↓z_AddI, ↓z_AddT, ↓z_AddO, ↓z_AddS, ↓z_MulI, ↓z_MulT, ↓z_LtI, ↓z_LtT, ↓z_IsN, ↓z_IntI, ↓z_SlT, ↓z_SlL, ↓z_SlO, ↓z_SlS, ↓z_Sub, ↓z_Mod, ↓z_Div, ↓z_Pow, ↓z_Le, ↓z_Gt, ↓z_Ge, ↓z_II, ↓varF_v, ↓varF_l, ↓mvF_o, ↓mvF_v, ↓mvF_s, ndF_some, ifB_t, ifB_f, con, sl, frzS, isB, tuO_t, daO, sqO_l, sqO_t, sqO_o, sqO_s, lsO, lenO_K, lenO_T, lenO_o, lenO_l, lenO_t, lenO_s, ngO, consO, argO, varsO, wrB, untag, owL, tyS, tyD_n, tyD_b, tyD_i, tyD_s, tyD_l, tyD_t, tyD_d, entryE, tagA, backA, wipeE, backE, keepS, seqD_l, seqD_t, seqV_l, seqV_t, liD_l, kyS, ksS, keyD_i, keyD_s, keysD, ixS, tupD_t, isDic, isT, eq_self, isNone_n, isNone_i, isNone_t, isNone_l, isNone_b, isNone_s, isNone_o, need_some, atI_0, atI_1, atI_2, atI_3, ixN_30, ixN_31, ixN_32, eqv_int, eqv_str, Int.toNat_natCast, List.getElem?_cons_zero, List.getElem?_cons_succ, List.getElem?_nil, List.set_cons_zero, List.set_cons_succ, List.length_cons, List.length_nil, Option.join_some, Option.join_none, List.replicate_succ, List.replicate_zero, List.cons_append, List.nil_append, Option.map_some, Nat.zero_add, Nat.reduceAdd, Nat.reduceSub, Bool.not_true, Bool.not_false, if_true, if_false, Bool.false_eq_true, true_and, and_true, decide_true, decide_false, Nat.reduceLeDiff, Nat.reduceEqDiff, reduceIte, reduceCtorEq, Bool.or_false, Bool.or_true, Bool.and_true, Bool.and_false, Bool.true_and, Bool.false_and, Bool.true_or, Bool.false_or, List.map_cons, List.map_nil, List.nodup_cons, List.nodup_nil, List.mem_cons, List.not_mem_nil, not_false_eq_true, or_false, false_or, seqV_S, seqV_R, intB]; exact h
  | dict => simp -dsimp only [↓z_K, ↓z_VarO, ↓z_Var, ↓z_Move, ↓z_Of, ↓z_Fz, ↓z_Res, ↓z_VNil, ↓z_VCons, ↓z_Tup, ↓z_Lst, ↓z_Op2, ↓z_Tst, ↓z_Not, ↓z_Chain, ↓z_AndV, ↓z_OrV, ↓z_NotV, ↓z_And, ↓z_Or, ↓z_If, ↓z_Next, ↓z_Seq, ↓z_Break, ↓z_Cont, ↓z_Exp, ↓z_Ret, ↓z_RetN, ↓z_IfS, ↓z_Nm, ↓z_Tp, ↓z_GN, ↓z_GC, ↓z_Asg, ↓z_ONil, ↓z_OCons, ↓z_SetIx, ↓z_Call, ↓z_Sq, ↓z_Rev, ↓z_For, ↓z_Wh, ↓z_Lc, ↓z_Lc2, ↓z_All, ↓z_All2, ↓z_Yes, ↓z_CB, ↓z_Isi, ↓z_Neg, ↓z_NoP, ↓z_Prt, ↓z_Sl, ↓z_App, ↓z_Pop, ↓z_VK, ↓z_VKs, ↓z_Eq, ↓z_InL, ↓z_InK, ↓z_InT, ↓z_In1, ↓z_In2, ↓z_In3, ↓z_In4, ↓z_IxS, ↓z_Ix1, ↓z_Ix2, ↓z_Ix3, ↓z_Ix4, ↓z_Ix5, ↓z_put1, ↓z_put2, ↓z_put3, ↓z_Len, ↓z_TupC, ↓z_LstC, ↓z_Repr, ↓z_NewD, ↓z_DisK, ↓z_DisT, ↓z_Get1, ↓z_Get2, ↓z_get2K, ↓z_get2T, ↓z_fin, ↓z_Rng1, ↓z_Rng2, ↓rng1F_i, ↓rng2F_i, ↓z_Enm, ↓z_EnmA, ↓enmAF_l, ↓enmAF_t, ↓enmF_l, ↓z_Zip, ↓zipF_l, ↓zipF_t, ↓z_Par, ↓parF_r, ↓z_Par3, ↓par3F_r, ↓z_Never, ↓z_NevE, ↓z_getK, ↓z_getT, ↓z_AddI, ↓z_AddT, ↓z_AddO, ↓z_AddS, ↓z_MulI, ↓z_MulT, ↓z_LtI, ↓z_LtT, ↓z_IsN, ↓z_IntI, ↓z_SlT, ↓z_SlL, ↓z_SlO, ↓z_SlS, ↓z_Sub, ↓z_Mod, ↓z_Div, ↓z_Pow, ↓z_Le, ↓z_Gt, ↓z_Ge, ↓z_II, ↓varF_v, ↓varF_l, ↓mvF_o, ↓mvF_v, ↓mvF_s, ndF_some, ifB_t, ifB_f, con, sl, frzS, isB, tuO_t, daO, sqO_l, sqO_t, sqO_o, sqO_s, lsO, lenO_K, lenO_T, lenO_o, lenO_l, lenO_t, lenO_s, ngO, consO, argO, varsO, wrB, untag, owL, tyS, tyD_n, tyD_b, tyD_i, tyD_s, tyD_l, tyD_t, tyD_d, entryE, tagA, backA, wipeE, backE, keepS, seqD_l, seqD_t, seqV_l, seqV_t, liD_l, kyS, ksS, keyD_i, keyD_s, keysD, ixS, tupD_t, isDic, isT, eq_self, isNone_n, isNone_i, isNone_t, isNone_l, isNone_b, isNone_s, isNone_o, need_some, atI_0, atI_1, atI_2, atI_3, ixN_30, ixN_31, ixN_32, eqv_int, eqv_str, Int.toNat_natCast, List.getElem?_cons_zero, List.getElem?_cons_succ, List.getElem?_nil, List.set_cons_zero, List.set_cons_succ, List.length_cons, List.length_nil, Option.join_some, Option.join_none, List.replicate_succ, List.replicate_zero, List.cons_append, List.nil_append, Option.map_some, Nat.zero_add, Nat.reduceAdd, Nat.reduceSub, Bool.not_true, Bool.not_false, if_true, if_false, Bool.false_eq_true, true_and, and_true, decide_true, decide_false, Nat.reduceLeDiff, Nat.reduceEqDiff, reduceIte, reduceCtorEq, Bool.or_false, Bool.or_true, Bool.and_true, Bool.and_false, Bool.true_and, Bool.false_and, Bool.true_or, Bool.false_or, List.map_cons, List.map_nil, List.nodup_cons, List.nodup_nil, List.mem_cons, List.not_mem_nil, not_false_eq_true, or_false, false_or, seqV_S, seqV_R, intB]; exact h
theorem sp_entry {d : D} {A n : Int} {Q : Slot → List Slot → Prop} {X : Value → Prop} (h : Q (.val (.bool (entB A n d))) [.val d, .val (.int A), .val (.int n)]) :
    fs_is_entry_form [.val d, .val (.int A), .val (.int n)] Q X := by
  refine ⟨rfl, ?_⟩
  unfold w_is_entry_form
  have no : ∀ d : D, d ≠ .none → (tupB d 2 2 = false → Q (.val (.bool false)) [.val d, .val (.int A), .val (.int n)]) → (∀ x y, d = .tuple [x, y] → Q (.val (.bool (withinB x 0 (n - 1) && withinB y 0 (A - 1)))) [.val d, .val (.int A), .val (.int n)]) →
      dIfS (dTst (dOp2 (gIs false) (dVarO 0) (dRes (dK .none)))) (dRet (dK (.bool true))) dNext (entryE ["thing", "answers", "many"] [.val d, .val (.int A), .val (.int n)]) { nx := fun e => dRet (dAndV (dCall fs_is_tuple_of (dOCons (dVarO 0) (dOCons (dRes (dK (.int 2))) (dOCons (dRes (dK (.int 2))) dONil)))) (dAndV (dCall fs_is_within (dOCons (dRes (dOp2 gIx (dVarO 0) (dRes (dK (.int 0))))) (dOCons (dRes (dK (.int 0))) (dOCons (dRes (dOp2 gSub (dVarO 2) (dRes (dK (.int 1))))) dONil)))) (dCall fs_is_within (dOCons (dRes (dOp2 gIx (dVarO 0) (dRes (dK (.int 1))))) (dOCons (dRes (dK (.int 0))) (dOCons (dRes (dOp2 gSub (dVarO 1) (dRes (dK (.int 1))))) dONil)))))) e { nx := finE [.val d, .val (.int A), .val (.int n)] Q (.val .none), rt := finE [.val d, .val (.int A), .val (.int n)] Q }, rt := finE [.val d, .val (.int A), .val (.int n)] Q } := fun d hd h1 h2 => by
    have hn : isNone (.val d) = false := by cases d <;> first | rfl | exact absurd rfl hd
    simp -dsimp only [↓z_K, ↓z_VarO, ↓z_Var, ↓z_Move, ↓z_Of, ↓z_Fz, ↓z_Res, ↓z_VNil, ↓z_VCons, ↓z_Tup, ↓z_Lst, ↓z_Op2, ↓z_Tst, ↓z_Not, ↓z_Chain, ↓z_AndV, ↓z_OrV, ↓z_NotV, ↓z_And, ↓z_Or, ↓z_If, ↓z_Next, ↓z_Seq, ↓z_Break, ↓z_Cont, ↓z_Exp, ↓z_Ret, ↓z_RetN, ↓z_IfS, ↓z_Nm, ↓z_Tp, ↓z_GN, ↓z_GC, ↓z_Asg, ↓z_ONil, ↓z_OCons, ↓z_SetIx, ↓z_Call, ↓z_Sq, ↓z_Rev, ↓z_For, ↓z_Wh, ↓z_Lc, ↓z_Lc2, ↓z_All, ↓z_All2, ↓z_Yes, ↓z_CB, ↓z_Isi, ↓z_Neg, ↓z_NoP, ↓z_Prt, ↓z_Sl, ↓z_App, ↓z_Pop, ↓z_VK, ↓z_VKs, ↓z_Eq, ↓z_InL, ↓z_InK, ↓z_InT, ↓z_In1, ↓z_In2, ↓z_In3, ↓z_In4, ↓z_IxS, ↓z_Ix1, ↓z_Ix2, ↓z_Ix3, ↓z_Ix4, ↓z_Ix5, ↓z_put1, ↓z_put2, ↓z_put3, ↓z_Len, ↓z_TupC, ↓z_LstC, ↓z_Repr, ↓z_NewD, ↓z_DisK, ↓z_DisT, ↓z_Get1, ↓z_Get2, ↓z_get2K, ↓z_get2T, ↓z_fin, ↓z_Rng1, ↓z_Rng2, ↓rng1F_i, ↓rng2F_i, ↓z_Enm, ↓z_EnmA, ↓enmAF_l, ↓enmAF_t, ↓enmF_l, ↓z_Zip, ↓zipF_l, ↓zipF_t, ↓z_Par, ↓parF_r, ↓z_Par3, ↓par3F_r, ↓z_Never, ↓z_NevE, ↓z_getK, ↓z_getT, ↓z_AddI, ↓z_AddT, ↓z_AddO, ↓z_AddS, ↓z_MulI, ↓z_MulT, ↓z_LtI, ↓z_LtT, ↓z_IsN, ↓z_IntI, ↓z_SlT, ↓z_SlL, ↓z_SlO, ↓z_SlS, ↓z_Sub, ↓z_Mod, ↓z_Div, ↓z_Pow, ↓z_Le, ↓z_Gt, ↓z_Ge, ↓z_II, ↓varF_v, ↓varF_l, ↓mvF_o, ↓mvF_v, ↓mvF_s, ndF_some, ifB_t, ifB_f, con, sl, frzS, isB, tuO_t, daO, sqO_l, sqO_t, sqO_o, sqO_s, lsO, lenO_K, lenO_T, lenO_o, lenO_l, lenO_t, lenO_s, ngO, consO, argO, varsO, wrB, untag, owL, tyS, tyD_n, tyD_b, tyD_i, tyD_s, tyD_l, tyD_t, tyD_d, entryE, tagA, backA, wipeE, backE, keepS, seqD_l, seqD_t, seqV_l, seqV_t, liD_l, kyS, ksS, keyD_i, keyD_s, keysD, ixS, tupD_t, isDic, isT, eq_self, isNone_n, isNone_i, isNone_t, isNone_l, isNone_b, isNone_s, isNone_o, need_some, atI_0, atI_1, atI_2, atI_3, ixN_30, ixN_31, ixN_32, eqv_int, eqv_str, Int.toNat_natCast, List.getElem?_cons_zero, List.getElem?_cons_succ, List.getElem?_nil, List.set_cons_zero, List.set_cons_succ, List.length_cons, List.length_nil, Option.join_some, Option.join_none, List.replicate_succ, List.replicate_zero, List.cons_append, List.nil_append, Option.map_some, Nat.zero_add, Nat.reduceAdd, Nat.reduceSub, Bool.not_true, Bool.not_false, if_true, if_false, Bool.false_eq_true, true_and, and_true, decide_true, decide_false, Nat.reduceLeDiff, Nat.reduceEqDiff, reduceIte, reduceCtorEq, Bool.or_false, Bool.or_true, Bool.and_true, Bool.and_false, Bool.true_and, Bool.false_and, Bool.true_or, Bool.false_or, List.map_cons, List.map_nil, List.nodup_cons, List.nodup_nil, List.mem_cons, List.not_mem_nil, not_false_eq_true, or_false, false_or, seqV_S, seqV_R, hn]
    refine sp_tuple_of ?_
    simp -dsimp only [↓z_K, ↓z_VarO, ↓z_Var, ↓z_Move, ↓z_Of, ↓z_Fz, ↓z_Res, ↓z_VNil, ↓z_VCons, ↓z_Tup, ↓z_Lst, ↓z_Op2, ↓z_Tst, ↓z_Not, ↓z_Chain, ↓z_AndV, ↓z_OrV, ↓z_NotV, ↓z_And, ↓z_Or, ↓z_If, ↓z_Next, ↓z_Seq, ↓z_Break, ↓z_Cont, ↓z_Exp, ↓z_Ret, ↓z_RetN, ↓z_IfS, ↓z_Nm, ↓z_Tp, ↓z_GN, ↓z_GC, ↓z_Asg, ↓z_ONil, ↓z_OCons, ↓z_SetIx, ↓z_Call, ↓z_Sq, ↓z_Rev, ↓z_For, ↓z_Wh, ↓z_Lc, ↓z_Lc2, ↓z_All, ↓z_All2, ↓z_Yes, ↓z_CB, ↓z_Isi, ↓z_Neg, ↓z_NoP, ↓z_Prt, ↓z_Sl, ↓z_App, ↓z_Pop, ↓z_VK, ↓z_VKs, ↓z_Eq, ↓z_InL, ↓z_InK, ↓z_InT, ↓z_In1, ↓z_In2, ↓z_In3, ↓z_In4, ↓z_IxS, ↓z_Ix1, ↓z_Ix2, ↓z_Ix3, ↓z_Ix4, ↓z_Ix5, ↓z_put1, ↓z_put2, ↓z_put3, ↓z_Len, ↓z_TupC, ↓z_LstC, ↓z_Repr, ↓z_NewD, ↓z_DisK, ↓z_DisT, ↓z_Get1, ↓z_Get2, ↓z_get2K, ↓z_get2T, ↓z_fin, ↓z_Rng1, ↓z_Rng2, ↓rng1F_i, ↓rng2F_i, ↓z_Enm, ↓z_EnmA, ↓enmAF_l, ↓enmAF_t, ↓enmF_l, ↓z_Zip, ↓zipF_l, ↓zipF_t, ↓z_Par, ↓parF_r, ↓z_Par3, ↓par3F_r, ↓z_Never, ↓z_NevE, ↓z_getK, ↓z_getT, ↓z_AddI, ↓z_AddT, ↓z_AddO, ↓z_AddS, ↓z_MulI, ↓z_MulT, ↓z_LtI, ↓z_LtT, ↓z_IsN, ↓z_IntI, ↓z_SlT, ↓z_SlL, ↓z_SlO, ↓z_SlS, ↓z_Sub, ↓z_Mod, ↓z_Div, ↓z_Pow, ↓z_Le, ↓z_Gt, ↓z_Ge, ↓z_II, ↓varF_v, ↓varF_l, ↓mvF_o, ↓mvF_v, ↓mvF_s, ndF_some, ifB_t, ifB_f, con, sl, frzS, isB, tuO_t, daO, sqO_l, sqO_t, sqO_o, sqO_s, lsO, lenO_K, lenO_T, lenO_o, lenO_l, lenO_t, lenO_s, ngO, consO, argO, varsO, wrB, untag, owL, tyS, tyD_n, tyD_b, tyD_i, tyD_s, tyD_l, tyD_t, tyD_d, entryE, tagA, backA, wipeE, backE, keepS, seqD_l, seqD_t, seqV_l, seqV_t, liD_l, kyS, ksS, keyD_i, keyD_s, keysD, ixS, tupD_t, isDic, isT, eq_self, isNone_n, isNone_i, isNone_t, isNone_l, isNone_b, isNone_s, isNone_o, need_some, atI_0, atI_1, atI_2, atI_3, ixN_30, ixN_31, ixN_32, eqv_int, eqv_str, Int.toNat_natCast, List.getElem?_cons_zero, List.getElem?_cons_succ, List.getElem?_nil, List.set_cons_zero, List.set_cons_succ, List.length_cons, List.length_nil, Option.join_some, Option.join_none, List.replicate_succ, List.replicate_zero, List.cons_append, List.nil_append, Option.map_some, Nat.zero_add, Nat.reduceAdd, Nat.reduceSub, Bool.not_true, Bool.not_false, if_true, if_false, Bool.false_eq_true, true_and, and_true, decide_true, decide_false, Nat.reduceLeDiff, Nat.reduceEqDiff, reduceIte, reduceCtorEq, Bool.or_false, Bool.or_true, Bool.and_true, Bool.and_false, Bool.true_and, Bool.false_and, Bool.true_or, Bool.false_or, List.map_cons, List.map_nil, List.nodup_cons, List.nodup_nil, List.mem_cons, List.not_mem_nil, not_false_eq_true, or_false, false_or, seqV_S, seqV_R]
    refine brB (fun q => ?_) fun q => ?_
    · have hx : ∃ x y, d = .tuple [x, y] := by
        unfold tupB at q
        split at q
        · rename_i xs
          simp only [Bool.and_eq_true, decide_eq_true_eq] at q
          match xs, q with
          | [x, y], _ => exact ⟨x, y, rfl⟩
          | [], q => simp at q
          | [_], q => simp at q
          | _ :: _ :: _ :: _, q => simp at q; omega
        · cases q
      obtain ⟨x, y, rfl⟩ := hx
      simp -dsimp only [↓z_K, ↓z_VarO, ↓z_Var, ↓z_Move, ↓z_Of, ↓z_Fz, ↓z_Res, ↓z_VNil, ↓z_VCons, ↓z_Tup, ↓z_Lst, ↓z_Op2, ↓z_Tst, ↓z_Not, ↓z_Chain, ↓z_AndV, ↓z_OrV, ↓z_NotV, ↓z_And, ↓z_Or, ↓z_If, ↓z_Next, ↓z_Seq, ↓z_Break, ↓z_Cont, ↓z_Exp, ↓z_Ret, ↓z_RetN, ↓z_IfS, ↓z_Nm, ↓z_Tp, ↓z_GN, ↓z_GC, ↓z_Asg, ↓z_ONil, ↓z_OCons, ↓z_SetIx, ↓z_Call, ↓z_Sq, ↓z_Rev, ↓z_For, ↓z_Wh, ↓z_Lc, ↓z_Lc2, ↓z_All, ↓z_All2, ↓z_Yes, ↓z_CB, ↓z_Isi, ↓z_Neg, ↓z_NoP, ↓z_Prt, ↓z_Sl, ↓z_App, ↓z_Pop, ↓z_VK, ↓z_VKs, ↓z_Eq, ↓z_InL, ↓z_InK, ↓z_InT, ↓z_In1, ↓z_In2, ↓z_In3, ↓z_In4, ↓z_IxS, ↓z_Ix1, ↓z_Ix2, ↓z_Ix3, ↓z_Ix4, ↓z_Ix5, ↓z_put1, ↓z_put2, ↓z_put3, ↓z_Len, ↓z_TupC, ↓z_LstC, ↓z_Repr, ↓z_NewD, ↓z_DisK, ↓z_DisT, ↓z_Get1, ↓z_Get2, ↓z_get2K, ↓z_get2T, ↓z_fin, ↓z_Rng1, ↓z_Rng2, ↓rng1F_i, ↓rng2F_i, ↓z_Enm, ↓z_EnmA, ↓enmAF_l, ↓enmAF_t, ↓enmF_l, ↓z_Zip, ↓zipF_l, ↓zipF_t, ↓z_Par, ↓parF_r, ↓z_Par3, ↓par3F_r, ↓z_Never, ↓z_NevE, ↓z_getK, ↓z_getT, ↓z_AddI, ↓z_AddT, ↓z_AddO, ↓z_AddS, ↓z_MulI, ↓z_MulT, ↓z_LtI, ↓z_LtT, ↓z_IsN, ↓z_IntI, ↓z_SlT, ↓z_SlL, ↓z_SlO, ↓z_SlS, ↓z_Sub, ↓z_Mod, ↓z_Div, ↓z_Pow, ↓z_Le, ↓z_Gt, ↓z_Ge, ↓z_II, ↓varF_v, ↓varF_l, ↓mvF_o, ↓mvF_v, ↓mvF_s, ndF_some, ifB_t, ifB_f, con, sl, frzS, isB, tuO_t, daO, sqO_l, sqO_t, sqO_o, sqO_s, lsO, lenO_K, lenO_T, lenO_o, lenO_l, lenO_t, lenO_s, ngO, consO, argO, varsO, wrB, untag, owL, tyS, tyD_n, tyD_b, tyD_i, tyD_s, tyD_l, tyD_t, tyD_d, entryE, tagA, backA, wipeE, backE, keepS, seqD_l, seqD_t, seqV_l, seqV_t, liD_l, kyS, ksS, keyD_i, keyD_s, keysD, ixS, tupD_t, isDic, isT, eq_self, isNone_n, isNone_i, isNone_t, isNone_l, isNone_b, isNone_s, isNone_o, need_some, atI_0, atI_1, atI_2, atI_3, ixN_30, ixN_31, ixN_32, eqv_int, eqv_str, Int.toNat_natCast, List.getElem?_cons_zero, List.getElem?_cons_succ, List.getElem?_nil, List.set_cons_zero, List.set_cons_succ, List.length_cons, List.length_nil, Option.join_some, Option.join_none, List.replicate_succ, List.replicate_zero, List.cons_append, List.nil_append, Option.map_some, Nat.zero_add, Nat.reduceAdd, Nat.reduceSub, Bool.not_true, Bool.not_false, if_true, if_false, Bool.false_eq_true, true_and, and_true, decide_true, decide_false, Nat.reduceLeDiff, Nat.reduceEqDiff, reduceIte, reduceCtorEq, Bool.or_false, Bool.or_true, Bool.and_true, Bool.and_false, Bool.true_and, Bool.false_and, Bool.true_or, Bool.false_or, List.map_cons, List.map_nil, List.nodup_cons, List.nodup_nil, List.mem_cons, List.not_mem_nil, not_false_eq_true, or_false, false_or, seqV_S, seqV_R]
      refine sp_within ?_
      simp -dsimp only [↓z_K, ↓z_VarO, ↓z_Var, ↓z_Move, ↓z_Of, ↓z_Fz, ↓z_Res, ↓z_VNil, ↓z_VCons, ↓z_Tup, ↓z_Lst, ↓z_Op2, ↓z_Tst, ↓z_Not, ↓z_Chain, ↓z_AndV, ↓z_OrV, ↓z_NotV, ↓z_And, ↓z_Or, ↓z_If, ↓z_Next, ↓z_Seq, ↓z_Break, ↓z_Cont, ↓z_Exp, ↓z_Ret, ↓z_RetN, ↓z_IfS, ↓z_Nm, ↓z_Tp, ↓z_GN, ↓z_GC, ↓z_Asg, ↓z_ONil, ↓z_OCons, ↓z_SetIx, ↓z_Call, ↓z_Sq, ↓z_Rev, ↓z_For, ↓z_Wh, ↓z_Lc, ↓z_Lc2, ↓z_All, ↓z_All2, ↓z_Yes, ↓z_CB, ↓z_Isi, ↓z_Neg, ↓z_NoP, ↓z_Prt, ↓z_Sl, ↓z_App, ↓z_Pop, ↓z_VK, ↓z_VKs, ↓z_Eq, ↓z_InL, ↓z_InK, ↓z_InT, ↓z_In1, ↓z_In2, ↓z_In3, ↓z_In4, ↓z_IxS, ↓z_Ix1, ↓z_Ix2, ↓z_Ix3, ↓z_Ix4, ↓z_Ix5, ↓z_put1, ↓z_put2, ↓z_put3, ↓z_Len, ↓z_TupC, ↓z_LstC, ↓z_Repr, ↓z_NewD, ↓z_DisK, ↓z_DisT, ↓z_Get1, ↓z_Get2, ↓z_get2K, ↓z_get2T, ↓z_fin, ↓z_Rng1, ↓z_Rng2, ↓rng1F_i, ↓rng2F_i, ↓z_Enm, ↓z_EnmA, ↓enmAF_l, ↓enmAF_t, ↓enmF_l, ↓z_Zip, ↓zipF_l, ↓zipF_t, ↓z_Par, ↓parF_r, ↓z_Par3, ↓par3F_r, ↓z_Never, ↓z_NevE, ↓z_getK, ↓z_getT, ↓z_AddI, ↓z_AddT, ↓z_AddO, ↓z_AddS, ↓z_MulI, ↓z_MulT, ↓z_LtI, ↓z_LtT, ↓z_IsN, ↓z_IntI, ↓z_SlT, ↓z_SlL, ↓z_SlO, ↓z_SlS, ↓z_Sub, ↓z_Mod, ↓z_Div, ↓z_Pow, ↓z_Le, ↓z_Gt, ↓z_Ge, ↓z_II, ↓varF_v, ↓varF_l, ↓mvF_o, ↓mvF_v, ↓mvF_s, ndF_some, ifB_t, ifB_f, con, sl, frzS, isB, tuO_t, daO, sqO_l, sqO_t, sqO_o, sqO_s, lsO, lenO_K, lenO_T, lenO_o, lenO_l, lenO_t, lenO_s, ngO, consO, argO, varsO, wrB, untag, owL, tyS, tyD_n, tyD_b, tyD_i, tyD_s, tyD_l, tyD_t, tyD_d, entryE, tagA, backA, wipeE, backE, keepS, seqD_l, seqD_t, seqV_l, seqV_t, liD_l, kyS, ksS, keyD_i, keyD_s, keysD, ixS, tupD_t, isDic, isT, eq_self, isNone_n, isNone_i, isNone_t, isNone_l, isNone_b, isNone_s, isNone_o, need_some, atI_0, atI_1, atI_2, atI_3, ixN_30, ixN_31, ixN_32, eqv_int, eqv_str, Int.toNat_natCast, List.getElem?_cons_zero, List.getElem?_cons_succ, List.getElem?_nil, List.set_cons_zero, List.set_cons_succ, List.length_cons, List.length_nil, Option.join_some, Option.join_none, List.replicate_succ, List.replicate_zero, List.cons_append, List.nil_append, Option.map_some, Nat.zero_add, Nat.reduceAdd, Nat.reduceSub, Bool.not_true, Bool.not_false, if_true, if_false, Bool.false_eq_true, true_and, and_true, decide_true, decide_false, Nat.reduceLeDiff, Nat.reduceEqDiff, reduceIte, reduceCtorEq, Bool.or_false, Bool.or_true, Bool.and_true, Bool.and_false, Bool.true_and, Bool.false_and, Bool.true_or, Bool.false_or, List.map_cons, List.map_nil, List.nodup_cons, List.nodup_nil, List.mem_cons, List.not_mem_nil, not_false_eq_true, or_false, false_or, seqV_S, seqV_R]
      have h2 := h2 x y rfl
      refine brB (fun q => ?_) fun q => ?_
      · simp -dsimp only [↓z_K, ↓z_VarO, ↓z_Var, ↓z_Move, ↓z_Of, ↓z_Fz, ↓z_Res, ↓z_VNil, ↓z_VCons, ↓z_Tup, ↓z_Lst, ↓z_Op2, ↓z_Tst, ↓z_Not, ↓z_Chain, ↓z_AndV, ↓z_OrV, ↓z_NotV, ↓z_And, ↓z_Or, ↓z_If, ↓z_Next, ↓z_Seq, ↓z_Break, ↓z_Cont, ↓z_Exp, ↓z_Ret, ↓z_RetN, ↓z_IfS, ↓z_Nm, ↓z_Tp, ↓z_GN, ↓z_GC, ↓z_Asg, ↓z_ONil, ↓z_OCons, ↓z_SetIx, ↓z_Call, ↓z_Sq, ↓z_Rev, ↓z_For, ↓z_Wh, ↓z_Lc, ↓z_Lc2, ↓z_All, ↓z_All2, ↓z_Yes, ↓z_CB, ↓z_Isi, ↓z_Neg, ↓z_NoP, ↓z_Prt, ↓z_Sl, ↓z_App, ↓z_Pop, ↓z_VK, ↓z_VKs, ↓z_Eq, ↓z_InL, ↓z_InK, ↓z_InT, ↓z_In1, ↓z_In2, ↓z_In3, ↓z_In4, ↓z_IxS, ↓z_Ix1, ↓z_Ix2, ↓z_Ix3, ↓z_Ix4, ↓z_Ix5, ↓z_put1, ↓z_put2, ↓z_put3, ↓z_Len, ↓z_TupC, ↓z_LstC, ↓z_Repr, ↓z_NewD, ↓z_DisK, ↓z_DisT, ↓z_Get1, ↓z_Get2, ↓z_get2K, ↓z_get2T, ↓z_fin, ↓z_Rng1, ↓z_Rng2, ↓rng1F_i, ↓rng2F_i, ↓z_Enm, ↓z_EnmA, ↓enmAF_l, ↓enmAF_t, ↓enmF_l, ↓z_Zip, ↓zipF_l, ↓zipF_t, ↓z_Par, ↓parF_r, ↓z_Par3, ↓par3F_r, ↓z_Never, ↓z_NevE, ↓z_getK, ↓z_getT, ↓z_AddI, ↓z_AddT, ↓z_AddO, ↓z_AddS, ↓z_MulI, ↓z_MulT, ↓z_LtI, ↓z_LtT, ↓z_IsN, ↓z_IntI, ↓z_SlT, ↓z_SlL, ↓z_SlO, ↓z_SlS, ↓z_Sub, ↓z_Mod, ↓z_Div, ↓z_Pow, ↓z_Le, ↓z_Gt, ↓z_Ge, ↓z_II, ↓varF_v, ↓varF_l, ↓mvF_o, ↓mvF_v, ↓mvF_s, ndF_some, ifB_t, ifB_f, con, sl, frzS, isB, tuO_t, daO, sqO_l, sqO_t, sqO_o, sqO_s, lsO, lenO_K, lenO_T, lenO_o, lenO_l, lenO_t, lenO_s, ngO, consO, argO, varsO, wrB, untag, owL, tyS, tyD_n, tyD_b, tyD_i, tyD_s, tyD_l, tyD_t, tyD_d, entryE, tagA, backA, wipeE, backE, keepS, seqD_l, seqD_t, seqV_l, seqV_t, liD_l, kyS, ksS, keyD_i, keyD_s, keysD, ixS, tupD_t, isDic, isT, eq_self, isNone_n, isNone_i, isNone_t, isNone_l, isNone_b, isNone_s, isNone_o, need_some, atI_0, atI_1, atI_2, atI_3, ixN_30, ixN_31, ixN_32, eqv_int, eqv_str, Int.toNat_natCast, List.getElem?_cons_zero, List.getElem?_cons_succ, List.getElem?_nil, List.set_cons_zero, List.set_cons_succ, List.length_cons, List.length_nil, Option.join_some, Option.join_none, List.replicate_succ, List.replicate_zero, List.cons_append, List.nil_append, Option.map_some, Nat.zero_add, Nat.reduceAdd, Nat.reduceSub, Bool.not_true, Bool.not_false, if_true, if_false, Bool.false_eq_true, true_and, and_true, decide_true, decide_false, Nat.reduceLeDiff, Nat.reduceEqDiff, reduceIte, reduceCtorEq, Bool.or_false, Bool.or_true, Bool.and_true, Bool.and_false, Bool.true_and, Bool.false_and, Bool.true_or, Bool.false_or, List.map_cons, List.map_nil, List.nodup_cons, List.nodup_nil, List.mem_cons, List.not_mem_nil, not_false_eq_true, or_false, false_or, seqV_S, seqV_R]
        refine sp_within ?_
        simp -dsimp only [↓z_K, ↓z_VarO, ↓z_Var, ↓z_Move, ↓z_Of, ↓z_Fz, ↓z_Res, ↓z_VNil, ↓z_VCons, ↓z_Tup, ↓z_Lst, ↓z_Op2, ↓z_Tst, ↓z_Not, ↓z_Chain, ↓z_AndV, ↓z_OrV, ↓z_NotV, ↓z_And, ↓z_Or, ↓z_If, ↓z_Next, ↓z_Seq, ↓z_Break, ↓z_Cont, ↓z_Exp, ↓z_Ret, ↓z_RetN, ↓z_IfS, ↓z_Nm, ↓z_Tp, ↓z_GN, ↓z_GC, ↓z_Asg, ↓z_ONil, ↓z_OCons, ↓z_SetIx, ↓z_Call, ↓z_Sq, ↓z_Rev, ↓z_For, ↓z_Wh, ↓z_Lc, ↓z_Lc2, ↓z_All, ↓z_All2, ↓z_Yes, ↓z_CB, ↓z_Isi, ↓z_Neg, ↓z_NoP, ↓z_Prt, ↓z_Sl, ↓z_App, ↓z_Pop, ↓z_VK, ↓z_VKs, ↓z_Eq, ↓z_InL, ↓z_InK, ↓z_InT, ↓z_In1, ↓z_In2, ↓z_In3, ↓z_In4, ↓z_IxS, ↓z_Ix1, ↓z_Ix2, ↓z_Ix3, ↓z_Ix4, ↓z_Ix5, ↓z_put1, ↓z_put2, ↓z_put3, ↓z_Len, ↓z_TupC, ↓z_LstC, ↓z_Repr, ↓z_NewD, ↓z_DisK, ↓z_DisT, ↓z_Get1, ↓z_Get2, ↓z_get2K, ↓z_get2T, ↓z_fin, ↓z_Rng1, ↓z_Rng2, ↓rng1F_i, ↓rng2F_i, ↓z_Enm, ↓z_EnmA, ↓enmAF_l, ↓enmAF_t, ↓enmF_l, ↓z_Zip, ↓zipF_l, ↓zipF_t, ↓z_Par, ↓parF_r, ↓z_Par3, ↓par3F_r, ↓z_Never, ↓z_NevE, ↓z_getK, ↓z_getT, ↓z_AddI, ↓z_AddT, ↓z_AddO, ↓z_AddS, ↓z_MulI, ↓z_MulT, ↓z_LtI, ↓z_LtT, ↓z_IsN, ↓z_IntI, ↓z_SlT, ↓z_SlL, ↓z_SlO, ↓z_SlS, ↓z_Sub, ↓z_Mod, ↓z_Div, ↓z_Pow, ↓z_Le, ↓z_Gt, ↓z_Ge, ↓z_II, ↓varF_v, ↓varF_l, ↓mvF_o, ↓mvF_v, ↓mvF_s, ndF_some, ifB_t, ifB_f, con, sl, frzS, isB, tuO_t, daO, sqO_l, sqO_t, sqO_o, sqO_s, lsO, lenO_K, lenO_T, lenO_o, lenO_l, lenO_t, lenO_s, ngO, consO, argO, varsO, wrB, untag, owL, tyS, tyD_n, tyD_b, tyD_i, tyD_s, tyD_l, tyD_t, tyD_d, entryE, tagA, backA, wipeE, backE, keepS, seqD_l, seqD_t, seqV_l, seqV_t, liD_l, kyS, ksS, keyD_i, keyD_s, keysD, ixS, tupD_t, isDic, isT, eq_self, isNone_n, isNone_i, isNone_t, isNone_l, isNone_b, isNone_s, isNone_o, need_some, atI_0, atI_1, atI_2, atI_3, ixN_30, ixN_31, ixN_32, eqv_int, eqv_str, Int.toNat_natCast, List.getElem?_cons_zero, List.getElem?_cons_succ, List.getElem?_nil, List.set_cons_zero, List.set_cons_succ, List.length_cons, List.length_nil, Option.join_some, Option.join_none, List.replicate_succ, List.replicate_zero, List.cons_append, List.nil_append, Option.map_some, Nat.zero_add, Nat.reduceAdd, Nat.reduceSub, Bool.not_true, Bool.not_false, if_true, if_false, Bool.false_eq_true, true_and, and_true, decide_true, decide_false, Nat.reduceLeDiff, Nat.reduceEqDiff, reduceIte, reduceCtorEq, Bool.or_false, Bool.or_true, Bool.and_true, Bool.and_false, Bool.true_and, Bool.false_and, Bool.true_or, Bool.false_or, List.map_cons, List.map_nil, List.nodup_cons, List.nodup_nil, List.mem_cons, List.not_mem_nil, not_false_eq_true, or_false, false_or, seqV_S, seqV_R]
        rw [q, Bool.true_and] at h2
        exact h2
      · simp -dsimp only [↓z_K, ↓z_VarO, ↓z_Var, ↓z_Move, ↓z_Of, ↓z_Fz, ↓z_Res, ↓z_VNil, ↓z_VCons, ↓z_Tup, ↓z_Lst, ↓z_Op2, ↓z_Tst, ↓z_Not, ↓z_Chain, ↓z_AndV, ↓z_OrV, ↓z_NotV, ↓z_And, ↓z_Or, ↓z_If, ↓z_Next, ↓z_Seq, ↓z_Break, ↓z_Cont, ↓z_Exp, ↓z_Ret, ↓z_RetN, ↓z_IfS, ↓z_Nm, ↓z_Tp, ↓z_GN, ↓z_GC, ↓z_Asg, ↓z_ONil, ↓z_OCons, ↓z_SetIx, ↓z_Call, ↓z_Sq, ↓z_Rev, ↓z_For, ↓z_Wh, ↓z_Lc, ↓z_Lc2, ↓z_All, ↓z_All2, ↓z_Yes, ↓z_CB, ↓z_Isi, ↓z_Neg, ↓z_NoP, ↓z_Prt, ↓z_Sl, ↓z_App, ↓z_Pop, ↓z_VK, ↓z_VKs, ↓z_Eq, ↓z_InL, ↓z_InK, ↓z_InT, ↓z_In1, ↓z_In2, ↓z_In3, ↓z_In4, ↓z_IxS, ↓z_Ix1, ↓z_Ix2, ↓z_Ix3, ↓z_Ix4, ↓z_Ix5, ↓z_put1, ↓z_put2, ↓z_put3, ↓z_Len, ↓z_TupC, ↓z_LstC, ↓z_Repr, ↓z_NewD, ↓z_DisK, ↓z_DisT, ↓z_Get1, ↓z_Get2, ↓z_get2K, ↓z_get2T, ↓z_fin, ↓z_Rng1, ↓z_Rng2, ↓rng1F_i, ↓rng2F_i, ↓z_Enm, ↓z_EnmA, ↓enmAF_l, ↓enmAF_t, ↓enmF_l, ↓z_Zip, ↓zipF_l, ↓zipF_t, ↓z_Par, ↓parF_r, ↓z_Par3, ↓par3F_r, ↓z_Never, ↓z_NevE, ↓z_getK, ↓z_getT, ↓z_AddI, ↓z_AddT, ↓z_AddO, ↓z_AddS, ↓z_MulI, ↓z_MulT, ↓z_LtI, ↓z_LtT, ↓z_IsN, ↓z_IntI, ↓z_SlT, ↓z_SlL, ↓z_SlO, ↓z_SlS, ↓z_Sub, ↓z_Mod, ↓z_Div, ↓z_Pow, ↓z_Le, ↓z_Gt, ↓z_Ge, ↓z_II, ↓varF_v, ↓varF_l, ↓mvF_o, ↓mvF_v, ↓mvF_s, ndF_some, ifB_t, ifB_f, con, sl, frzS, isB, tuO_t, daO, sqO_l, sqO_t, sqO_o, sqO_s, lsO, lenO_K, lenO_T, lenO_o, lenO_l, lenO_t, lenO_s, ngO, consO, argO, varsO, wrB, untag, owL, tyS, tyD_n, tyD_b, tyD_i, tyD_s, tyD_l, tyD_t, tyD_d, entryE, tagA, backA, wipeE, backE, keepS, seqD_l, seqD_t, seqV_l, seqV_t, liD_l, kyS, ksS, keyD_i, keyD_s, keysD, ixS, tupD_t, isDic, isT, eq_self, isNone_n, isNone_i, isNone_t, isNone_l, isNone_b, isNone_s, isNone_o, need_some, atI_0, atI_1, atI_2, atI_3, ixN_30, ixN_31, ixN_32, eqv_int, eqv_str, Int.toNat_natCast, List.getElem?_cons_zero, List.getElem?_cons_succ, List.getElem?_nil, List.set_cons_zero, List.set_cons_succ, List.length_cons, List.length_nil, Option.join_some, Option.join_none, List.replicate_succ, List.replicate_zero, List.cons_append, List.nil_append, Option.map_some, Nat.zero_add, Nat.reduceAdd, Nat.reduceSub, Bool.not_true, Bool.not_false, if_true, if_false, Bool.false_eq_true, true_and, and_true, decide_true, decide_false, Nat.reduceLeDiff, Nat.reduceEqDiff, reduceIte, reduceCtorEq, Bool.or_false, Bool.or_true, Bool.and_true, Bool.and_false, Bool.true_and, Bool.false_and, Bool.true_or, Bool.false_or, List.map_cons, List.map_nil, List.nodup_cons, List.nodup_nil, List.mem_cons, List.not_mem_nil, not_false_eq_true, or_false, false_or, seqV_S, seqV_R]
        rw [q, Bool.false_and] at h2
        exact h2
    · simp -dsimp only [↓z_K, ↓z_VarO, ↓z_Var, ↓z_Move, ↓z_Of, ↓z_Fz, ↓z_Res, ↓z_VNil, ↓z_VCons, ↓z_Tup, ↓z_Lst, ↓z_Op2, ↓z_Tst, ↓z_Not, ↓z_Chain, ↓z_AndV, ↓z_OrV, ↓z_NotV, ↓z_And, ↓z_Or, ↓z_If, ↓z_Next, ↓z_Seq, ↓z_Break, ↓z_Cont, ↓z_Exp, ↓z_Ret, ↓z_RetN, ↓z_IfS, ↓z_Nm, ↓z_Tp, ↓z_GN, ↓z_GC, ↓z_Asg, ↓z_ONil, ↓z_OCons, ↓z_SetIx, ↓z_Call, ↓z_Sq, ↓z_Rev, ↓z_For, ↓z_Wh, ↓z_Lc, ↓z_Lc2, ↓z_All, ↓z_All2, ↓z_Yes, ↓z_CB, ↓z_Isi, ↓z_Neg, ↓z_NoP, ↓z_Prt, ↓z_Sl, ↓z_App, ↓z_Pop, ↓z_VK, ↓z_VKs, ↓z_Eq, ↓z_InL, ↓z_InK, ↓z_InT, ↓z_In1, ↓z_In2, ↓z_In3, ↓z_In4, ↓z_IxS, ↓z_Ix1, ↓z_Ix2, ↓z_Ix3, ↓z_Ix4, ↓z_Ix5, ↓z_put1, ↓z_put2, ↓z_put3, ↓z_Len, ↓z_TupC, ↓z_LstC, ↓z_Repr, ↓z_NewD, ↓z_DisK, ↓z_DisT, ↓z_Get1, ↓z_Get2, ↓z_get2K, ↓z_get2T, ↓z_fin, ↓z_Rng1, ↓z_Rng2, ↓rng1F_i, ↓rng2F_i, ↓z_Enm, ↓z_EnmA, ↓enmAF_l, ↓enmAF_t, ↓enmF_l, ↓z_Zip, ↓zipF_l, ↓zipF_t, ↓z_Par, ↓parF_r, ↓z_Par3, ↓par3F_r, ↓z_Never, ↓z_NevE, ↓z_getK, ↓z_getT, ↓z_AddI, ↓z_AddT, ↓z_AddO, ↓z_AddS, ↓z_MulI, ↓z_MulT, ↓z_LtI, ↓z_LtT, ↓z_IsN, ↓z_IntI, ↓z_SlT, ↓z_SlL, ↓z_SlO, ↓z_SlS, ↓z_Sub, ↓z_Mod, ↓z_Div, ↓z_Pow, ↓z_Le, ↓z_Gt, ↓z_Ge, ↓z_II, ↓varF_v, ↓varF_l, ↓mvF_o, ↓mvF_v, ↓mvF_s, ndF_some, ifB_t, ifB_f, con, sl, frzS, isB, tuO_t, daO, sqO_l, sqO_t, sqO_o, sqO_s, lsO, lenO_K, lenO_T, lenO_o, lenO_l, lenO_t, lenO_s, ngO, consO, argO, varsO, wrB, untag, owL, tyS, tyD_n, tyD_b, tyD_i, tyD_s, tyD_l, tyD_t, tyD_d, entryE, tagA, backA, wipeE, backE, keepS, seqD_l, seqD_t, seqV_l, seqV_t, liD_l, kyS, ksS, keyD_i, keyD_s, keysD, ixS, tupD_t, isDic, isT, eq_self, isNone_n, isNone_i, isNone_t, isNone_l, isNone_b, isNone_s, isNone_o, need_some, atI_0, atI_1, atI_2, atI_3, ixN_30, ixN_31, ixN_32, eqv_int, eqv_str, Int.toNat_natCast, List.getElem?_cons_zero, List.getElem?_cons_succ, List.getElem?_nil, List.set_cons_zero, List.set_cons_succ, List.length_cons, List.length_nil, Option.join_some, Option.join_none, List.replicate_succ, List.replicate_zero, List.cons_append, List.nil_append, Option.map_some, Nat.zero_add, Nat.reduceAdd, Nat.reduceSub, Bool.not_true, Bool.not_false, if_true, if_false, Bool.false_eq_true, true_and, and_true, decide_true, decide_false, Nat.reduceLeDiff, Nat.reduceEqDiff, reduceIte, reduceCtorEq, Bool.or_false, Bool.or_true, Bool.and_true, Bool.and_false, Bool.true_and, Bool.false_and, Bool.true_or, Bool.false_or, List.map_cons, List.map_nil, List.nodup_cons, List.nodup_nil, List.mem_cons, List.not_mem_nil, not_false_eq_true, or_false, false_or, seqV_S, seqV_R]
      exact h1 q
  cases d with
  | none => simp -dsimp only [↓z_K, ↓z_VarO, ↓z_Var, ↓z_Move, ↓z_Of, ↓z_Fz, ↓z_Res, ↓z_VNil, ↓z_VCons, ↓z_Tup, ↓z_Lst, ↓z_Op2, ↓z_Tst, ↓z_Not, ↓z_Chain, ↓z_AndV, ↓z_OrV, ↓z_NotV, ↓z_And, ↓z_Or, ↓z_If, ↓z_Next, ↓z_Seq, ↓z_Break, ↓z_Cont, ↓z_Exp, ↓z_Ret, ↓z_RetN, ↓z_IfS, ↓z_Nm, ↓z_Tp, ↓z_GN, ↓z_GC, ↓z_Asg, ↓z_ONil, ↓z_OCons, ↓z_SetIx, ↓z_Call, ↓z_Sq, ↓z_Rev, ↓z_For, ↓z_Wh, ↓z_Lc, ↓z_Lc2, ↓z_All, ↓z_All2, ↓z_Yes, ↓z_CB, ↓z_Isi, ↓z_Neg, ↓z_NoP, ↓z_Prt, ↓z_Sl, ↓z_App, ↓z_Pop, ↓z_VK, ↓z_VKs, ↓z_Eq, ↓z_InL, ↓z_InK, ↓z_InT, ↓z_In1, ↓z_In2, ↓z_In3, ↓z_In4, ↓z_IxS, ↓z_Ix1, ↓z_Ix2, ↓z_Ix3, ↓z_Ix4, ↓z_Ix5, ↓z_put1, ↓z_put2, ↓z_put3, ↓z_Len, ↓z_TupC, ↓z_LstC, ↓z_Repr, ↓z_NewD, ↓z_DisK, ↓z_DisT, ↓z_Get1, ↓z_Get2, ↓z_get2K, ↓z_get2T, ↓z_fin, ↓z_Rng1, ↓z_Rng2, ↓rng1F_i, ↓rng2F_i, ↓z_Enm, ↓z_EnmA, ↓enmAF_l, ↓enmAF_t, ↓enmF_l, ↓z_Zip, ↓zipF_l, ↓zipF_t, ↓z_Par, ↓parF_r, ↓z_Par3, ↓par3F_r, ↓z_Never, ↓z_NevE, ↓z_getK, ↓z_getT, ↓z_AddI, ↓z_AddT, ↓z_AddO, ↓z_AddS, ↓z_MulI, ↓z_MulT, ↓z_LtI, ↓z_LtT, ↓z_IsN, ↓z_IntI, ↓z_SlT, ↓z_SlL, ↓z_SlO, ↓z_SlS, ↓z_Sub, ↓z_Mod, ↓z_Div, ↓z_Pow, ↓z_Le, ↓z_Gt, ↓z_Ge, ↓z_II, ↓varF_v, ↓varF_l, ↓mvF_o, ↓mvF_v, ↓mvF_s, ndF_some, ifB_t, ifB_f, con, sl, frzS, isB, tuO_t, daO, sqO_l, sqO_t, sqO_o, sqO_s, lsO, lenO_K, lenO_T, lenO_o, lenO_l, lenO_t, lenO_s, ngO, consO, argO, varsO, wrB, untag, owL, tyS, tyD_n, tyD_b, tyD_i, tyD_s, tyD_l, tyD_t, tyD_d, entryE, tagA, backA, wipeE, backE, keepS, seqD_l, seqD_t, seqV_l, seqV_t, liD_l, kyS, ksS, keyD_i, keyD_s, keysD, ixS, tupD_t, isDic, isT, eq_self, isNone_n, isNone_i, isNone_t, isNone_l, isNone_b, isNone_s, isNone_o, need_some, atI_0, atI_1, atI_2, atI_3, ixN_30, ixN_31, ixN_32, eqv_int, eqv_str, Int.toNat_natCast, List.getElem?_cons_zero, List.getElem?_cons_succ, List.getElem?_nil, List.set_cons_zero, List.set_cons_succ, List.length_cons, List.length_nil, Option.join_some, Option.join_none, List.replicate_succ, List.replicate_zero, List.cons_append, List.nil_append, Option.map_some, Nat.zero_add, Nat.reduceAdd, Nat.reduceSub, Bool.not_true, Bool.not_false, if_true, if_false, Bool.false_eq_true, true_and, and_true, decide_true, decide_false, Nat.reduceLeDiff, Nat.reduceEqDiff, reduceIte, reduceCtorEq, Bool.or_false, Bool.or_true, Bool.and_true, Bool.and_false, Bool.true_and, Bool.false_and, Bool.true_or, Bool.false_or, List.map_cons, List.map_nil, List.nodup_cons, List.nodup_nil, List.mem_cons, List.not_mem_nil, not_false_eq_true, or_false, false_or, seqV_S, seqV_R]; exact h
  | tuple xs =>
    refine no _ (by simp) (fun q => ?_) fun x y e => ?_
    · have e : entB A n (.tuple xs) = false := by
        match xs, q with
        | [x, y], q => simp [tupB] at q
        | [], _ => rfl
        | [_], _ => rfl
        | _ :: _ :: _ :: _, _ => rfl
      rw [e] at h
      exact h
    · cases e
      exact h
  | _ => exact no _ (by simp) (fun _ => h) fun x y e => by cases e
def rowsB (L A : Int) (rs : List D) : Bool := rs.all (rowB L A rs.length)
theorem all_take {α : Type} {p : α → Bool} {xs : List α} {i : Nat} {x : α} (hx : xs[i]? = some x) (h : (xs.take i).all p = true) : (xs.take (i + 1)).all p = p x := by
  rw [List.take_add_one, hx]
  simp only [Option.toList_some, List.all_append, h, List.all_cons, List.all_nil, Bool.and_true, Bool.true_and]
theorem all_false {α : Type} {p : α → Bool} {xs : List α} {i : Nat} {x : α} (hx : xs[i]? = some x) (h : p x = false) : xs.all p = false := by
  rw [List.all_eq_false]
  exact ⟨x, List.mem_of_getElem? hx, by rw [h]; simp⟩
theorem sp_are_rows {L A : Int} {rs : List D} {Q : Slot → List Slot → Prop} {X : Value → Prop} (h : Q (.val (.bool (rowsB L A rs))) [.val (.tuple rs), .val (.int L), .val (.int A)]) :
    fs_are_rows [.val (.tuple rs), .val (.int L), .val (.int A)] Q X := by
  refine ⟨rfl, ?_⟩
  unfold w_are_rows
  simp -dsimp only [↓z_K, ↓z_VarO, ↓z_Var, ↓z_Move, ↓z_Of, ↓z_Fz, ↓z_Res, ↓z_VNil, ↓z_VCons, ↓z_Tup, ↓z_Lst, ↓z_Op2, ↓z_Tst, ↓z_Not, ↓z_Chain, ↓z_AndV, ↓z_OrV, ↓z_NotV, ↓z_And, ↓z_Or, ↓z_If, ↓z_Next, ↓z_Seq, ↓z_Break, ↓z_Cont, ↓z_Exp, ↓z_Ret, ↓z_RetN, ↓z_IfS, ↓z_Nm, ↓z_Tp, ↓z_GN, ↓z_GC, ↓z_Asg, ↓z_ONil, ↓z_OCons, ↓z_SetIx, ↓z_Call, ↓z_Sq, ↓z_Rev, ↓z_For, ↓z_Wh, ↓z_Lc, ↓z_Lc2, ↓z_All, ↓z_All2, ↓z_Yes, ↓z_CB, ↓z_Isi, ↓z_Neg, ↓z_NoP, ↓z_Prt, ↓z_Sl, ↓z_App, ↓z_Pop, ↓z_VK, ↓z_VKs, ↓z_Eq, ↓z_InL, ↓z_InK, ↓z_InT, ↓z_In1, ↓z_In2, ↓z_In3, ↓z_In4, ↓z_IxS, ↓z_Ix1, ↓z_Ix2, ↓z_Ix3, ↓z_Ix4, ↓z_Ix5, ↓z_put1, ↓z_put2, ↓z_put3, ↓z_Len, ↓z_TupC, ↓z_LstC, ↓z_Repr, ↓z_NewD, ↓z_DisK, ↓z_DisT, ↓z_Get1, ↓z_Get2, ↓z_get2K, ↓z_get2T, ↓z_fin, ↓z_Rng1, ↓z_Rng2, ↓rng1F_i, ↓rng2F_i, ↓z_Enm, ↓z_EnmA, ↓enmAF_l, ↓enmAF_t, ↓enmF_l, ↓z_Zip, ↓zipF_l, ↓zipF_t, ↓z_Par, ↓parF_r, ↓z_Par3, ↓par3F_r, ↓z_Never, ↓z_NevE, ↓z_getK, ↓z_getT, ↓z_AddI, ↓z_AddT, ↓z_AddO, ↓z_AddS, ↓z_MulI, ↓z_MulT, ↓z_LtI, ↓z_LtT, ↓z_IsN, ↓z_IntI, ↓z_SlT, ↓z_SlL, ↓z_SlO, ↓z_SlS, ↓z_Sub, ↓z_Mod, ↓z_Div, ↓z_Pow, ↓z_Le, ↓z_Gt, ↓z_Ge, ↓z_II, ↓varF_v, ↓varF_l, ↓mvF_o, ↓mvF_v, ↓mvF_s, ndF_some, ifB_t, ifB_f, con, sl, frzS, isB, tuO_t, daO, sqO_l, sqO_t, sqO_o, sqO_s, lsO, lenO_K, lenO_T, lenO_o, lenO_l, lenO_t, lenO_s, ngO, consO, argO, varsO, wrB, untag, owL, tyS, tyD_n, tyD_b, tyD_i, tyD_s, tyD_l, tyD_t, tyD_d, entryE, tagA, backA, wipeE, backE, keepS, seqD_l, seqD_t, seqV_l, seqV_t, liD_l, kyS, ksS, keyD_i, keyD_s, keysD, ixS, tupD_t, isDic, isT, eq_self, isNone_n, isNone_i, isNone_t, isNone_l, isNone_b, isNone_s, isNone_o, need_some, atI_0, atI_1, atI_2, atI_3, ixN_30, ixN_31, ixN_32, eqv_int, eqv_str, Int.toNat_natCast, List.getElem?_cons_zero, List.getElem?_cons_succ, List.getElem?_nil, List.set_cons_zero, List.set_cons_succ, List.length_cons, List.length_nil, Option.join_some, Option.join_none, List.replicate_succ, List.replicate_zero, List.cons_append, List.nil_append, Option.map_some, Nat.zero_add, Nat.reduceAdd, Nat.reduceSub, Bool.not_true, Bool.not_false, if_true, if_false, Bool.false_eq_true, true_and, and_true, decide_true, decide_false, Nat.reduceLeDiff, Nat.reduceEqDiff, reduceIte, reduceCtorEq, Bool.or_false, Bool.or_true, Bool.and_true, Bool.and_false, Bool.true_and, Bool.false_and, Bool.true_or, Bool.false_or, List.map_cons, List.map_nil, List.nodup_cons, List.nodup_nil, List.mem_cons, List.not_mem_nil, not_false_eq_true, or_false, false_or, seqV_S, seqV_R]
  refine for_inv (fun i e => ∃ x3 x4, e = [some (.val (.tuple rs)), some (.val (.int L)), some (.val (.int A)), x3, x4] ∧ (rs.take i).all (rowB L A rs.length) = true) ⟨_, _, rfl, by simp⟩ ?_ ?_
  · rintro i d e N hd ⟨x3, x4, rfl, ha⟩ hN
    have bad : rowB L A rs.length d = false → Q (.val (.bool false)) [.val (.tuple rs), .val (.int L), .val (.int A)] := fun q => by
      rw [rowsB, all_false hd q] at h
      exact h
    unfold w_are_rows_b1
    simp -dsimp only [↓z_K, ↓z_VarO, ↓z_Var, ↓z_Move, ↓z_Of, ↓z_Fz, ↓z_Res, ↓z_VNil, ↓z_VCons, ↓z_Tup, ↓z_Lst, ↓z_Op2, ↓z_Tst, ↓z_Not, ↓z_Chain, ↓z_AndV, ↓z_OrV, ↓z_NotV, ↓z_And, ↓z_Or, ↓z_If, ↓z_Next, ↓z_Seq, ↓z_Break, ↓z_Cont, ↓z_Exp, ↓z_Ret, ↓z_RetN, ↓z_IfS, ↓z_Nm, ↓z_Tp, ↓z_GN, ↓z_GC, ↓z_Asg, ↓z_ONil, ↓z_OCons, ↓z_SetIx, ↓z_Call, ↓z_Sq, ↓z_Rev, ↓z_For, ↓z_Wh, ↓z_Lc, ↓z_Lc2, ↓z_All, ↓z_All2, ↓z_Yes, ↓z_CB, ↓z_Isi, ↓z_Neg, ↓z_NoP, ↓z_Prt, ↓z_Sl, ↓z_App, ↓z_Pop, ↓z_VK, ↓z_VKs, ↓z_Eq, ↓z_InL, ↓z_InK, ↓z_InT, ↓z_In1, ↓z_In2, ↓z_In3, ↓z_In4, ↓z_IxS, ↓z_Ix1, ↓z_Ix2, ↓z_Ix3, ↓z_Ix4, ↓z_Ix5, ↓z_put1, ↓z_put2, ↓z_put3, ↓z_Len, ↓z_TupC, ↓z_LstC, ↓z_Repr, ↓z_NewD, ↓z_DisK, ↓z_DisT, ↓z_Get1, ↓z_Get2, ↓z_get2K, ↓z_get2T, ↓z_fin, ↓z_Rng1, ↓z_Rng2, ↓rng1F_i, ↓rng2F_i, ↓z_Enm, ↓z_EnmA, ↓enmAF_l, ↓enmAF_t, ↓enmF_l, ↓z_Zip, ↓zipF_l, ↓zipF_t, ↓z_Par, ↓parF_r, ↓z_Par3, ↓par3F_r, ↓z_Never, ↓z_NevE, ↓z_getK, ↓z_getT, ↓z_AddI, ↓z_AddT, ↓z_AddO, ↓z_AddS, ↓z_MulI, ↓z_MulT, ↓z_LtI, ↓z_LtT, ↓z_IsN, ↓z_IntI, ↓z_SlT, ↓z_SlL, ↓z_SlO, ↓z_SlS, ↓z_Sub, ↓z_Mod, ↓z_Div, ↓z_Pow, ↓z_Le, ↓z_Gt, ↓z_Ge, ↓z_II, ↓varF_v, ↓varF_l, ↓mvF_o, ↓mvF_v, ↓mvF_s, ndF_some, ifB_t, ifB_f, con, sl, frzS, isB, tuO_t, daO, sqO_l, sqO_t, sqO_o, sqO_s, lsO, lenO_K, lenO_T, lenO_o, lenO_l, lenO_t, lenO_s, ngO, consO, argO, varsO, wrB, untag, owL, tyS, tyD_n, tyD_b, tyD_i, tyD_s, tyD_l, tyD_t, tyD_d, entryE, tagA, backA, wipeE, backE, keepS, seqD_l, seqD_t, seqV_l, seqV_t, liD_l, kyS, ksS, keyD_i, keyD_s, keysD, ixS, tupD_t, isDic, isT, eq_self, isNone_n, isNone_i, isNone_t, isNone_l, isNone_b, isNone_s, isNone_o, need_some, atI_0, atI_1, atI_2, atI_3, ixN_30, ixN_31, ixN_32, eqv_int, eqv_str, Int.toNat_natCast, List.getElem?_cons_zero, List.getElem?_cons_succ, List.getElem?_nil, List.set_cons_zero, List.set_cons_succ, List.length_cons, List.length_nil, Option.join_some, Option.join_none, List.replicate_succ, List.replicate_zero, List.cons_append, List.nil_append, Option.map_some, Nat.zero_add, Nat.reduceAdd, Nat.reduceSub, Bool.not_true, Bool.not_false, if_true, if_false, Bool.false_eq_true, true_and, and_true, decide_true, decide_false, Nat.reduceLeDiff, Nat.reduceEqDiff, reduceIte, reduceCtorEq, Bool.or_false, Bool.or_true, Bool.and_true, Bool.and_false, Bool.true_and, Bool.false_and, Bool.true_or, Bool.false_or, List.map_cons, List.map_nil, List.nodup_cons, List.nodup_nil, List.mem_cons, List.not_mem_nil, not_false_eq_true, or_false, false_or, seqV_S, seqV_R]
    refine sp_tuple_of ?_
    simp -dsimp only [↓z_K, ↓z_VarO, ↓z_Var, ↓z_Move, ↓z_Of, ↓z_Fz, ↓z_Res, ↓z_VNil, ↓z_VCons, ↓z_Tup, ↓z_Lst, ↓z_Op2, ↓z_Tst, ↓z_Not, ↓z_Chain, ↓z_AndV, ↓z_OrV, ↓z_NotV, ↓z_And, ↓z_Or, ↓z_If, ↓z_Next, ↓z_Seq, ↓z_Break, ↓z_Cont, ↓z_Exp, ↓z_Ret, ↓z_RetN, ↓z_IfS, ↓z_Nm, ↓z_Tp, ↓z_GN, ↓z_GC, ↓z_Asg, ↓z_ONil, ↓z_OCons, ↓z_SetIx, ↓z_Call, ↓z_Sq, ↓z_Rev, ↓z_For, ↓z_Wh, ↓z_Lc, ↓z_Lc2, ↓z_All, ↓z_All2, ↓z_Yes, ↓z_CB, ↓z_Isi, ↓z_Neg, ↓z_NoP, ↓z_Prt, ↓z_Sl, ↓z_App, ↓z_Pop, ↓z_VK, ↓z_VKs, ↓z_Eq, ↓z_InL, ↓z_InK, ↓z_InT, ↓z_In1, ↓z_In2, ↓z_In3, ↓z_In4, ↓z_IxS, ↓z_Ix1, ↓z_Ix2, ↓z_Ix3, ↓z_Ix4, ↓z_Ix5, ↓z_put1, ↓z_put2, ↓z_put3, ↓z_Len, ↓z_TupC, ↓z_LstC, ↓z_Repr, ↓z_NewD, ↓z_DisK, ↓z_DisT, ↓z_Get1, ↓z_Get2, ↓z_get2K, ↓z_get2T, ↓z_fin, ↓z_Rng1, ↓z_Rng2, ↓rng1F_i, ↓rng2F_i, ↓z_Enm, ↓z_EnmA, ↓enmAF_l, ↓enmAF_t, ↓enmF_l, ↓z_Zip, ↓zipF_l, ↓zipF_t, ↓z_Par, ↓parF_r, ↓z_Par3, ↓par3F_r, ↓z_Never, ↓z_NevE, ↓z_getK, ↓z_getT, ↓z_AddI, ↓z_AddT, ↓z_AddO, ↓z_AddS, ↓z_MulI, ↓z_MulT, ↓z_LtI, ↓z_LtT, ↓z_IsN, ↓z_IntI, ↓z_SlT, ↓z_SlL, ↓z_SlO, ↓z_SlS, ↓z_Sub, ↓z_Mod, ↓z_Div, ↓z_Pow, ↓z_Le, ↓z_Gt, ↓z_Ge, ↓z_II, ↓varF_v, ↓varF_l, ↓mvF_o, ↓mvF_v, ↓mvF_s, ndF_some, ifB_t, ifB_f, con, sl, frzS, isB, tuO_t, daO, sqO_l, sqO_t, sqO_o, sqO_s, lsO, lenO_K, lenO_T, lenO_o, lenO_l, lenO_t, lenO_s, ngO, consO, argO, varsO, wrB, untag, owL, tyS, tyD_n, tyD_b, tyD_i, tyD_s, tyD_l, tyD_t, tyD_d, entryE, tagA, backA, wipeE, backE, keepS, seqD_l, seqD_t, seqV_l, seqV_t, liD_l, kyS, ksS, keyD_i, keyD_s, keysD, ixS, tupD_t, isDic, isT, eq_self, isNone_n, isNone_i, isNone_t, isNone_l, isNone_b, isNone_s, isNone_o, need_some, atI_0, atI_1, atI_2, atI_3, ixN_30, ixN_31, ixN_32, eqv_int, eqv_str, Int.toNat_natCast, List.getElem?_cons_zero, List.getElem?_cons_succ, List.getElem?_nil, List.set_cons_zero, List.set_cons_succ, List.length_cons, List.length_nil, Option.join_some, Option.join_none, List.replicate_succ, List.replicate_zero, List.cons_append, List.nil_append, Option.map_some, Nat.zero_add, Nat.reduceAdd, Nat.reduceSub, Bool.not_true, Bool.not_false, if_true, if_false, Bool.false_eq_true, true_and, and_true, decide_true, decide_false, Nat.reduceLeDiff, Nat.reduceEqDiff, reduceIte, reduceCtorEq, Bool.or_false, Bool.or_true, Bool.and_true, Bool.and_false, Bool.true_and, Bool.false_and, Bool.true_or, Bool.false_or, List.map_cons, List.map_nil, List.nodup_cons, List.nodup_nil, List.mem_cons, List.not_mem_nil, not_false_eq_true, or_false, false_or, seqV_S, seqV_R]
    cases ht : tupB d L L with
    | false =>
      simp -dsimp only [↓z_K, ↓z_VarO, ↓z_Var, ↓z_Move, ↓z_Of, ↓z_Fz, ↓z_Res, ↓z_VNil, ↓z_VCons, ↓z_Tup, ↓z_Lst, ↓z_Op2, ↓z_Tst, ↓z_Not, ↓z_Chain, ↓z_AndV, ↓z_OrV, ↓z_NotV, ↓z_And, ↓z_Or, ↓z_If, ↓z_Next, ↓z_Seq, ↓z_Break, ↓z_Cont, ↓z_Exp, ↓z_Ret, ↓z_RetN, ↓z_IfS, ↓z_Nm, ↓z_Tp, ↓z_GN, ↓z_GC, ↓z_Asg, ↓z_ONil, ↓z_OCons, ↓z_SetIx, ↓z_Call, ↓z_Sq, ↓z_Rev, ↓z_For, ↓z_Wh, ↓z_Lc, ↓z_Lc2, ↓z_All, ↓z_All2, ↓z_Yes, ↓z_CB, ↓z_Isi, ↓z_Neg, ↓z_NoP, ↓z_Prt, ↓z_Sl, ↓z_App, ↓z_Pop, ↓z_VK, ↓z_VKs, ↓z_Eq, ↓z_InL, ↓z_InK, ↓z_InT, ↓z_In1, ↓z_In2, ↓z_In3, ↓z_In4, ↓z_IxS, ↓z_Ix1, ↓z_Ix2, ↓z_Ix3, ↓z_Ix4, ↓z_Ix5, ↓z_put1, ↓z_put2, ↓z_put3, ↓z_Len, ↓z_TupC, ↓z_LstC, ↓z_Repr, ↓z_NewD, ↓z_DisK, ↓z_DisT, ↓z_Get1, ↓z_Get2, ↓z_get2K, ↓z_get2T, ↓z_fin, ↓z_Rng1, ↓z_Rng2, ↓rng1F_i, ↓rng2F_i, ↓z_Enm, ↓z_EnmA, ↓enmAF_l, ↓enmAF_t, ↓enmF_l, ↓z_Zip, ↓zipF_l, ↓zipF_t, ↓z_Par, ↓parF_r, ↓z_Par3, ↓par3F_r, ↓z_Never, ↓z_NevE, ↓z_getK, ↓z_getT, ↓z_AddI, ↓z_AddT, ↓z_AddO, ↓z_AddS, ↓z_MulI, ↓z_MulT, ↓z_LtI, ↓z_LtT, ↓z_IsN, ↓z_IntI, ↓z_SlT, ↓z_SlL, ↓z_SlO, ↓z_SlS, ↓z_Sub, ↓z_Mod, ↓z_Div, ↓z_Pow, ↓z_Le, ↓z_Gt, ↓z_Ge, ↓z_II, ↓varF_v, ↓varF_l, ↓mvF_o, ↓mvF_v, ↓mvF_s, ndF_some, ifB_t, ifB_f, con, sl, frzS, isB, tuO_t, daO, sqO_l, sqO_t, sqO_o, sqO_s, lsO, lenO_K, lenO_T, lenO_o, lenO_l, lenO_t, lenO_s, ngO, consO, argO, varsO, wrB, untag, owL, tyS, tyD_n, tyD_b, tyD_i, tyD_s, tyD_l, tyD_t, tyD_d, entryE, tagA, backA, wipeE, backE, keepS, seqD_l, seqD_t, seqV_l, seqV_t, liD_l, kyS, ksS, keyD_i, keyD_s, keysD, ixS, tupD_t, isDic, isT, eq_self, isNone_n, isNone_i, isNone_t, isNone_l, isNone_b, isNone_s, isNone_o, need_some, atI_0, atI_1, atI_2, atI_3, ixN_30, ixN_31, ixN_32, eqv_int, eqv_str, Int.toNat_natCast, List.getElem?_cons_zero, List.getElem?_cons_succ, List.getElem?_nil, List.set_cons_zero, List.set_cons_succ, List.length_cons, List.length_nil, Option.join_some, Option.join_none, List.replicate_succ, List.replicate_zero, List.cons_append, List.nil_append, Option.map_some, Nat.zero_add, Nat.reduceAdd, Nat.reduceSub, Bool.not_true, Bool.not_false, if_true, if_false, Bool.false_eq_true, true_and, and_true, decide_true, decide_false, Nat.reduceLeDiff, Nat.reduceEqDiff, reduceIte, reduceCtorEq, Bool.or_false, Bool.or_true, Bool.and_true, Bool.and_false, Bool.true_and, Bool.false_and, Bool.true_or, Bool.false_or, List.map_cons, List.map_nil, List.nodup_cons, List.nodup_nil, List.mem_cons, List.not_mem_nil, not_false_eq_true, or_false, false_or, seqV_S, seqV_R]
      refine bad ?_
      cases d <;> first | rfl | (simp only [tupB] at ht; simp only [rowB, ht, Bool.false_and])
    | true =>
      cases d with
      | tuple es =>
        simp -dsimp only [↓z_K, ↓z_VarO, ↓z_Var, ↓z_Move, ↓z_Of, ↓z_Fz, ↓z_Res, ↓z_VNil, ↓z_VCons, ↓z_Tup, ↓z_Lst, ↓z_Op2, ↓z_Tst, ↓z_Not, ↓z_Chain, ↓z_AndV, ↓z_OrV, ↓z_NotV, ↓z_And, ↓z_Or, ↓z_If, ↓z_Next, ↓z_Seq, ↓z_Break, ↓z_Cont, ↓z_Exp, ↓z_Ret, ↓z_RetN, ↓z_IfS, ↓z_Nm, ↓z_Tp, ↓z_GN, ↓z_GC, ↓z_Asg, ↓z_ONil, ↓z_OCons, ↓z_SetIx, ↓z_Call, ↓z_Sq, ↓z_Rev, ↓z_For, ↓z_Wh, ↓z_Lc, ↓z_Lc2, ↓z_All, ↓z_All2, ↓z_Yes, ↓z_CB, ↓z_Isi, ↓z_Neg, ↓z_NoP, ↓z_Prt, ↓z_Sl, ↓z_App, ↓z_Pop, ↓z_VK, ↓z_VKs, ↓z_Eq, ↓z_InL, ↓z_InK, ↓z_InT, ↓z_In1, ↓z_In2, ↓z_In3, ↓z_In4, ↓z_IxS, ↓z_Ix1, ↓z_Ix2, ↓z_Ix3, ↓z_Ix4, ↓z_Ix5, ↓z_put1, ↓z_put2, ↓z_put3, ↓z_Len, ↓z_TupC, ↓z_LstC, ↓z_Repr, ↓z_NewD, ↓z_DisK, ↓z_DisT, ↓z_Get1, ↓z_Get2, ↓z_get2K, ↓z_get2T, ↓z_fin, ↓z_Rng1, ↓z_Rng2, ↓rng1F_i, ↓rng2F_i, ↓z_Enm, ↓z_EnmA, ↓enmAF_l, ↓enmAF_t, ↓enmF_l, ↓z_Zip, ↓zipF_l, ↓zipF_t, ↓z_Par, ↓parF_r, ↓z_Par3, ↓par3F_r, ↓z_Never, ↓z_NevE, ↓z_getK, ↓z_getT, ↓z_AddI, ↓z_AddT, ↓z_AddO, ↓z_AddS, ↓z_MulI, ↓z_MulT, ↓z_LtI, ↓z_LtT, ↓z_IsN, ↓z_IntI, ↓z_SlT, ↓z_SlL, ↓z_SlO, ↓z_SlS, ↓z_Sub, ↓z_Mod, ↓z_Div, ↓z_Pow, ↓z_Le, ↓z_Gt, ↓z_Ge, ↓z_II, ↓varF_v, ↓varF_l, ↓mvF_o, ↓mvF_v, ↓mvF_s, ndF_some, ifB_t, ifB_f, con, sl, frzS, isB, tuO_t, daO, sqO_l, sqO_t, sqO_o, sqO_s, lsO, lenO_K, lenO_T, lenO_o, lenO_l, lenO_t, lenO_s, ngO, consO, argO, varsO, wrB, untag, owL, tyS, tyD_n, tyD_b, tyD_i, tyD_s, tyD_l, tyD_t, tyD_d, entryE, tagA, backA, wipeE, backE, keepS, seqD_l, seqD_t, seqV_l, seqV_t, liD_l, kyS, ksS, keyD_i, keyD_s, keysD, ixS, tupD_t, isDic, isT, eq_self, isNone_n, isNone_i, isNone_t, isNone_l, isNone_b, isNone_s, isNone_o, need_some, atI_0, atI_1, atI_2, atI_3, ixN_30, ixN_31, ixN_32, eqv_int, eqv_str, Int.toNat_natCast, List.getElem?_cons_zero, List.getElem?_cons_succ, List.getElem?_nil, List.set_cons_zero, List.set_cons_succ, List.length_cons, List.length_nil, Option.join_some, Option.join_none, List.replicate_succ, List.replicate_zero, List.cons_append, List.nil_append, Option.map_some, Nat.zero_add, Nat.reduceAdd, Nat.reduceSub, Bool.not_true, Bool.not_false, if_true, if_false, Bool.false_eq_true, true_and, and_true, decide_true, decide_false, Nat.reduceLeDiff, Nat.reduceEqDiff, reduceIte, reduceCtorEq, Bool.or_false, Bool.or_true, Bool.and_true, Bool.and_false, Bool.true_and, Bool.false_and, Bool.true_or, Bool.false_or, List.map_cons, List.map_nil, List.nodup_cons, List.nodup_nil, List.mem_cons, List.not_mem_nil, not_false_eq_true, or_false, false_or, seqV_S, seqV_R]
        refine al_inv (fun j e => ∃ x4, e = [some (.val (.tuple rs)), some (.val (.int L)), some (.val (.int A)), some (.val (.tuple es)), x4] ∧ (es.take j).all (entB A rs.length) = true) ⟨_, rfl, by simp⟩ ?_ ?_
        · rintro j d e N2 hd2 ⟨x4, rfl, ha2⟩ hN2
          unfold w_are_rows_g1
          simp -dsimp only [↓z_K, ↓z_VarO, ↓z_Var, ↓z_Move, ↓z_Of, ↓z_Fz, ↓z_Res, ↓z_VNil, ↓z_VCons, ↓z_Tup, ↓z_Lst, ↓z_Op2, ↓z_Tst, ↓z_Not, ↓z_Chain, ↓z_AndV, ↓z_OrV, ↓z_NotV, ↓z_And, ↓z_Or, ↓z_If, ↓z_Next, ↓z_Seq, ↓z_Break, ↓z_Cont, ↓z_Exp, ↓z_Ret, ↓z_RetN, ↓z_IfS, ↓z_Nm, ↓z_Tp, ↓z_GN, ↓z_GC, ↓z_Asg, ↓z_ONil, ↓z_OCons, ↓z_SetIx, ↓z_Call, ↓z_Sq, ↓z_Rev, ↓z_For, ↓z_Wh, ↓z_Lc, ↓z_Lc2, ↓z_All, ↓z_All2, ↓z_Yes, ↓z_CB, ↓z_Isi, ↓z_Neg, ↓z_NoP, ↓z_Prt, ↓z_Sl, ↓z_App, ↓z_Pop, ↓z_VK, ↓z_VKs, ↓z_Eq, ↓z_InL, ↓z_InK, ↓z_InT, ↓z_In1, ↓z_In2, ↓z_In3, ↓z_In4, ↓z_IxS, ↓z_Ix1, ↓z_Ix2, ↓z_Ix3, ↓z_Ix4, ↓z_Ix5, ↓z_put1, ↓z_put2, ↓z_put3, ↓z_Len, ↓z_TupC, ↓z_LstC, ↓z_Repr, ↓z_NewD, ↓z_DisK, ↓z_DisT, ↓z_Get1, ↓z_Get2, ↓z_get2K, ↓z_get2T, ↓z_fin, ↓z_Rng1, ↓z_Rng2, ↓rng1F_i, ↓rng2F_i, ↓z_Enm, ↓z_EnmA, ↓enmAF_l, ↓enmAF_t, ↓enmF_l, ↓z_Zip, ↓zipF_l, ↓zipF_t, ↓z_Par, ↓parF_r, ↓z_Par3, ↓par3F_r, ↓z_Never, ↓z_NevE, ↓z_getK, ↓z_getT, ↓z_AddI, ↓z_AddT, ↓z_AddO, ↓z_AddS, ↓z_MulI, ↓z_MulT, ↓z_LtI, ↓z_LtT, ↓z_IsN, ↓z_IntI, ↓z_SlT, ↓z_SlL, ↓z_SlO, ↓z_SlS, ↓z_Sub, ↓z_Mod, ↓z_Div, ↓z_Pow, ↓z_Le, ↓z_Gt, ↓z_Ge, ↓z_II, ↓varF_v, ↓varF_l, ↓mvF_o, ↓mvF_v, ↓mvF_s, ndF_some, ifB_t, ifB_f, con, sl, frzS, isB, tuO_t, daO, sqO_l, sqO_t, sqO_o, sqO_s, lsO, lenO_K, lenO_T, lenO_o, lenO_l, lenO_t, lenO_s, ngO, consO, argO, varsO, wrB, untag, owL, tyS, tyD_n, tyD_b, tyD_i, tyD_s, tyD_l, tyD_t, tyD_d, entryE, tagA, backA, wipeE, backE, keepS, seqD_l, seqD_t, seqV_l, seqV_t, liD_l, kyS, ksS, keyD_i, keyD_s, keysD, ixS, tupD_t, isDic, isT, eq_self, isNone_n, isNone_i, isNone_t, isNone_l, isNone_b, isNone_s, isNone_o, need_some, atI_0, atI_1, atI_2, atI_3, ixN_30, ixN_31, ixN_32, eqv_int, eqv_str, Int.toNat_natCast, List.getElem?_cons_zero, List.getElem?_cons_succ, List.getElem?_nil, List.set_cons_zero, List.set_cons_succ, List.length_cons, List.length_nil, Option.join_some, Option.join_none, List.replicate_succ, List.replicate_zero, List.cons_append, List.nil_append, Option.map_some, Nat.zero_add, Nat.reduceAdd, Nat.reduceSub, Bool.not_true, Bool.not_false, if_true, if_false, Bool.false_eq_true, true_and, and_true, decide_true, decide_false, Nat.reduceLeDiff, Nat.reduceEqDiff, reduceIte, reduceCtorEq, Bool.or_false, Bool.or_true, Bool.and_true, Bool.and_false, Bool.true_and, Bool.false_and, Bool.true_or, Bool.false_or, List.map_cons, List.map_nil, List.nodup_cons, List.nodup_nil, List.mem_cons, List.not_mem_nil, not_false_eq_true, or_false, false_or, seqV_S, seqV_R]
          refine sp_entry ?_
          simp -dsimp only [↓z_K, ↓z_VarO, ↓z_Var, ↓z_Move, ↓z_Of, ↓z_Fz, ↓z_Res, ↓z_VNil, ↓z_VCons, ↓z_Tup, ↓z_Lst, ↓z_Op2, ↓z_Tst, ↓z_Not, ↓z_Chain, ↓z_AndV, ↓z_OrV, ↓z_NotV, ↓z_And, ↓z_Or, ↓z_If, ↓z_Next, ↓z_Seq, ↓z_Break, ↓z_Cont, ↓z_Exp, ↓z_Ret, ↓z_RetN, ↓z_IfS, ↓z_Nm, ↓z_Tp, ↓z_GN, ↓z_GC, ↓z_Asg, ↓z_ONil, ↓z_OCons, ↓z_SetIx, ↓z_Call, ↓z_Sq, ↓z_Rev, ↓z_For, ↓z_Wh, ↓z_Lc, ↓z_Lc2, ↓z_All, ↓z_All2, ↓z_Yes, ↓z_CB, ↓z_Isi, ↓z_Neg, ↓z_NoP, ↓z_Prt, ↓z_Sl, ↓z_App, ↓z_Pop, ↓z_VK, ↓z_VKs, ↓z_Eq, ↓z_InL, ↓z_InK, ↓z_InT, ↓z_In1, ↓z_In2, ↓z_In3, ↓z_In4, ↓z_IxS, ↓z_Ix1, ↓z_Ix2, ↓z_Ix3, ↓z_Ix4, ↓z_Ix5, ↓z_put1, ↓z_put2, ↓z_put3, ↓z_Len, ↓z_TupC, ↓z_LstC, ↓z_Repr, ↓z_NewD, ↓z_DisK, ↓z_DisT, ↓z_Get1, ↓z_Get2, ↓z_get2K, ↓z_get2T, ↓z_fin, ↓z_Rng1, ↓z_Rng2, ↓rng1F_i, ↓rng2F_i, ↓z_Enm, ↓z_EnmA, ↓enmAF_l, ↓enmAF_t, ↓enmF_l, ↓z_Zip, ↓zipF_l, ↓zipF_t, ↓z_Par, ↓parF_r, ↓z_Par3, ↓par3F_r, ↓z_Never, ↓z_NevE, ↓z_getK, ↓z_getT, ↓z_AddI, ↓z_AddT, ↓z_AddO, ↓z_AddS, ↓z_MulI, ↓z_MulT, ↓z_LtI, ↓z_LtT, ↓z_IsN, ↓z_IntI, ↓z_SlT, ↓z_SlL, ↓z_SlO, ↓z_SlS, ↓z_Sub, ↓z_Mod, ↓z_Div, ↓z_Pow, ↓z_Le, ↓z_Gt, ↓z_Ge, ↓z_II, ↓varF_v, ↓varF_l, ↓mvF_o, ↓mvF_v, ↓mvF_s, ndF_some, ifB_t, ifB_f, con, sl, frzS, isB, tuO_t, daO, sqO_l, sqO_t, sqO_o, sqO_s, lsO, lenO_K, lenO_T, lenO_o, lenO_l, lenO_t, lenO_s, ngO, consO, argO, varsO, wrB, untag, owL, tyS, tyD_n, tyD_b, tyD_i, tyD_s, tyD_l, tyD_t, tyD_d, entryE, tagA, backA, wipeE, backE, keepS, seqD_l, seqD_t, seqV_l, seqV_t, liD_l, kyS, ksS, keyD_i, keyD_s, keysD, ixS, tupD_t, isDic, isT, eq_self, isNone_n, isNone_i, isNone_t, isNone_l, isNone_b, isNone_s, isNone_o, need_some, atI_0, atI_1, atI_2, atI_3, ixN_30, ixN_31, ixN_32, eqv_int, eqv_str, Int.toNat_natCast, List.getElem?_cons_zero, List.getElem?_cons_succ, List.getElem?_nil, List.set_cons_zero, List.set_cons_succ, List.length_cons, List.length_nil, Option.join_some, Option.join_none, List.replicate_succ, List.replicate_zero, List.cons_append, List.nil_append, Option.map_some, Nat.zero_add, Nat.reduceAdd, Nat.reduceSub, Bool.not_true, Bool.not_false, if_true, if_false, Bool.false_eq_true, true_and, and_true, decide_true, decide_false, Nat.reduceLeDiff, Nat.reduceEqDiff, reduceIte, reduceCtorEq, Bool.or_false, Bool.or_true, Bool.and_true, Bool.and_false, Bool.true_and, Bool.false_and, Bool.true_or, Bool.false_or, List.map_cons, List.map_nil, List.nodup_cons, List.nodup_nil, List.mem_cons, List.not_mem_nil, not_false_eq_true, or_false, false_or, seqV_S, seqV_R]
          refine brB (fun q => ?_) fun q => ?_
          · exact hN2 _ ⟨_, rfl, by rw [all_take hd2 ha2]; exact q⟩
          · simp -dsimp only [↓z_K, ↓z_VarO, ↓z_Var, ↓z_Move, ↓z_Of, ↓z_Fz, ↓z_Res, ↓z_VNil, ↓z_VCons, ↓z_Tup, ↓z_Lst, ↓z_Op2, ↓z_Tst, ↓z_Not, ↓z_Chain, ↓z_AndV, ↓z_OrV, ↓z_NotV, ↓z_And, ↓z_Or, ↓z_If, ↓z_Next, ↓z_Seq, ↓z_Break, ↓z_Cont, ↓z_Exp, ↓z_Ret, ↓z_RetN, ↓z_IfS, ↓z_Nm, ↓z_Tp, ↓z_GN, ↓z_GC, ↓z_Asg, ↓z_ONil, ↓z_OCons, ↓z_SetIx, ↓z_Call, ↓z_Sq, ↓z_Rev, ↓z_For, ↓z_Wh, ↓z_Lc, ↓z_Lc2, ↓z_All, ↓z_All2, ↓z_Yes, ↓z_CB, ↓z_Isi, ↓z_Neg, ↓z_NoP, ↓z_Prt, ↓z_Sl, ↓z_App, ↓z_Pop, ↓z_VK, ↓z_VKs, ↓z_Eq, ↓z_InL, ↓z_InK, ↓z_InT, ↓z_In1, ↓z_In2, ↓z_In3, ↓z_In4, ↓z_IxS, ↓z_Ix1, ↓z_Ix2, ↓z_Ix3, ↓z_Ix4, ↓z_Ix5, ↓z_put1, ↓z_put2, ↓z_put3, ↓z_Len, ↓z_TupC, ↓z_LstC, ↓z_Repr, ↓z_NewD, ↓z_DisK, ↓z_DisT, ↓z_Get1, ↓z_Get2, ↓z_get2K, ↓z_get2T, ↓z_fin, ↓z_Rng1, ↓z_Rng2, ↓rng1F_i, ↓rng2F_i, ↓z_Enm, ↓z_EnmA, ↓enmAF_l, ↓enmAF_t, ↓enmF_l, ↓z_Zip, ↓zipF_l, ↓zipF_t, ↓z_Par, ↓parF_r, ↓z_Par3, ↓par3F_r, ↓z_Never, ↓z_NevE, ↓z_getK, ↓z_getT, ↓z_AddI, ↓z_AddT, ↓z_AddO, ↓z_AddS, ↓z_MulI, ↓z_MulT, ↓z_LtI, ↓z_LtT, ↓z_IsN, ↓z_IntI, ↓z_SlT, ↓z_SlL, ↓z_SlO, ↓z_SlS, ↓z_Sub, ↓z_Mod, ↓z_Div, ↓z_Pow, ↓z_Le, ↓z_Gt, ↓z_Ge, ↓z_II, ↓varF_v, ↓varF_l, ↓mvF_o, ↓mvF_v, ↓mvF_s, ndF_some, ifB_t, ifB_f, con, sl, frzS, isB, tuO_t, daO, sqO_l, sqO_t, sqO_o, sqO_s, lsO, lenO_K, lenO_T, lenO_o, lenO_l, lenO_t, lenO_s, ngO, consO, argO, varsO, wrB, untag, owL, tyS, tyD_n, tyD_b, tyD_i, tyD_s, tyD_l, tyD_t, tyD_d, entryE, tagA, backA, wipeE, backE, keepS, seqD_l, seqD_t, seqV_l, seqV_t, liD_l, kyS, ksS, keyD_i, keyD_s, keysD, ixS, tupD_t, isDic, isT, eq_self, isNone_n, isNone_i, isNone_t, isNone_l, isNone_b, isNone_s, isNone_o, need_some, atI_0, atI_1, atI_2, atI_3, ixN_30, ixN_31, ixN_32, eqv_int, eqv_str, Int.toNat_natCast, List.getElem?_cons_zero, List.getElem?_cons_succ, List.getElem?_nil, List.set_cons_zero, List.set_cons_succ, List.length_cons, List.length_nil, Option.join_some, Option.join_none, List.replicate_succ, List.replicate_zero, List.cons_append, List.nil_append, Option.map_some, Nat.zero_add, Nat.reduceAdd, Nat.reduceSub, Bool.not_true, Bool.not_false, if_true, if_false, Bool.false_eq_true, true_and, and_true, decide_true, decide_false, Nat.reduceLeDiff, Nat.reduceEqDiff, reduceIte, reduceCtorEq, Bool.or_false, Bool.or_true, Bool.and_true, Bool.and_false, Bool.true_and, Bool.false_and, Bool.true_or, Bool.false_or, List.map_cons, List.map_nil, List.nodup_cons, List.nodup_nil, List.mem_cons, List.not_mem_nil, not_false_eq_true, or_false, false_or, seqV_S, seqV_R]
            refine bad ?_
            simp only [tupB] at ht
            simp only [rowB, ht, Bool.true_and]
            exact all_false hd2 q
        · rintro e ⟨x4, rfl, ha2⟩
          simp -dsimp only [↓z_K, ↓z_VarO, ↓z_Var, ↓z_Move, ↓z_Of, ↓z_Fz, ↓z_Res, ↓z_VNil, ↓z_VCons, ↓z_Tup, ↓z_Lst, ↓z_Op2, ↓z_Tst, ↓z_Not, ↓z_Chain, ↓z_AndV, ↓z_OrV, ↓z_NotV, ↓z_And, ↓z_Or, ↓z_If, ↓z_Next, ↓z_Seq, ↓z_Break, ↓z_Cont, ↓z_Exp, ↓z_Ret, ↓z_RetN, ↓z_IfS, ↓z_Nm, ↓z_Tp, ↓z_GN, ↓z_GC, ↓z_Asg, ↓z_ONil, ↓z_OCons, ↓z_SetIx, ↓z_Call, ↓z_Sq, ↓z_Rev, ↓z_For, ↓z_Wh, ↓z_Lc, ↓z_Lc2, ↓z_All, ↓z_All2, ↓z_Yes, ↓z_CB, ↓z_Isi, ↓z_Neg, ↓z_NoP, ↓z_Prt, ↓z_Sl, ↓z_App, ↓z_Pop, ↓z_VK, ↓z_VKs, ↓z_Eq, ↓z_InL, ↓z_InK, ↓z_InT, ↓z_In1, ↓z_In2, ↓z_In3, ↓z_In4, ↓z_IxS, ↓z_Ix1, ↓z_Ix2, ↓z_Ix3, ↓z_Ix4, ↓z_Ix5, ↓z_put1, ↓z_put2, ↓z_put3, ↓z_Len, ↓z_TupC, ↓z_LstC, ↓z_Repr, ↓z_NewD, ↓z_DisK, ↓z_DisT, ↓z_Get1, ↓z_Get2, ↓z_get2K, ↓z_get2T, ↓z_fin, ↓z_Rng1, ↓z_Rng2, ↓rng1F_i, ↓rng2F_i, ↓z_Enm, ↓z_EnmA, ↓enmAF_l, ↓enmAF_t, ↓enmF_l, ↓z_Zip, ↓zipF_l, ↓zipF_t, ↓z_Par, ↓parF_r, ↓z_Par3, ↓par3F_r, ↓z_Never, ↓z_NevE, ↓z_getK, ↓z_getT, ↓z_AddI, ↓z_AddT, ↓z_AddO, ↓z_AddS, ↓z_MulI, ↓z_MulT, ↓z_LtI, ↓z_LtT, ↓z_IsN, ↓z_IntI, ↓z_SlT, ↓z_SlL, ↓z_SlO, ↓z_SlS, ↓z_Sub, ↓z_Mod, ↓z_Div, ↓z_Pow, ↓z_Le, ↓z_Gt, ↓z_Ge, ↓z_II, ↓varF_v, ↓varF_l, ↓mvF_o, ↓mvF_v, ↓mvF_s, ndF_some, ifB_t, ifB_f, con, sl, frzS, isB, tuO_t, daO, sqO_l, sqO_t, sqO_o, sqO_s, lsO, lenO_K, lenO_T, lenO_o, lenO_l, lenO_t, lenO_s, ngO, consO, argO, varsO, wrB, untag, owL, tyS, tyD_n, tyD_b, tyD_i, tyD_s, tyD_l, tyD_t, tyD_d, entryE, tagA, backA, wipeE, backE, keepS, seqD_l, seqD_t, seqV_l, seqV_t, liD_l, kyS, ksS, keyD_i, keyD_s, keysD, ixS, tupD_t, isDic, isT, eq_self, isNone_n, isNone_i, isNone_t, isNone_l, isNone_b, isNone_s, isNone_o, need_some, atI_0, atI_1, atI_2, atI_3, ixN_30, ixN_31, ixN_32, eqv_int, eqv_str, Int.toNat_natCast, List.getElem?_cons_zero, List.getElem?_cons_succ, List.getElem?_nil, List.set_cons_zero, List.set_cons_succ, List.length_cons, List.length_nil, Option.join_some, Option.join_none, List.replicate_succ, List.replicate_zero, List.cons_append, List.nil_append, Option.map_some, Nat.zero_add, Nat.reduceAdd, Nat.reduceSub, Bool.not_true, Bool.not_false, if_true, if_false, Bool.false_eq_true, true_and, and_true, decide_true, decide_false, Nat.reduceLeDiff, Nat.reduceEqDiff, reduceIte, reduceCtorEq, Bool.or_false, Bool.or_true, Bool.and_true, Bool.and_false, Bool.true_and, Bool.false_and, Bool.true_or, Bool.false_or, List.map_cons, List.map_nil, List.nodup_cons, List.nodup_nil, List.mem_cons, List.not_mem_nil, not_false_eq_true, or_false, false_or, seqV_S, seqV_R]
          refine hN _ ⟨_, _, rfl, ?_⟩
          rw [all_take hd ha]
          simp only [tupB] at ht
          rw [List.take_length] at ha2
          simp only [rowB, ht, ha2, Bool.true_and]
      | _ => cases ht
  · rintro e ⟨x3, x4, rfl, ha⟩
    rw [List.take_length] at ha
    simp -dsimp only [↓z_K, ↓z_VarO, ↓z_Var, ↓z_Move, ↓z_Of, ↓z_Fz, ↓z_Res, ↓z_VNil, ↓z_VCons, ↓z_Tup, ↓z_Lst, ↓z_Op2, ↓z_Tst, ↓z_Not, ↓z_Chain, ↓z_AndV, ↓z_OrV, ↓z_NotV, ↓z_And, ↓z_Or, ↓z_If, ↓z_Next, ↓z_Seq, ↓z_Break, ↓z_Cont, ↓z_Exp, ↓z_Ret, ↓z_RetN, ↓z_IfS, ↓z_Nm, ↓z_Tp, ↓z_GN, ↓z_GC, ↓z_Asg, ↓z_ONil, ↓z_OCons, ↓z_SetIx, ↓z_Call, ↓z_Sq, ↓z_Rev, ↓z_For, ↓z_Wh, ↓z_Lc, ↓z_Lc2, ↓z_All, ↓z_All2, ↓z_Yes, ↓z_CB, ↓z_Isi, ↓z_Neg, ↓z_NoP, ↓z_Prt, ↓z_Sl, ↓z_App, ↓z_Pop, ↓z_VK, ↓z_VKs, ↓z_Eq, ↓z_InL, ↓z_InK, ↓z_InT, ↓z_In1, ↓z_In2, ↓z_In3, ↓z_In4, ↓z_IxS, ↓z_Ix1, ↓z_Ix2, ↓z_Ix3, ↓z_Ix4, ↓z_Ix5, ↓z_put1, ↓z_put2, ↓z_put3, ↓z_Len, ↓z_TupC, ↓z_LstC, ↓z_Repr, ↓z_NewD, ↓z_DisK, ↓z_DisT, ↓z_Get1, ↓z_Get2, ↓z_get2K, ↓z_get2T, ↓z_fin, ↓z_Rng1, ↓z_Rng2, ↓rng1F_i, ↓rng2F_i, ↓z_Enm, ↓z_EnmA, ↓enmAF_l, ↓enmAF_t, ↓enmF_l, ↓z_Zip, ↓zipF_l, ↓zipF_t, ↓z_Par, ↓parF_r, ↓z_Par3, ↓par3F_r, ↓z_Never, ↓z_NevE, ↓z_getK, ↓z_getT, ↓z_AddI, ↓z_AddT, ↓z_AddO, ↓z_AddS, ↓z_MulI, ↓z_MulT, ↓z_LtI, ↓z_LtT, ↓z_IsN, ↓z_IntI, ↓z_SlT, ↓z_SlL, ↓z_SlO, ↓z_SlS, ↓z_Sub, ↓z_Mod, ↓z_Div, ↓z_Pow, ↓z_Le, ↓z_Gt, ↓z_Ge, ↓z_II, ↓varF_v, ↓varF_l, ↓mvF_o, ↓mvF_v, ↓mvF_s, ndF_some, ifB_t, ifB_f, con, sl, frzS, isB, tuO_t, daO, sqO_l, sqO_t, sqO_o, sqO_s, lsO, lenO_K, lenO_T, lenO_o, lenO_l, lenO_t, lenO_s, ngO, consO, argO, varsO, wrB, untag, owL, tyS, tyD_n, tyD_b, tyD_i, tyD_s, tyD_l, tyD_t, tyD_d, entryE, tagA, backA, wipeE, backE, keepS, seqD_l, seqD_t, seqV_l, seqV_t, liD_l, kyS, ksS, keyD_i, keyD_s, keysD, ixS, tupD_t, isDic, isT, eq_self, isNone_n, isNone_i, isNone_t, isNone_l, isNone_b, isNone_s, isNone_o, need_some, atI_0, atI_1, atI_2, atI_3, ixN_30, ixN_31, ixN_32, eqv_int, eqv_str, Int.toNat_natCast, List.getElem?_cons_zero, List.getElem?_cons_succ, List.getElem?_nil, List.set_cons_zero, List.set_cons_succ, List.length_cons, List.length_nil, Option.join_some, Option.join_none, List.replicate_succ, List.replicate_zero, List.cons_append, List.nil_append, Option.map_some, Nat.zero_add, Nat.reduceAdd, Nat.reduceSub, Bool.not_true, Bool.not_false, if_true, if_false, Bool.false_eq_true, true_and, and_true, decide_true, decide_false, Nat.reduceLeDiff, Nat.reduceEqDiff, reduceIte, reduceCtorEq, Bool.or_false, Bool.or_true, Bool.and_true, Bool.and_false, Bool.true_and, Bool.false_and, Bool.true_or, Bool.false_or, List.map_cons, List.map_nil, List.nodup_cons, List.nodup_nil, List.mem_cons, List.not_mem_nil, not_false_eq_true, or_false, false_or, seqV_S, seqV_R]
    rw [rowsB, ha] at h
    exact h
end DV

set_option Elab.async false
set_option linter.all false
set_option maxRecDepth 100000
set_option maxHeartbeats 4000000
namespace DV
open PySem PySem.Spec PyProof.Rows L2
/-- a sketch of at most twelve states -/
structure Small (m : Sk) : Prop where
  l1 : 1 ≤ m.L
  l3 : m.L ≤ 3
  a2 : 2 ≤ m.A
  a9 : m.A ≤ 9
  n1 : 1 ≤ m.rows.length
  n12 : m.rows.length ≤ 12
  gap : ∀ r ∈ m.rows, GapR m.L m.rows.length m.A r
theorem Mach.small {m : Sk} (h : Mach m) : Small m := ⟨h.l1, h.l3, h.a2, h.a9, h.n1, h.n12, fun r hr => (h.full r hr).gap⟩
theorem within_nat {i : Nat} {lo hi : Int} (h1 : lo ≤ i) (h2 : (i : Int) ≤ hi) : withinB (.int i) lo hi = true := by simp [withinB, h1, h2]
theorem rows_good {L A : Nat} {R : List Row} (h : ∀ r ∈ R, GapR L R.length A r) : rowsB (L : Int) (A : Int) (R.map eR) = true := by
  unfold rowsB
  rw [List.all_eq_true]
  intro d hd
  obtain ⟨r, hr, rfl⟩ := List.mem_map.mp hd
  obtain ⟨h1, h2⟩ := h r hr
  unfold eR rowB
  simp only [List.length_map, h1, Int.le_refl, decide_true, Bool.and_self, Bool.true_and]
  rw [List.all_eq_true]
  intro e he
  obtain ⟨x, hx, rfl⟩ := List.mem_map.mp he
  cases x with
  | none => rfl
  | some p =>
    obtain ⟨s, a⟩ := p
    obtain ⟨h3, h4⟩ := h2 _ hx s a rfl
    unfold eE entB
    simp only [Bool.and_eq_true]
    exact ⟨within_nat (by omega) (by omega), within_nat (by omega) (by omega)⟩
theorem sp_sketch_form {m : Sk} {Q : Slot → List Slot → Prop} {X : Value → Prop} (hm : Small m) (h : Q (.val (.bool true)) [.val (eS m)]) : fs_is_sketch_form [.val (eS m)] Q X := by
  have := hm.l1; have := hm.l3; have := hm.a2; have := hm.a9; have := hm.n1; have := hm.n12
  refine ⟨rfl, ?_⟩
  unfold w_is_sketch_form
  simp -dsimp only [↓z_K, ↓z_VarO, ↓z_Var, ↓z_Move, ↓z_Of, ↓z_Fz, ↓z_Res, ↓z_VNil, ↓z_VCons, ↓z_Tup, ↓z_Lst, ↓z_Op2, ↓z_Tst, ↓z_Not, ↓z_Chain, ↓z_AndV, ↓z_OrV, ↓z_NotV, ↓z_And, ↓z_Or, ↓z_If, ↓z_Next, ↓z_Seq, ↓z_Break, ↓z_Cont, ↓z_Exp, ↓z_Ret, ↓z_RetN, ↓z_IfS, ↓z_Nm, ↓z_Tp, ↓z_GN, ↓z_GC, ↓z_Asg, ↓z_ONil, ↓z_OCons, ↓z_SetIx, ↓z_Call, ↓z_Sq, ↓z_Rev, ↓z_For, ↓z_Wh, ↓z_Lc, ↓z_Lc2, ↓z_All, ↓z_All2, ↓z_Yes, ↓z_CB, ↓z_Isi, ↓z_Neg, ↓z_NoP, ↓z_Prt, ↓z_Sl, ↓z_App, ↓z_Pop, ↓z_VK, ↓z_VKs, ↓z_Eq, ↓z_InL, ↓z_InK, ↓z_InT, ↓z_In1, ↓z_In2, ↓z_In3, ↓z_In4, ↓z_IxS, ↓z_Ix1, ↓z_Ix2, ↓z_Ix3, ↓z_Ix4, ↓z_Ix5, ↓z_put1, ↓z_put2, ↓z_put3, ↓z_Len, ↓z_TupC, ↓z_LstC, ↓z_Repr, ↓z_NewD, ↓z_DisK, ↓z_DisT, ↓z_Get1, ↓z_Get2, ↓z_get2K, ↓z_get2T, ↓z_fin, ↓z_Rng1, ↓z_Rng2, ↓rng1F_i, ↓rng2F_i, ↓z_Enm, ↓z_EnmA, ↓enmAF_l, ↓enmAF_t, ↓enmF_l, ↓z_Zip, ↓zipF_l, ↓zipF_t, ↓z_Par, ↓parF_r, ↓z_Par3, ↓par3F_r, ↓z_Never, ↓z_NevE, ↓z_getK, ↓z_getT, ↓z_AddI, ↓z_AddT, ↓z_AddO, ↓z_AddS, ↓z_MulI, ↓z_MulT, ↓z_LtI, ↓z_LtT, ↓z_IsN, ↓z_IntI, ↓z_SlT, ↓z_SlL, ↓z_SlO, ↓z_SlS, ↓z_Sub, ↓z_Mod, ↓z_Div, ↓z_Pow, ↓z_Le, ↓z_Gt, ↓z_Ge, ↓z_II, ↓varF_v, ↓varF_l, ↓mvF_o, ↓mvF_v, ↓mvF_s, ndF_some, ifB_t, ifB_f, con, sl, frzS, isB, tuO_t, daO, sqO_l, sqO_t, sqO_o, sqO_s, lsO, lenO_K, lenO_T, lenO_o, lenO_l, lenO_t, lenO_s, ngO, consO, argO, varsO, wrB, untag, owL, tyS, tyD_n, tyD_b, tyD_i, tyD_s, tyD_l, tyD_t, tyD_d, entryE, tagA, backA, wipeE, backE, keepS, seqD_l, seqD_t, seqV_l, seqV_t, liD_l, kyS, ksS, keyD_i, keyD_s, keysD, ixS, tupD_t, isDic, isT, eq_self, isNone_n, isNone_i, isNone_t, isNone_l, isNone_b, isNone_s, isNone_o, need_some, atI_0, atI_1, atI_2, atI_3, ixN_30, ixN_31, ixN_32, eqv_int, eqv_str, Int.toNat_natCast, List.getElem?_cons_zero, List.getElem?_cons_succ, List.getElem?_nil, List.set_cons_zero, List.set_cons_succ, List.length_cons, List.length_nil, Option.join_some, Option.join_none, List.replicate_succ, List.replicate_zero, List.cons_append, List.nil_append, Option.map_some, Nat.zero_add, Nat.reduceAdd, Nat.reduceSub, Bool.not_true, Bool.not_false, if_true, if_false, Bool.false_eq_true, true_and, and_true, decide_true, decide_false, Nat.reduceLeDiff, Nat.reduceEqDiff, reduceIte, reduceCtorEq, Bool.or_false, Bool.or_true, Bool.and_true, Bool.and_false, Bool.true_and, Bool.false_and, Bool.true_or, Bool.false_or, List.map_cons, List.map_nil, List.nodup_cons, List.nodup_nil, List.mem_cons, List.not_mem_nil, not_false_eq_true, or_false, false_or, seqV_S, seqV_R, eS]
  refine sp_tuple_of ?_
  have e0 : tupB (.tuple [.int m.L, .int m.A, .tuple (m.rows.map eR)]) 3 3 = true := by simp [tupB]
  simp -dsimp only [↓z_K, ↓z_VarO, ↓z_Var, ↓z_Move, ↓z_Of, ↓z_Fz, ↓z_Res, ↓z_VNil, ↓z_VCons, ↓z_Tup, ↓z_Lst, ↓z_Op2, ↓z_Tst, ↓z_Not, ↓z_Chain, ↓z_AndV, ↓z_OrV, ↓z_NotV, ↓z_And, ↓z_Or, ↓z_If, ↓z_Next, ↓z_Seq, ↓z_Break, ↓z_Cont, ↓z_Exp, ↓z_Ret, ↓z_RetN, ↓z_IfS, ↓z_Nm, ↓z_Tp, ↓z_GN, ↓z_GC, ↓z_Asg, ↓z_ONil, ↓z_OCons, ↓z_SetIx, ↓z_Call, ↓z_Sq, ↓z_Rev, ↓z_For, ↓z_Wh, ↓z_Lc, ↓z_Lc2, ↓z_All, ↓z_All2, ↓z_Yes, ↓z_CB, ↓z_Isi, ↓z_Neg, ↓z_NoP, ↓z_Prt, ↓z_Sl, ↓z_App, ↓z_Pop, ↓z_VK, ↓z_VKs, ↓z_Eq, ↓z_InL, ↓z_InK, ↓z_InT, ↓z_In1, ↓z_In2, ↓z_In3, ↓z_In4, ↓z_IxS, ↓z_Ix1, ↓z_Ix2, ↓z_Ix3, ↓z_Ix4, ↓z_Ix5, ↓z_put1, ↓z_put2, ↓z_put3, ↓z_Len, ↓z_TupC, ↓z_LstC, ↓z_Repr, ↓z_NewD, ↓z_DisK, ↓z_DisT, ↓z_Get1, ↓z_Get2, ↓z_get2K, ↓z_get2T, ↓z_fin, ↓z_Rng1, ↓z_Rng2, ↓rng1F_i, ↓rng2F_i, ↓z_Enm, ↓z_EnmA, ↓enmAF_l, ↓enmAF_t, ↓enmF_l, ↓z_Zip, ↓zipF_l, ↓zipF_t, ↓z_Par, ↓parF_r, ↓z_Par3, ↓par3F_r, ↓z_Never, ↓z_NevE, ↓z_getK, ↓z_getT, ↓z_AddI, ↓z_AddT, ↓z_AddO, ↓z_AddS, ↓z_MulI, ↓z_MulT, ↓z_LtI, ↓z_LtT, ↓z_IsN, ↓z_IntI, ↓z_SlT, ↓z_SlL, ↓z_SlO, ↓z_SlS, ↓z_Sub, ↓z_Mod, ↓z_Div, ↓z_Pow, ↓z_Le, ↓z_Gt, ↓z_Ge, ↓z_II, ↓varF_v, ↓varF_l, ↓mvF_o, ↓mvF_v, ↓mvF_s, ndF_some, ifB_t, ifB_f, con, sl, frzS, isB, tuO_t, daO, sqO_l, sqO_t, sqO_o, sqO_s, lsO, lenO_K, lenO_T, lenO_o, lenO_l, lenO_t, lenO_s, ngO, consO, argO, varsO, wrB, untag, owL, tyS, tyD_n, tyD_b, tyD_i, tyD_s, tyD_l, tyD_t, tyD_d, entryE, tagA, backA, wipeE, backE, keepS, seqD_l, seqD_t, seqV_l, seqV_t, liD_l, kyS, ksS, keyD_i, keyD_s, keysD, ixS, tupD_t, isDic, isT, eq_self, isNone_n, isNone_i, isNone_t, isNone_l, isNone_b, isNone_s, isNone_o, need_some, atI_0, atI_1, atI_2, atI_3, ixN_30, ixN_31, ixN_32, eqv_int, eqv_str, Int.toNat_natCast, List.getElem?_cons_zero, List.getElem?_cons_succ, List.getElem?_nil, List.set_cons_zero, List.set_cons_succ, List.length_cons, List.length_nil, Option.join_some, Option.join_none, List.replicate_succ, List.replicate_zero, List.cons_append, List.nil_append, Option.map_some, Nat.zero_add, Nat.reduceAdd, Nat.reduceSub, Bool.not_true, Bool.not_false, if_true, if_false, Bool.false_eq_true, true_and, and_true, decide_true, decide_false, Nat.reduceLeDiff, Nat.reduceEqDiff, reduceIte, reduceCtorEq, Bool.or_false, Bool.or_true, Bool.and_true, Bool.and_false, Bool.true_and, Bool.false_and, Bool.true_or, Bool.false_or, List.map_cons, List.map_nil, List.nodup_cons, List.nodup_nil, List.mem_cons, List.not_mem_nil, not_false_eq_true, or_false, false_or, seqV_S, seqV_R, eS, e0]
  refine sp_within ?_
  simp -dsimp only [↓z_K, ↓z_VarO, ↓z_Var, ↓z_Move, ↓z_Of, ↓z_Fz, ↓z_Res, ↓z_VNil, ↓z_VCons, ↓z_Tup, ↓z_Lst, ↓z_Op2, ↓z_Tst, ↓z_Not, ↓z_Chain, ↓z_AndV, ↓z_OrV, ↓z_NotV, ↓z_And, ↓z_Or, ↓z_If, ↓z_Next, ↓z_Seq, ↓z_Break, ↓z_Cont, ↓z_Exp, ↓z_Ret, ↓z_RetN, ↓z_IfS, ↓z_Nm, ↓z_Tp, ↓z_GN, ↓z_GC, ↓z_Asg, ↓z_ONil, ↓z_OCons, ↓z_SetIx, ↓z_Call, ↓z_Sq, ↓z_Rev, ↓z_For, ↓z_Wh, ↓z_Lc, ↓z_Lc2, ↓z_All, ↓z_All2, ↓z_Yes, ↓z_CB, ↓z_Isi, ↓z_Neg, ↓z_NoP, ↓z_Prt, ↓z_Sl, ↓z_App, ↓z_Pop, ↓z_VK, ↓z_VKs, ↓z_Eq, ↓z_InL, ↓z_InK, ↓z_InT, ↓z_In1, ↓z_In2, ↓z_In3, ↓z_In4, ↓z_IxS, ↓z_Ix1, ↓z_Ix2, ↓z_Ix3, ↓z_Ix4, ↓z_Ix5, ↓z_put1, ↓z_put2, ↓z_put3, ↓z_Len, ↓z_TupC, ↓z_LstC, ↓z_Repr, ↓z_NewD, ↓z_DisK, ↓z_DisT, ↓z_Get1, ↓z_Get2, ↓z_get2K, ↓z_get2T, ↓z_fin, ↓z_Rng1, ↓z_Rng2, ↓rng1F_i, ↓rng2F_i, ↓z_Enm, ↓z_EnmA, ↓enmAF_l, ↓enmAF_t, ↓enmF_l, ↓z_Zip, ↓zipF_l, ↓zipF_t, ↓z_Par, ↓parF_r, ↓z_Par3, ↓par3F_r, ↓z_Never, ↓z_NevE, ↓z_getK, ↓z_getT, ↓z_AddI, ↓z_AddT, ↓z_AddO, ↓z_AddS, ↓z_MulI, ↓z_MulT, ↓z_LtI, ↓z_LtT, ↓z_IsN, ↓z_IntI, ↓z_SlT, ↓z_SlL, ↓z_SlO, ↓z_SlS, ↓z_Sub, ↓z_Mod, ↓z_Div, ↓z_Pow, ↓z_Le, ↓z_Gt, ↓z_Ge, ↓z_II, ↓varF_v, ↓varF_l, ↓mvF_o, ↓mvF_v, ↓mvF_s, ndF_some, ifB_t, ifB_f, con, sl, frzS, isB, tuO_t, daO, sqO_l, sqO_t, sqO_o, sqO_s, lsO, lenO_K, lenO_T, lenO_o, lenO_l, lenO_t, lenO_s, ngO, consO, argO, varsO, wrB, untag, owL, tyS, tyD_n, tyD_b, tyD_i, tyD_s, tyD_l, tyD_t, tyD_d, entryE, tagA, backA, wipeE, backE, keepS, seqD_l, seqD_t, seqV_l, seqV_t, liD_l, kyS, ksS, keyD_i, keyD_s, keysD, ixS, tupD_t, isDic, isT, eq_self, isNone_n, isNone_i, isNone_t, isNone_l, isNone_b, isNone_s, isNone_o, need_some, atI_0, atI_1, atI_2, atI_3, ixN_30, ixN_31, ixN_32, eqv_int, eqv_str, Int.toNat_natCast, List.getElem?_cons_zero, List.getElem?_cons_succ, List.getElem?_nil, List.set_cons_zero, List.set_cons_succ, List.length_cons, List.length_nil, Option.join_some, Option.join_none, List.replicate_succ, List.replicate_zero, List.cons_append, List.nil_append, Option.map_some, Nat.zero_add, Nat.reduceAdd, Nat.reduceSub, Bool.not_true, Bool.not_false, if_true, if_false, Bool.false_eq_true, true_and, and_true, decide_true, decide_false, Nat.reduceLeDiff, Nat.reduceEqDiff, reduceIte, reduceCtorEq, Bool.or_false, Bool.or_true, Bool.and_true, Bool.and_false, Bool.true_and, Bool.false_and, Bool.true_or, Bool.false_or, List.map_cons, List.map_nil, List.nodup_cons, List.nodup_nil, List.mem_cons, List.not_mem_nil, not_false_eq_true, or_false, false_or, seqV_S, seqV_R, eS, within_nat (i := m.L) (lo := 1) (hi := 3) (by omega) (by omega)]
  refine sp_within ?_
  simp -dsimp only [↓z_K, ↓z_VarO, ↓z_Var, ↓z_Move, ↓z_Of, ↓z_Fz, ↓z_Res, ↓z_VNil, ↓z_VCons, ↓z_Tup, ↓z_Lst, ↓z_Op2, ↓z_Tst, ↓z_Not, ↓z_Chain, ↓z_AndV, ↓z_OrV, ↓z_NotV, ↓z_And, ↓z_Or, ↓z_If, ↓z_Next, ↓z_Seq, ↓z_Break, ↓z_Cont, ↓z_Exp, ↓z_Ret, ↓z_RetN, ↓z_IfS, ↓z_Nm, ↓z_Tp, ↓z_GN, ↓z_GC, ↓z_Asg, ↓z_ONil, ↓z_OCons, ↓z_SetIx, ↓z_Call, ↓z_Sq, ↓z_Rev, ↓z_For, ↓z_Wh, ↓z_Lc, ↓z_Lc2, ↓z_All, ↓z_All2, ↓z_Yes, ↓z_CB, ↓z_Isi, ↓z_Neg, ↓z_NoP, ↓z_Prt, ↓z_Sl, ↓z_App, ↓z_Pop, ↓z_VK, ↓z_VKs, ↓z_Eq, ↓z_InL, ↓z_InK, ↓z_InT, ↓z_In1, ↓z_In2, ↓z_In3, ↓z_In4, ↓z_IxS, ↓z_Ix1, ↓z_Ix2, ↓z_Ix3, ↓z_Ix4, ↓z_Ix5, ↓z_put1, ↓z_put2, ↓z_put3, ↓z_Len, ↓z_TupC, ↓z_LstC, ↓z_Repr, ↓z_NewD, ↓z_DisK, ↓z_DisT, ↓z_Get1, ↓z_Get2, ↓z_get2K, ↓z_get2T, ↓z_fin, ↓z_Rng1, ↓z_Rng2, ↓rng1F_i, ↓rng2F_i, ↓z_Enm, ↓z_EnmA, ↓enmAF_l, ↓enmAF_t, ↓enmF_l, ↓z_Zip, ↓zipF_l, ↓zipF_t, ↓z_Par, ↓parF_r, ↓z_Par3, ↓par3F_r, ↓z_Never, ↓z_NevE, ↓z_getK, ↓z_getT, ↓z_AddI, ↓z_AddT, ↓z_AddO, ↓z_AddS, ↓z_MulI, ↓z_MulT, ↓z_LtI, ↓z_LtT, ↓z_IsN, ↓z_IntI, ↓z_SlT, ↓z_SlL, ↓z_SlO, ↓z_SlS, ↓z_Sub, ↓z_Mod, ↓z_Div, ↓z_Pow, ↓z_Le, ↓z_Gt, ↓z_Ge, ↓z_II, ↓varF_v, ↓varF_l, ↓mvF_o, ↓mvF_v, ↓mvF_s, ndF_some, ifB_t, ifB_f, con, sl, frzS, isB, tuO_t, daO, sqO_l, sqO_t, sqO_o, sqO_s, lsO, lenO_K, lenO_T, lenO_o, lenO_l, lenO_t, lenO_s, ngO, consO, argO, varsO, wrB, untag, owL, tyS, tyD_n, tyD_b, tyD_i, tyD_s, tyD_l, tyD_t, tyD_d, entryE, tagA, backA, wipeE, backE, keepS, seqD_l, seqD_t, seqV_l, seqV_t, liD_l, kyS, ksS, keyD_i, keyD_s, keysD, ixS, tupD_t, isDic, isT, eq_self, isNone_n, isNone_i, isNone_t, isNone_l, isNone_b, isNone_s, isNone_o, need_some, atI_0, atI_1, atI_2, atI_3, ixN_30, ixN_31, ixN_32, eqv_int, eqv_str, Int.toNat_natCast, List.getElem?_cons_zero, List.getElem?_cons_succ, List.getElem?_nil, List.set_cons_zero, List.set_cons_succ, List.length_cons, List.length_nil, Option.join_some, Option.join_none, List.replicate_succ, List.replicate_zero, List.cons_append, List.nil_append, Option.map_some, Nat.zero_add, Nat.reduceAdd, Nat.reduceSub, Bool.not_true, Bool.not_false, if_true, if_false, Bool.false_eq_true, true_and, and_true, decide_true, decide_false, Nat.reduceLeDiff, Nat.reduceEqDiff, reduceIte, reduceCtorEq, Bool.or_false, Bool.or_true, Bool.and_true, Bool.and_false, Bool.true_and, Bool.false_and, Bool.true_or, Bool.false_or, List.map_cons, List.map_nil, List.nodup_cons, List.nodup_nil, List.mem_cons, List.not_mem_nil, not_false_eq_true, or_false, false_or, seqV_S, seqV_R, eS, within_nat (i := m.A) (lo := 2) (hi := 9) (by omega) (by omega)]
  refine sp_tuple_of ?_
  have e1 : tupB (.tuple (m.rows.map eR)) 1 600 = true := by simp [tupB]; omega
  simp -dsimp only [↓z_K, ↓z_VarO, ↓z_Var, ↓z_Move, ↓z_Of, ↓z_Fz, ↓z_Res, ↓z_VNil, ↓z_VCons, ↓z_Tup, ↓z_Lst, ↓z_Op2, ↓z_Tst, ↓z_Not, ↓z_Chain, ↓z_AndV, ↓z_OrV, ↓z_NotV, ↓z_And, ↓z_Or, ↓z_If, ↓z_Next, ↓z_Seq, ↓z_Break, ↓z_Cont, ↓z_Exp, ↓z_Ret, ↓z_RetN, ↓z_IfS, ↓z_Nm, ↓z_Tp, ↓z_GN, ↓z_GC, ↓z_Asg, ↓z_ONil, ↓z_OCons, ↓z_SetIx, ↓z_Call, ↓z_Sq, ↓z_Rev, ↓z_For, ↓z_Wh, ↓z_Lc, ↓z_Lc2, ↓z_All, ↓z_All2, ↓z_Yes, ↓z_CB, ↓z_Isi, ↓z_Neg, ↓z_NoP, ↓z_Prt, ↓z_Sl, ↓z_App, ↓z_Pop, ↓z_VK, ↓z_VKs, ↓z_Eq, ↓z_InL, ↓z_InK, ↓z_InT, ↓z_In1, ↓z_In2, ↓z_In3, ↓z_In4, ↓z_IxS, ↓z_Ix1, ↓z_Ix2, ↓z_Ix3, ↓z_Ix4, ↓z_Ix5, ↓z_put1, ↓z_put2, ↓z_put3, ↓z_Len, ↓z_TupC, ↓z_LstC, ↓z_Repr, ↓z_NewD, ↓z_DisK, ↓z_DisT, ↓z_Get1, ↓z_Get2, ↓z_get2K, ↓z_get2T, ↓z_fin, ↓z_Rng1, ↓z_Rng2, ↓rng1F_i, ↓rng2F_i, ↓z_Enm, ↓z_EnmA, ↓enmAF_l, ↓enmAF_t, ↓enmF_l, ↓z_Zip, ↓zipF_l, ↓zipF_t, ↓z_Par, ↓parF_r, ↓z_Par3, ↓par3F_r, ↓z_Never, ↓z_NevE, ↓z_getK, ↓z_getT, ↓z_AddI, ↓z_AddT, ↓z_AddO, ↓z_AddS, ↓z_MulI, ↓z_MulT, ↓z_LtI, ↓z_LtT, ↓z_IsN, ↓z_IntI, ↓z_SlT, ↓z_SlL, ↓z_SlO, ↓z_SlS, ↓z_Sub, ↓z_Mod, ↓z_Div, ↓z_Pow, ↓z_Le, ↓z_Gt, ↓z_Ge, ↓z_II, ↓varF_v, ↓varF_l, ↓mvF_o, ↓mvF_v, ↓mvF_s, ndF_some, ifB_t, ifB_f, con, sl, frzS, isB, tuO_t, daO, sqO_l, sqO_t, sqO_o, sqO_s, lsO, lenO_K, lenO_T, lenO_o, lenO_l, lenO_t, lenO_s, ngO, consO, argO, varsO, wrB, untag, owL, tyS, tyD_n, tyD_b, tyD_i, tyD_s, tyD_l, tyD_t, tyD_d, entryE, tagA, backA, wipeE, backE, keepS, seqD_l, seqD_t, seqV_l, seqV_t, liD_l, kyS, ksS, keyD_i, keyD_s, keysD, ixS, tupD_t, isDic, isT, eq_self, isNone_n, isNone_i, isNone_t, isNone_l, isNone_b, isNone_s, isNone_o, need_some, atI_0, atI_1, atI_2, atI_3, ixN_30, ixN_31, ixN_32, eqv_int, eqv_str, Int.toNat_natCast, List.getElem?_cons_zero, List.getElem?_cons_succ, List.getElem?_nil, List.set_cons_zero, List.set_cons_succ, List.length_cons, List.length_nil, Option.join_some, Option.join_none, List.replicate_succ, List.replicate_zero, List.cons_append, List.nil_append, Option.map_some, Nat.zero_add, Nat.reduceAdd, Nat.reduceSub, Bool.not_true, Bool.not_false, if_true, if_false, Bool.false_eq_true, true_and, and_true, decide_true, decide_false, Nat.reduceLeDiff, Nat.reduceEqDiff, reduceIte, reduceCtorEq, Bool.or_false, Bool.or_true, Bool.and_true, Bool.and_false, Bool.true_and, Bool.false_and, Bool.true_or, Bool.false_or, List.map_cons, List.map_nil, List.nodup_cons, List.nodup_nil, List.mem_cons, List.not_mem_nil, not_false_eq_true, or_false, false_or, seqV_S, seqV_R, eS, e1]
  refine sp_are_rows ?_
  have e2 : decide ((m.rows.length : Int) ≤ 12) = true := decide_eq_true (by omega)
  simp -dsimp only [↓z_K, ↓z_VarO, ↓z_Var, ↓z_Move, ↓z_Of, ↓z_Fz, ↓z_Res, ↓z_VNil, ↓z_VCons, ↓z_Tup, ↓z_Lst, ↓z_Op2, ↓z_Tst, ↓z_Not, ↓z_Chain, ↓z_AndV, ↓z_OrV, ↓z_NotV, ↓z_And, ↓z_Or, ↓z_If, ↓z_Next, ↓z_Seq, ↓z_Break, ↓z_Cont, ↓z_Exp, ↓z_Ret, ↓z_RetN, ↓z_IfS, ↓z_Nm, ↓z_Tp, ↓z_GN, ↓z_GC, ↓z_Asg, ↓z_ONil, ↓z_OCons, ↓z_SetIx, ↓z_Call, ↓z_Sq, ↓z_Rev, ↓z_For, ↓z_Wh, ↓z_Lc, ↓z_Lc2, ↓z_All, ↓z_All2, ↓z_Yes, ↓z_CB, ↓z_Isi, ↓z_Neg, ↓z_NoP, ↓z_Prt, ↓z_Sl, ↓z_App, ↓z_Pop, ↓z_VK, ↓z_VKs, ↓z_Eq, ↓z_InL, ↓z_InK, ↓z_InT, ↓z_In1, ↓z_In2, ↓z_In3, ↓z_In4, ↓z_IxS, ↓z_Ix1, ↓z_Ix2, ↓z_Ix3, ↓z_Ix4, ↓z_Ix5, ↓z_put1, ↓z_put2, ↓z_put3, ↓z_Len, ↓z_TupC, ↓z_LstC, ↓z_Repr, ↓z_NewD, ↓z_DisK, ↓z_DisT, ↓z_Get1, ↓z_Get2, ↓z_get2K, ↓z_get2T, ↓z_fin, ↓z_Rng1, ↓z_Rng2, ↓rng1F_i, ↓rng2F_i, ↓z_Enm, ↓z_EnmA, ↓enmAF_l, ↓enmAF_t, ↓enmF_l, ↓z_Zip, ↓zipF_l, ↓zipF_t, ↓z_Par, ↓parF_r, ↓z_Par3, ↓par3F_r, ↓z_Never, ↓z_NevE, ↓z_getK, ↓z_getT, ↓z_AddI, ↓z_AddT, ↓z_AddO, ↓z_AddS, ↓z_MulI, ↓z_MulT, ↓z_LtI, ↓z_LtT, ↓z_IsN, ↓z_IntI, ↓z_SlT, ↓z_SlL, ↓z_SlO, ↓z_SlS, ↓z_Sub, ↓z_Mod, ↓z_Div, ↓z_Pow, ↓z_Le, ↓z_Gt, ↓z_Ge, ↓z_II, ↓varF_v, ↓varF_l, ↓mvF_o, ↓mvF_v, ↓mvF_s, ndF_some, ifB_t, ifB_f, con, sl, frzS, isB, tuO_t, daO, sqO_l, sqO_t, sqO_o, sqO_s, lsO, lenO_K, lenO_T, lenO_o, lenO_l, lenO_t, lenO_s, ngO, consO, argO, varsO, wrB, untag, owL, tyS, tyD_n, tyD_b, tyD_i, tyD_s, tyD_l, tyD_t, tyD_d, entryE, tagA, backA, wipeE, backE, keepS, seqD_l, seqD_t, seqV_l, seqV_t, liD_l, kyS, ksS, keyD_i, keyD_s, keysD, ixS, tupD_t, isDic, isT, eq_self, isNone_n, isNone_i, isNone_t, isNone_l, isNone_b, isNone_s, isNone_o, need_some, atI_0, atI_1, atI_2, atI_3, ixN_30, ixN_31, ixN_32, eqv_int, eqv_str, Int.toNat_natCast, List.getElem?_cons_zero, List.getElem?_cons_succ, List.getElem?_nil, List.set_cons_zero, List.set_cons_succ, List.length_cons, List.length_nil, Option.join_some, Option.join_none, List.replicate_succ, List.replicate_zero, List.cons_append, List.nil_append, Option.map_some, Nat.zero_add, Nat.reduceAdd, Nat.reduceSub, Bool.not_true, Bool.not_false, if_true, if_false, Bool.false_eq_true, true_and, and_true, decide_true, decide_false, Nat.reduceLeDiff, Nat.reduceEqDiff, reduceIte, reduceCtorEq, Bool.or_false, Bool.or_true, Bool.and_true, Bool.and_false, Bool.true_and, Bool.false_and, Bool.true_or, Bool.false_or, List.map_cons, List.map_nil, List.nodup_cons, List.nodup_nil, List.mem_cons, List.not_mem_nil, not_false_eq_true, or_false, false_or, seqV_S, seqV_R, rows_good hm.gap, List.length_map, e2]
  exact h
theorem sp_need_sketch {m : Sk} {Q : Slot → List Slot → Prop} {X : Value → Prop} (hm : Small m) (h : Q (.val .none) [.val (eS m)]) : fs_need_sketch [.val (eS m)] Q X := by
  refine ⟨rfl, ?_⟩
  unfold w_need_sketch
  simp -dsimp only [↓z_K, ↓z_VarO, ↓z_Var, ↓z_Move, ↓z_Of, ↓z_Fz, ↓z_Res, ↓z_VNil, ↓z_VCons, ↓z_Tup, ↓z_Lst, ↓z_Op2, ↓z_Tst, ↓z_Not, ↓z_Chain, ↓z_AndV, ↓z_OrV, ↓z_NotV, ↓z_And, ↓z_Or, ↓z_If, ↓z_Next, ↓z_Seq, ↓z_Break, ↓z_Cont, ↓z_Exp, ↓z_Ret, ↓z_RetN, ↓z_IfS, ↓z_Nm, ↓z_Tp, ↓z_GN, ↓z_GC, ↓z_Asg, ↓z_ONil, ↓z_OCons, ↓z_SetIx, ↓z_Call, ↓z_Sq, ↓z_Rev, ↓z_For, ↓z_Wh, ↓z_Lc, ↓z_Lc2, ↓z_All, ↓z_All2, ↓z_Yes, ↓z_CB, ↓z_Isi, ↓z_Neg, ↓z_NoP, ↓z_Prt, ↓z_Sl, ↓z_App, ↓z_Pop, ↓z_VK, ↓z_VKs, ↓z_Eq, ↓z_InL, ↓z_InK, ↓z_InT, ↓z_In1, ↓z_In2, ↓z_In3, ↓z_In4, ↓z_IxS, ↓z_Ix1, ↓z_Ix2, ↓z_Ix3, ↓z_Ix4, ↓z_Ix5, ↓z_put1, ↓z_put2, ↓z_put3, ↓z_Len, ↓z_TupC, ↓z_LstC, ↓z_Repr, ↓z_NewD, ↓z_DisK, ↓z_DisT, ↓z_Get1, ↓z_Get2, ↓z_get2K, ↓z_get2T, ↓z_fin, ↓z_Rng1, ↓z_Rng2, ↓rng1F_i, ↓rng2F_i, ↓z_Enm, ↓z_EnmA, ↓enmAF_l, ↓enmAF_t, ↓enmF_l, ↓z_Zip, ↓zipF_l, ↓zipF_t, ↓z_Par, ↓parF_r, ↓z_Par3, ↓par3F_r, ↓z_Never, ↓z_NevE, ↓z_getK, ↓z_getT, ↓z_AddI, ↓z_AddT, ↓z_AddO, ↓z_AddS, ↓z_MulI, ↓z_MulT, ↓z_LtI, ↓z_LtT, ↓z_IsN, ↓z_IntI, ↓z_SlT, ↓z_SlL, ↓z_SlO, ↓z_SlS, ↓z_Sub, ↓z_Mod, ↓z_Div, ↓z_Pow, ↓z_Le, ↓z_Gt, ↓z_Ge, ↓z_II, ↓varF_v, ↓varF_l, ↓mvF_o, ↓mvF_v, ↓mvF_s, ndF_some, ifB_t, ifB_f, con, sl, frzS, isB, tuO_t, daO, sqO_l, sqO_t, sqO_o, sqO_s, lsO, lenO_K, lenO_T, lenO_o, lenO_l, lenO_t, lenO_s, ngO, consO, argO, varsO, wrB, untag, owL, tyS, tyD_n, tyD_b, tyD_i, tyD_s, tyD_l, tyD_t, tyD_d, entryE, tagA, backA, wipeE, backE, keepS, seqD_l, seqD_t, seqV_l, seqV_t, liD_l, kyS, ksS, keyD_i, keyD_s, keysD, ixS, tupD_t, isDic, isT, eq_self, isNone_n, isNone_i, isNone_t, isNone_l, isNone_b, isNone_s, isNone_o, need_some, atI_0, atI_1, atI_2, atI_3, ixN_30, ixN_31, ixN_32, eqv_int, eqv_str, Int.toNat_natCast, List.getElem?_cons_zero, List.getElem?_cons_succ, List.getElem?_nil, List.set_cons_zero, List.set_cons_succ, List.length_cons, List.length_nil, Option.join_some, Option.join_none, List.replicate_succ, List.replicate_zero, List.cons_append, List.nil_append, Option.map_some, Nat.zero_add, Nat.reduceAdd, Nat.reduceSub, Bool.not_true, Bool.not_false, if_true, if_false, Bool.false_eq_true, true_and, and_true, decide_true, decide_false, Nat.reduceLeDiff, Nat.reduceEqDiff, reduceIte, reduceCtorEq, Bool.or_false, Bool.or_true, Bool.and_true, Bool.and_false, Bool.true_and, Bool.false_and, Bool.true_or, Bool.false_or, List.map_cons, List.map_nil, List.nodup_cons, List.nodup_nil, List.mem_cons, List.not_mem_nil, not_false_eq_true, or_false, false_or, seqV_S, seqV_R]
  refine sp_sketch_form hm ?_
  simp -dsimp only [↓z_K, ↓z_VarO, ↓z_Var, ↓z_Move, ↓z_Of, ↓z_Fz, ↓z_Res, ↓z_VNil, ↓z_VCons, ↓z_Tup, ↓z_Lst, ↓z_Op2, ↓z_Tst, ↓z_Not, ↓z_Chain, ↓z_AndV, ↓z_OrV, ↓z_NotV, ↓z_And, ↓z_Or, ↓z_If, ↓z_Next, ↓z_Seq, ↓z_Break, ↓z_Cont, ↓z_Exp, ↓z_Ret, ↓z_RetN, ↓z_IfS, ↓z_Nm, ↓z_Tp, ↓z_GN, ↓z_GC, ↓z_Asg, ↓z_ONil, ↓z_OCons, ↓z_SetIx, ↓z_Call, ↓z_Sq, ↓z_Rev, ↓z_For, ↓z_Wh, ↓z_Lc, ↓z_Lc2, ↓z_All, ↓z_All2, ↓z_Yes, ↓z_CB, ↓z_Isi, ↓z_Neg, ↓z_NoP, ↓z_Prt, ↓z_Sl, ↓z_App, ↓z_Pop, ↓z_VK, ↓z_VKs, ↓z_Eq, ↓z_InL, ↓z_InK, ↓z_InT, ↓z_In1, ↓z_In2, ↓z_In3, ↓z_In4, ↓z_IxS, ↓z_Ix1, ↓z_Ix2, ↓z_Ix3, ↓z_Ix4, ↓z_Ix5, ↓z_put1, ↓z_put2, ↓z_put3, ↓z_Len, ↓z_TupC, ↓z_LstC, ↓z_Repr, ↓z_NewD, ↓z_DisK, ↓z_DisT, ↓z_Get1, ↓z_Get2, ↓z_get2K, ↓z_get2T, ↓z_fin, ↓z_Rng1, ↓z_Rng2, ↓rng1F_i, ↓rng2F_i, ↓z_Enm, ↓z_EnmA, ↓enmAF_l, ↓enmAF_t, ↓enmF_l, ↓z_Zip, ↓zipF_l, ↓zipF_t, ↓z_Par, ↓parF_r, ↓z_Par3, ↓par3F_r, ↓z_Never, ↓z_NevE, ↓z_getK, ↓z_getT, ↓z_AddI, ↓z_AddT, ↓z_AddO, ↓z_AddS, ↓z_MulI, ↓z_MulT, ↓z_LtI, ↓z_LtT, ↓z_IsN, ↓z_IntI, ↓z_SlT, ↓z_SlL, ↓z_SlO, ↓z_SlS, ↓z_Sub, ↓z_Mod, ↓z_Div, ↓z_Pow, ↓z_Le, ↓z_Gt, ↓z_Ge, ↓z_II, ↓varF_v, ↓varF_l, ↓mvF_o, ↓mvF_v, ↓mvF_s, ndF_some, ifB_t, ifB_f, con, sl, frzS, isB, tuO_t, daO, sqO_l, sqO_t, sqO_o, sqO_s, lsO, lenO_K, lenO_T, lenO_o, lenO_l, lenO_t, lenO_s, ngO, consO, argO, varsO, wrB, untag, owL, tyS, tyD_n, tyD_b, tyD_i, tyD_s, tyD_l, tyD_t, tyD_d, entryE, tagA, backA, wipeE, backE, keepS, seqD_l, seqD_t, seqV_l, seqV_t, liD_l, kyS, ksS, keyD_i, keyD_s, keysD, ixS, tupD_t, isDic, isT, eq_self, isNone_n, isNone_i, isNone_t, isNone_l, isNone_b, isNone_s, isNone_o, need_some, atI_0, atI_1, atI_2, atI_3, ixN_30, ixN_31, ixN_32, eqv_int, eqv_str, Int.toNat_natCast, List.getElem?_cons_zero, List.getElem?_cons_succ, List.getElem?_nil, List.set_cons_zero, List.set_cons_succ, List.length_cons, List.length_nil, Option.join_some, Option.join_none, List.replicate_succ, List.replicate_zero, List.cons_append, List.nil_append, Option.map_some, Nat.zero_add, Nat.reduceAdd, Nat.reduceSub, Bool.not_true, Bool.not_false, if_true, if_false, Bool.false_eq_true, true_and, and_true, decide_true, decide_false, Nat.reduceLeDiff, Nat.reduceEqDiff, reduceIte, reduceCtorEq, Bool.or_false, Bool.or_true, Bool.and_true, Bool.and_false, Bool.true_and, Bool.false_and, Bool.true_or, Bool.false_or, List.map_cons, List.map_nil, List.nodup_cons, List.nodup_nil, List.mem_cons, List.not_mem_nil, not_false_eq_true, or_false, false_or, seqV_S, seqV_R]
  exact h
theorem sp_machine_form {m : Sk} {Q : Slot → List Slot → Prop} {X : Value → Prop} (hm : Mach m) (h : Q (.val (.bool true)) [.val (eS m)]) : fs_is_machine_form [.val (eS m)] Q X := by
  have := hm.l1; have := hm.l3; have := hm.a2; have := hm.a9; have := hm.n1; have := hm.n12
  refine ⟨rfl, ?_⟩
  unfold w_is_machine_form
  simp -dsimp only [↓z_K, ↓z_VarO, ↓z_Var, ↓z_Move, ↓z_Of, ↓z_Fz, ↓z_Res, ↓z_VNil, ↓z_VCons, ↓z_Tup, ↓z_Lst, ↓z_Op2, ↓z_Tst, ↓z_Not, ↓z_Chain, ↓z_AndV, ↓z_OrV, ↓z_NotV, ↓z_And, ↓z_Or, ↓z_If, ↓z_Next, ↓z_Seq, ↓z_Break, ↓z_Cont, ↓z_Exp, ↓z_Ret, ↓z_RetN, ↓z_IfS, ↓z_Nm, ↓z_Tp, ↓z_GN, ↓z_GC, ↓z_Asg, ↓z_ONil, ↓z_OCons, ↓z_SetIx, ↓z_Call, ↓z_Sq, ↓z_Rev, ↓z_For, ↓z_Wh, ↓z_Lc, ↓z_Lc2, ↓z_All, ↓z_All2, ↓z_Yes, ↓z_CB, ↓z_Isi, ↓z_Neg, ↓z_NoP, ↓z_Prt, ↓z_Sl, ↓z_App, ↓z_Pop, ↓z_VK, ↓z_VKs, ↓z_Eq, ↓z_InL, ↓z_InK, ↓z_InT, ↓z_In1, ↓z_In2, ↓z_In3, ↓z_In4, ↓z_IxS, ↓z_Ix1, ↓z_Ix2, ↓z_Ix3, ↓z_Ix4, ↓z_Ix5, ↓z_put1, ↓z_put2, ↓z_put3, ↓z_Len, ↓z_TupC, ↓z_LstC, ↓z_Repr, ↓z_NewD, ↓z_DisK, ↓z_DisT, ↓z_Get1, ↓z_Get2, ↓z_get2K, ↓z_get2T, ↓z_fin, ↓z_Rng1, ↓z_Rng2, ↓rng1F_i, ↓rng2F_i, ↓z_Enm, ↓z_EnmA, ↓enmAF_l, ↓enmAF_t, ↓enmF_l, ↓z_Zip, ↓zipF_l, ↓zipF_t, ↓z_Par, ↓parF_r, ↓z_Par3, ↓par3F_r, ↓z_Never, ↓z_NevE, ↓z_getK, ↓z_getT, ↓z_AddI, ↓z_AddT, ↓z_AddO, ↓z_AddS, ↓z_MulI, ↓z_MulT, ↓z_LtI, ↓z_LtT, ↓z_IsN, ↓z_IntI, ↓z_SlT, ↓z_SlL, ↓z_SlO, ↓z_SlS, ↓z_Sub, ↓z_Mod, ↓z_Div, ↓z_Pow, ↓z_Le, ↓z_Gt, ↓z_Ge, ↓z_II, ↓varF_v, ↓varF_l, ↓mvF_o, ↓mvF_v, ↓mvF_s, ndF_some, ifB_t, ifB_f, con, sl, frzS, isB, tuO_t, daO, sqO_l, sqO_t, sqO_o, sqO_s, lsO, lenO_K, lenO_T, lenO_o, lenO_l, lenO_t, lenO_s, ngO, consO, argO, varsO, wrB, untag, owL, tyS, tyD_n, tyD_b, tyD_i, tyD_s, tyD_l, tyD_t, tyD_d, entryE, tagA, backA, wipeE, backE, keepS, seqD_l, seqD_t, seqV_l, seqV_t, liD_l, kyS, ksS, keyD_i, keyD_s, keysD, ixS, tupD_t, isDic, isT, eq_self, isNone_n, isNone_i, isNone_t, isNone_l, isNone_b, isNone_s, isNone_o, need_some, atI_0, atI_1, atI_2, atI_3, ixN_30, ixN_31, ixN_32, eqv_int, eqv_str, Int.toNat_natCast, List.getElem?_cons_zero, List.getElem?_cons_succ, List.getElem?_nil, List.set_cons_zero, List.set_cons_succ, List.length_cons, List.length_nil, Option.join_some, Option.join_none, List.replicate_succ, List.replicate_zero, List.cons_append, List.nil_append, Option.map_some, Nat.zero_add, Nat.reduceAdd, Nat.reduceSub, Bool.not_true, Bool.not_false, if_true, if_false, Bool.false_eq_true, true_and, and_true, decide_true, decide_false, Nat.reduceLeDiff, Nat.reduceEqDiff, reduceIte, reduceCtorEq, Bool.or_false, Bool.or_true, Bool.and_true, Bool.and_false, Bool.true_and, Bool.false_and, Bool.true_or, Bool.false_or, List.map_cons, List.map_nil, List.nodup_cons, List.nodup_nil, List.mem_cons, List.not_mem_nil, not_false_eq_true, or_false, false_or, seqV_S, seqV_R]
  refine sp_sketch_form hm.small ?_
  have e2 : decide ((12 : Int) < (m.rows.length : Int)) = false := decide_eq_false (by omega)
  simp -dsimp only [↓z_K, ↓z_VarO, ↓z_Var, ↓z_Move, ↓z_Of, ↓z_Fz, ↓z_Res, ↓z_VNil, ↓z_VCons, ↓z_Tup, ↓z_Lst, ↓z_Op2, ↓z_Tst, ↓z_Not, ↓z_Chain, ↓z_AndV, ↓z_OrV, ↓z_NotV, ↓z_And, ↓z_Or, ↓z_If, ↓z_Next, ↓z_Seq, ↓z_Break, ↓z_Cont, ↓z_Exp, ↓z_Ret, ↓z_RetN, ↓z_IfS, ↓z_Nm, ↓z_Tp, ↓z_GN, ↓z_GC, ↓z_Asg, ↓z_ONil, ↓z_OCons, ↓z_SetIx, ↓z_Call, ↓z_Sq, ↓z_Rev, ↓z_For, ↓z_Wh, ↓z_Lc, ↓z_Lc2, ↓z_All, ↓z_All2, ↓z_Yes, ↓z_CB, ↓z_Isi, ↓z_Neg, ↓z_NoP, ↓z_Prt, ↓z_Sl, ↓z_App, ↓z_Pop, ↓z_VK, ↓z_VKs, ↓z_Eq, ↓z_InL, ↓z_InK, ↓z_InT, ↓z_In1, ↓z_In2, ↓z_In3, ↓z_In4, ↓z_IxS, ↓z_Ix1, ↓z_Ix2, ↓z_Ix3, ↓z_Ix4, ↓z_Ix5, ↓z_put1, ↓z_put2, ↓z_put3, ↓z_Len, ↓z_TupC, ↓z_LstC, ↓z_Repr, ↓z_NewD, ↓z_DisK, ↓z_DisT, ↓z_Get1, ↓z_Get2, ↓z_get2K, ↓z_get2T, ↓z_fin, ↓z_Rng1, ↓z_Rng2, ↓rng1F_i, ↓rng2F_i, ↓z_Enm, ↓z_EnmA, ↓enmAF_l, ↓enmAF_t, ↓enmF_l, ↓z_Zip, ↓zipF_l, ↓zipF_t, ↓z_Par, ↓parF_r, ↓z_Par3, ↓par3F_r, ↓z_Never, ↓z_NevE, ↓z_getK, ↓z_getT, ↓z_AddI, ↓z_AddT, ↓z_AddO, ↓z_AddS, ↓z_MulI, ↓z_MulT, ↓z_LtI, ↓z_LtT, ↓z_IsN, ↓z_IntI, ↓z_SlT, ↓z_SlL, ↓z_SlO, ↓z_SlS, ↓z_Sub, ↓z_Mod, ↓z_Div, ↓z_Pow, ↓z_Le, ↓z_Gt, ↓z_Ge, ↓z_II, ↓varF_v, ↓varF_l, ↓mvF_o, ↓mvF_v, ↓mvF_s, ndF_some, ifB_t, ifB_f, con, sl, frzS, isB, tuO_t, daO, sqO_l, sqO_t, sqO_o, sqO_s, lsO, lenO_K, lenO_T, lenO_o, lenO_l, lenO_t, lenO_s, ngO, consO, argO, varsO, wrB, untag, owL, tyS, tyD_n, tyD_b, tyD_i, tyD_s, tyD_l, tyD_t, tyD_d, entryE, tagA, backA, wipeE, backE, keepS, seqD_l, seqD_t, seqV_l, seqV_t, liD_l, kyS, ksS, keyD_i, keyD_s, keysD, ixS, tupD_t, isDic, isT, eq_self, isNone_n, isNone_i, isNone_t, isNone_l, isNone_b, isNone_s, isNone_o, need_some, atI_0, atI_1, atI_2, atI_3, ixN_30, ixN_31, ixN_32, eqv_int, eqv_str, Int.toNat_natCast, List.getElem?_cons_zero, List.getElem?_cons_succ, List.getElem?_nil, List.set_cons_zero, List.set_cons_succ, List.length_cons, List.length_nil, Option.join_some, Option.join_none, List.replicate_succ, List.replicate_zero, List.cons_append, List.nil_append, Option.map_some, Nat.zero_add, Nat.reduceAdd, Nat.reduceSub, Bool.not_true, Bool.not_false, if_true, if_false, Bool.false_eq_true, true_and, and_true, decide_true, decide_false, Nat.reduceLeDiff, Nat.reduceEqDiff, reduceIte, reduceCtorEq, Bool.or_false, Bool.or_true, Bool.and_true, Bool.and_false, Bool.true_and, Bool.false_and, Bool.true_or, Bool.false_or, List.map_cons, List.map_nil, List.nodup_cons, List.nodup_nil, List.mem_cons, List.not_mem_nil, not_false_eq_true, or_false, false_or, seqV_S, seqV_R, eS, List.length_map, e2]
  refine al2_inv (fun i e => ∃ x1 x2, e = [some (.val (eS m)), x1, x2]) ⟨_, _, rfl⟩ ?_ ?_
  · rintro i d e N hd ⟨x1, x2, rfl⟩ hN
    rw [List.getElem?_map, Option.map_eq_some_iff] at hd
    obtain ⟨r, hr, rfl⟩ := hd
    obtain ⟨h1, h2⟩ := hm.full r (List.mem_of_getElem? hr)
    unfold w_is_machine_form_s1
    simp -dsimp only [↓z_K, ↓z_VarO, ↓z_Var, ↓z_Move, ↓z_Of, ↓z_Fz, ↓z_Res, ↓z_VNil, ↓z_VCons, ↓z_Tup, ↓z_Lst, ↓z_Op2, ↓z_Tst, ↓z_Not, ↓z_Chain, ↓z_AndV, ↓z_OrV, ↓z_NotV, ↓z_And, ↓z_Or, ↓z_If, ↓z_Next, ↓z_Seq, ↓z_Break, ↓z_Cont, ↓z_Exp, ↓z_Ret, ↓z_RetN, ↓z_IfS, ↓z_Nm, ↓z_Tp, ↓z_GN, ↓z_GC, ↓z_Asg, ↓z_ONil, ↓z_OCons, ↓z_SetIx, ↓z_Call, ↓z_Sq, ↓z_Rev, ↓z_For, ↓z_Wh, ↓z_Lc, ↓z_Lc2, ↓z_All, ↓z_All2, ↓z_Yes, ↓z_CB, ↓z_Isi, ↓z_Neg, ↓z_NoP, ↓z_Prt, ↓z_Sl, ↓z_App, ↓z_Pop, ↓z_VK, ↓z_VKs, ↓z_Eq, ↓z_InL, ↓z_InK, ↓z_InT, ↓z_In1, ↓z_In2, ↓z_In3, ↓z_In4, ↓z_IxS, ↓z_Ix1, ↓z_Ix2, ↓z_Ix3, ↓z_Ix4, ↓z_Ix5, ↓z_put1, ↓z_put2, ↓z_put3, ↓z_Len, ↓z_TupC, ↓z_LstC, ↓z_Repr, ↓z_NewD, ↓z_DisK, ↓z_DisT, ↓z_Get1, ↓z_Get2, ↓z_get2K, ↓z_get2T, ↓z_fin, ↓z_Rng1, ↓z_Rng2, ↓rng1F_i, ↓rng2F_i, ↓z_Enm, ↓z_EnmA, ↓enmAF_l, ↓enmAF_t, ↓enmF_l, ↓z_Zip, ↓zipF_l, ↓zipF_t, ↓z_Par, ↓parF_r, ↓z_Par3, ↓par3F_r, ↓z_Never, ↓z_NevE, ↓z_getK, ↓z_getT, ↓z_AddI, ↓z_AddT, ↓z_AddO, ↓z_AddS, ↓z_MulI, ↓z_MulT, ↓z_LtI, ↓z_LtT, ↓z_IsN, ↓z_IntI, ↓z_SlT, ↓z_SlL, ↓z_SlO, ↓z_SlS, ↓z_Sub, ↓z_Mod, ↓z_Div, ↓z_Pow, ↓z_Le, ↓z_Gt, ↓z_Ge, ↓z_II, ↓varF_v, ↓varF_l, ↓mvF_o, ↓mvF_v, ↓mvF_s, ndF_some, ifB_t, ifB_f, con, sl, frzS, isB, tuO_t, daO, sqO_l, sqO_t, sqO_o, sqO_s, lsO, lenO_K, lenO_T, lenO_o, lenO_l, lenO_t, lenO_s, ngO, consO, argO, varsO, wrB, untag, owL, tyS, tyD_n, tyD_b, tyD_i, tyD_s, tyD_l, tyD_t, tyD_d, entryE, tagA, backA, wipeE, backE, keepS, seqD_l, seqD_t, seqV_l, seqV_t, liD_l, kyS, ksS, keyD_i, keyD_s, keysD, ixS, tupD_t, isDic, isT, eq_self, isNone_n, isNone_i, isNone_t, isNone_l, isNone_b, isNone_s, isNone_o, need_some, atI_0, atI_1, atI_2, atI_3, ixN_30, ixN_31, ixN_32, eqv_int, eqv_str, Int.toNat_natCast, List.getElem?_cons_zero, List.getElem?_cons_succ, List.getElem?_nil, List.set_cons_zero, List.set_cons_succ, List.length_cons, List.length_nil, Option.join_some, Option.join_none, List.replicate_succ, List.replicate_zero, List.cons_append, List.nil_append, Option.map_some, Nat.zero_add, Nat.reduceAdd, Nat.reduceSub, Bool.not_true, Bool.not_false, if_true, if_false, Bool.false_eq_true, true_and, and_true, decide_true, decide_false, Nat.reduceLeDiff, Nat.reduceEqDiff, reduceIte, reduceCtorEq, Bool.or_false, Bool.or_true, Bool.and_true, Bool.and_false, Bool.true_and, Bool.false_and, Bool.true_or, Bool.false_or, List.map_cons, List.map_nil, List.nodup_cons, List.nodup_nil, List.mem_cons, List.not_mem_nil, not_false_eq_true, or_false, false_or, seqV_S, seqV_R, eR, List.length_map]
    refine ⟨by omega, ?_⟩
    refine al_inv (fun i e => ∃ x2, e = [some (.val (eS m)), some (.val (eR r)), x2]) ⟨_, rfl⟩ ?_ ?_
    · rintro j d e N2 hd2 ⟨x2, rfl⟩ hN2
      rw [List.getElem?_map, Option.map_eq_some_iff] at hd2
      obtain ⟨x, hx, rfl⟩ := hd2
      obtain ⟨s, a, rfl, _⟩ := h2 x (List.mem_of_getElem? hx)
      unfold w_is_machine_form_g1
      simp -dsimp only [↓z_K, ↓z_VarO, ↓z_Var, ↓z_Move, ↓z_Of, ↓z_Fz, ↓z_Res, ↓z_VNil, ↓z_VCons, ↓z_Tup, ↓z_Lst, ↓z_Op2, ↓z_Tst, ↓z_Not, ↓z_Chain, ↓z_AndV, ↓z_OrV, ↓z_NotV, ↓z_And, ↓z_Or, ↓z_If, ↓z_Next, ↓z_Seq, ↓z_Break, ↓z_Cont, ↓z_Exp, ↓z_Ret, ↓z_RetN, ↓z_IfS, ↓z_Nm, ↓z_Tp, ↓z_GN, ↓z_GC, ↓z_Asg, ↓z_ONil, ↓z_OCons, ↓z_SetIx, ↓z_Call, ↓z_Sq, ↓z_Rev, ↓z_For, ↓z_Wh, ↓z_Lc, ↓z_Lc2, ↓z_All, ↓z_All2, ↓z_Yes, ↓z_CB, ↓z_Isi, ↓z_Neg, ↓z_NoP, ↓z_Prt, ↓z_Sl, ↓z_App, ↓z_Pop, ↓z_VK, ↓z_VKs, ↓z_Eq, ↓z_InL, ↓z_InK, ↓z_InT, ↓z_In1, ↓z_In2, ↓z_In3, ↓z_In4, ↓z_IxS, ↓z_Ix1, ↓z_Ix2, ↓z_Ix3, ↓z_Ix4, ↓z_Ix5, ↓z_put1, ↓z_put2, ↓z_put3, ↓z_Len, ↓z_TupC, ↓z_LstC, ↓z_Repr, ↓z_NewD, ↓z_DisK, ↓z_DisT, ↓z_Get1, ↓z_Get2, ↓z_get2K, ↓z_get2T, ↓z_fin, ↓z_Rng1, ↓z_Rng2, ↓rng1F_i, ↓rng2F_i, ↓z_Enm, ↓z_EnmA, ↓enmAF_l, ↓enmAF_t, ↓enmF_l, ↓z_Zip, ↓zipF_l, ↓zipF_t, ↓z_Par, ↓parF_r, ↓z_Par3, ↓par3F_r, ↓z_Never, ↓z_NevE, ↓z_getK, ↓z_getT, ↓z_AddI, ↓z_AddT, ↓z_AddO, ↓z_AddS, ↓z_MulI, ↓z_MulT, ↓z_LtI, ↓z_LtT, ↓z_IsN, ↓z_IntI, ↓z_SlT, ↓z_SlL, ↓z_SlO, ↓z_SlS, ↓z_Sub, ↓z_Mod, ↓z_Div, ↓z_Pow, ↓z_Le, ↓z_Gt, ↓z_Ge, ↓z_II, ↓varF_v, ↓varF_l, ↓mvF_o, ↓mvF_v, ↓mvF_s, ndF_some, ifB_t, ifB_f, con, sl, frzS, isB, tuO_t, daO, sqO_l, sqO_t, sqO_o, sqO_s, lsO, lenO_K, lenO_T, lenO_o, lenO_l, lenO_t, lenO_s, ngO, consO, argO, varsO, wrB, untag, owL, tyS, tyD_n, tyD_b, tyD_i, tyD_s, tyD_l, tyD_t, tyD_d, entryE, tagA, backA, wipeE, backE, keepS, seqD_l, seqD_t, seqV_l, seqV_t, liD_l, kyS, ksS, keyD_i, keyD_s, keysD, ixS, tupD_t, isDic, isT, eq_self, isNone_n, isNone_i, isNone_t, isNone_l, isNone_b, isNone_s, isNone_o, need_some, atI_0, atI_1, atI_2, atI_3, ixN_30, ixN_31, ixN_32, eqv_int, eqv_str, Int.toNat_natCast, List.getElem?_cons_zero, List.getElem?_cons_succ, List.getElem?_nil, List.set_cons_zero, List.set_cons_succ, List.length_cons, List.length_nil, Option.join_some, Option.join_none, List.replicate_succ, List.replicate_zero, List.cons_append, List.nil_append, Option.map_some, Nat.zero_add, Nat.reduceAdd, Nat.reduceSub, Bool.not_true, Bool.not_false, if_true, if_false, Bool.false_eq_true, true_and, and_true, decide_true, decide_false, Nat.reduceLeDiff, Nat.reduceEqDiff, reduceIte, reduceCtorEq, Bool.or_false, Bool.or_true, Bool.and_true, Bool.and_false, Bool.true_and, Bool.false_and, Bool.true_or, Bool.false_or, List.map_cons, List.map_nil, List.nodup_cons, List.nodup_nil, List.mem_cons, List.not_mem_nil, not_false_eq_true, or_false, false_or, seqV_S, seqV_R, eE]
      exact hN2 _ ⟨_, rfl⟩
    · rintro e ⟨x2, rfl⟩
      simp -dsimp only [↓z_K, ↓z_VarO, ↓z_Var, ↓z_Move, ↓z_Of, ↓z_Fz, ↓z_Res, ↓z_VNil, ↓z_VCons, ↓z_Tup, ↓z_Lst, ↓z_Op2, ↓z_Tst, ↓z_Not, ↓z_Chain, ↓z_AndV, ↓z_OrV, ↓z_NotV, ↓z_And, ↓z_Or, ↓z_If, ↓z_Next, ↓z_Seq, ↓z_Break, ↓z_Cont, ↓z_Exp, ↓z_Ret, ↓z_RetN, ↓z_IfS, ↓z_Nm, ↓z_Tp, ↓z_GN, ↓z_GC, ↓z_Asg, ↓z_ONil, ↓z_OCons, ↓z_SetIx, ↓z_Call, ↓z_Sq, ↓z_Rev, ↓z_For, ↓z_Wh, ↓z_Lc, ↓z_Lc2, ↓z_All, ↓z_All2, ↓z_Yes, ↓z_CB, ↓z_Isi, ↓z_Neg, ↓z_NoP, ↓z_Prt, ↓z_Sl, ↓z_App, ↓z_Pop, ↓z_VK, ↓z_VKs, ↓z_Eq, ↓z_InL, ↓z_InK, ↓z_InT, ↓z_In1, ↓z_In2, ↓z_In3, ↓z_In4, ↓z_IxS, ↓z_Ix1, ↓z_Ix2, ↓z_Ix3, ↓z_Ix4, ↓z_Ix5, ↓z_put1, ↓z_put2, ↓z_put3, ↓z_Len, ↓z_TupC, ↓z_LstC, ↓z_Repr, ↓z_NewD, ↓z_DisK, ↓z_DisT, ↓z_Get1, ↓z_Get2, ↓z_get2K, ↓z_get2T, ↓z_fin, ↓z_Rng1, ↓z_Rng2, ↓rng1F_i, ↓rng2F_i, ↓z_Enm, ↓z_EnmA, ↓enmAF_l, ↓enmAF_t, ↓enmF_l, ↓z_Zip, ↓zipF_l, ↓zipF_t, ↓z_Par, ↓parF_r, ↓z_Par3, ↓par3F_r, ↓z_Never, ↓z_NevE, ↓z_getK, ↓z_getT, ↓z_AddI, ↓z_AddT, ↓z_AddO, ↓z_AddS, ↓z_MulI, ↓z_MulT, ↓z_LtI, ↓z_LtT, ↓z_IsN, ↓z_IntI, ↓z_SlT, ↓z_SlL, ↓z_SlO, ↓z_SlS, ↓z_Sub, ↓z_Mod, ↓z_Div, ↓z_Pow, ↓z_Le, ↓z_Gt, ↓z_Ge, ↓z_II, ↓varF_v, ↓varF_l, ↓mvF_o, ↓mvF_v, ↓mvF_s, ndF_some, ifB_t, ifB_f, con, sl, frzS, isB, tuO_t, daO, sqO_l, sqO_t, sqO_o, sqO_s, lsO, lenO_K, lenO_T, lenO_o, lenO_l, lenO_t, lenO_s, ngO, consO, argO, varsO, wrB, untag, owL, tyS, tyD_n, tyD_b, tyD_i, tyD_s, tyD_l, tyD_t, tyD_d, entryE, tagA, backA, wipeE, backE, keepS, seqD_l, seqD_t, seqV_l, seqV_t, liD_l, kyS, ksS, keyD_i, keyD_s, keysD, ixS, tupD_t, isDic, isT, eq_self, isNone_n, isNone_i, isNone_t, isNone_l, isNone_b, isNone_s, isNone_o, need_some, atI_0, atI_1, atI_2, atI_3, ixN_30, ixN_31, ixN_32, eqv_int, eqv_str, Int.toNat_natCast, List.getElem?_cons_zero, List.getElem?_cons_succ, List.getElem?_nil, List.set_cons_zero, List.set_cons_succ, List.length_cons, List.length_nil, Option.join_some, Option.join_none, List.replicate_succ, List.replicate_zero, List.cons_append, List.nil_append, Option.map_some, Nat.zero_add, Nat.reduceAdd, Nat.reduceSub, Bool.not_true, Bool.not_false, if_true, if_false, Bool.false_eq_true, true_and, and_true, decide_true, decide_false, Nat.reduceLeDiff, Nat.reduceEqDiff, reduceIte, reduceCtorEq, Bool.or_false, Bool.or_true, Bool.and_true, Bool.and_false, Bool.true_and, Bool.false_and, Bool.true_or, Bool.false_or, List.map_cons, List.map_nil, List.nodup_cons, List.nodup_nil, List.mem_cons, List.not_mem_nil, not_false_eq_true, or_false, false_or, seqV_S, seqV_R]
      exact hN _ ⟨_, _, rfl⟩
  · rintro e ⟨x1, x2, rfl⟩
    simp -dsimp only [↓z_K, ↓z_VarO, ↓z_Var, ↓z_Move, ↓z_Of, ↓z_Fz, ↓z_Res, ↓z_VNil, ↓z_VCons, ↓z_Tup, ↓z_Lst, ↓z_Op2, ↓z_Tst, ↓z_Not, ↓z_Chain, ↓z_AndV, ↓z_OrV, ↓z_NotV, ↓z_And, ↓z_Or, ↓z_If, ↓z_Next, ↓z_Seq, ↓z_Break, ↓z_Cont, ↓z_Exp, ↓z_Ret, ↓z_RetN, ↓z_IfS, ↓z_Nm, ↓z_Tp, ↓z_GN, ↓z_GC, ↓z_Asg, ↓z_ONil, ↓z_OCons, ↓z_SetIx, ↓z_Call, ↓z_Sq, ↓z_Rev, ↓z_For, ↓z_Wh, ↓z_Lc, ↓z_Lc2, ↓z_All, ↓z_All2, ↓z_Yes, ↓z_CB, ↓z_Isi, ↓z_Neg, ↓z_NoP, ↓z_Prt, ↓z_Sl, ↓z_App, ↓z_Pop, ↓z_VK, ↓z_VKs, ↓z_Eq, ↓z_InL, ↓z_InK, ↓z_InT, ↓z_In1, ↓z_In2, ↓z_In3, ↓z_In4, ↓z_IxS, ↓z_Ix1, ↓z_Ix2, ↓z_Ix3, ↓z_Ix4, ↓z_Ix5, ↓z_put1, ↓z_put2, ↓z_put3, ↓z_Len, ↓z_TupC, ↓z_LstC, ↓z_Repr, ↓z_NewD, ↓z_DisK, ↓z_DisT, ↓z_Get1, ↓z_Get2, ↓z_get2K, ↓z_get2T, ↓z_fin, ↓z_Rng1, ↓z_Rng2, ↓rng1F_i, ↓rng2F_i, ↓z_Enm, ↓z_EnmA, ↓enmAF_l, ↓enmAF_t, ↓enmF_l, ↓z_Zip, ↓zipF_l, ↓zipF_t, ↓z_Par, ↓parF_r, ↓z_Par3, ↓par3F_r, ↓z_Never, ↓z_NevE, ↓z_getK, ↓z_getT, ↓z_AddI, ↓z_AddT, ↓z_AddO, ↓z_AddS, ↓z_MulI, ↓z_MulT, ↓z_LtI, ↓z_LtT, ↓z_IsN, ↓z_IntI, ↓z_SlT, ↓z_SlL, ↓z_SlO, ↓z_SlS, ↓z_Sub, ↓z_Mod, ↓z_Div, ↓z_Pow, ↓z_Le, ↓z_Gt, ↓z_Ge, ↓z_II, ↓varF_v, ↓varF_l, ↓mvF_o, ↓mvF_v, ↓mvF_s, ndF_some, ifB_t, ifB_f, con, sl, frzS, isB, tuO_t, daO, sqO_l, sqO_t, sqO_o, sqO_s, lsO, lenO_K, lenO_T, lenO_o, lenO_l, lenO_t, lenO_s, ngO, consO, argO, varsO, wrB, untag, owL, tyS, tyD_n, tyD_b, tyD_i, tyD_s, tyD_l, tyD_t, tyD_d, entryE, tagA, backA, wipeE, backE, keepS, seqD_l, seqD_t, seqV_l, seqV_t, liD_l, kyS, ksS, keyD_i, keyD_s, keysD, ixS, tupD_t, isDic, isT, eq_self, isNone_n, isNone_i, isNone_t, isNone_l, isNone_b, isNone_s, isNone_o, need_some, atI_0, atI_1, atI_2, atI_3, ixN_30, ixN_31, ixN_32, eqv_int, eqv_str, Int.toNat_natCast, List.getElem?_cons_zero, List.getElem?_cons_succ, List.getElem?_nil, List.set_cons_zero, List.set_cons_succ, List.length_cons, List.length_nil, Option.join_some, Option.join_none, List.replicate_succ, List.replicate_zero, List.cons_append, List.nil_append, Option.map_some, Nat.zero_add, Nat.reduceAdd, Nat.reduceSub, Bool.not_true, Bool.not_false, if_true, if_false, Bool.false_eq_true, true_and, and_true, decide_true, decide_false, Nat.reduceLeDiff, Nat.reduceEqDiff, reduceIte, reduceCtorEq, Bool.or_false, Bool.or_true, Bool.and_true, Bool.and_false, Bool.true_and, Bool.false_and, Bool.true_or, Bool.false_or, List.map_cons, List.map_nil, List.nodup_cons, List.nodup_nil, List.mem_cons, List.not_mem_nil, not_false_eq_true, or_false, false_or, seqV_S, seqV_R]
    exact h
theorem sp_need_machine {m : Sk} {Q : Slot → List Slot → Prop} {X : Value → Prop} (hm : Mach m) (h : Q (.val .none) [.val (eS m)]) : fs_need_machine [.val (eS m)] Q X := by
  refine ⟨rfl, ?_⟩
  unfold w_need_machine
  simp -dsimp only [↓z_K, ↓z_VarO, ↓z_Var, ↓z_Move, ↓z_Of, ↓z_Fz, ↓z_Res, ↓z_VNil, ↓z_VCons, ↓z_Tup, ↓z_Lst, ↓z_Op2, ↓z_Tst, ↓z_Not, ↓z_Chain, ↓z_AndV, ↓z_OrV, ↓z_NotV, ↓z_And, ↓z_Or, ↓z_If, ↓z_Next, ↓z_Seq, ↓z_Break, ↓z_Cont, ↓z_Exp, ↓z_Ret, ↓z_RetN, ↓z_IfS, ↓z_Nm, ↓z_Tp, ↓z_GN, ↓z_GC, ↓z_Asg, ↓z_ONil, ↓z_OCons, ↓z_SetIx, ↓z_Call, ↓z_Sq, ↓z_Rev, ↓z_For, ↓z_Wh, ↓z_Lc, ↓z_Lc2, ↓z_All, ↓z_All2, ↓z_Yes, ↓z_CB, ↓z_Isi, ↓z_Neg, ↓z_NoP, ↓z_Prt, ↓z_Sl, ↓z_App, ↓z_Pop, ↓z_VK, ↓z_VKs, ↓z_Eq, ↓z_InL, ↓z_InK, ↓z_InT, ↓z_In1, ↓z_In2, ↓z_In3, ↓z_In4, ↓z_IxS, ↓z_Ix1, ↓z_Ix2, ↓z_Ix3, ↓z_Ix4, ↓z_Ix5, ↓z_put1, ↓z_put2, ↓z_put3, ↓z_Len, ↓z_TupC, ↓z_LstC, ↓z_Repr, ↓z_NewD, ↓z_DisK, ↓z_DisT, ↓z_Get1, ↓z_Get2, ↓z_get2K, ↓z_get2T, ↓z_fin, ↓z_Rng1, ↓z_Rng2, ↓rng1F_i, ↓rng2F_i, ↓z_Enm, ↓z_EnmA, ↓enmAF_l, ↓enmAF_t, ↓enmF_l, ↓z_Zip, ↓zipF_l, ↓zipF_t, ↓z_Par, ↓parF_r, ↓z_Par3, ↓par3F_r, ↓z_Never, ↓z_NevE, ↓z_getK, ↓z_getT, ↓z_AddI, ↓z_AddT, ↓z_AddO, ↓z_AddS, ↓z_MulI, ↓z_MulT, ↓z_LtI, ↓z_LtT, ↓z_IsN, ↓z_IntI, ↓z_SlT, ↓z_SlL, ↓z_SlO, ↓z_SlS, ↓z_Sub, ↓z_Mod, ↓z_Div, ↓z_Pow, ↓z_Le, ↓z_Gt, ↓z_Ge, ↓z_II, ↓varF_v, ↓varF_l, ↓mvF_o, ↓mvF_v, ↓mvF_s, ndF_some, ifB_t, ifB_f, con, sl, frzS, isB, tuO_t, daO, sqO_l, sqO_t, sqO_o, sqO_s, lsO, lenO_K, lenO_T, lenO_o, lenO_l, lenO_t, lenO_s, ngO, consO, argO, varsO, wrB, untag, owL, tyS, tyD_n, tyD_b, tyD_i, tyD_s, tyD_l, tyD_t, tyD_d, entryE, tagA, backA, wipeE, backE, keepS, seqD_l, seqD_t, seqV_l, seqV_t, liD_l, kyS, ksS, keyD_i, keyD_s, keysD, ixS, tupD_t, isDic, isT, eq_self, isNone_n, isNone_i, isNone_t, isNone_l, isNone_b, isNone_s, isNone_o, need_some, atI_0, atI_1, atI_2, atI_3, ixN_30, ixN_31, ixN_32, eqv_int, eqv_str, Int.toNat_natCast, List.getElem?_cons_zero, List.getElem?_cons_succ, List.getElem?_nil, List.set_cons_zero, List.set_cons_succ, List.length_cons, List.length_nil, Option.join_some, Option.join_none, List.replicate_succ, List.replicate_zero, List.cons_append, List.nil_append, Option.map_some, Nat.zero_add, Nat.reduceAdd, Nat.reduceSub, Bool.not_true, Bool.not_false, if_true, if_false, Bool.false_eq_true, true_and, and_true, decide_true, decide_false, Nat.reduceLeDiff, Nat.reduceEqDiff, reduceIte, reduceCtorEq, Bool.or_false, Bool.or_true, Bool.and_true, Bool.and_false, Bool.true_and, Bool.false_and, Bool.true_or, Bool.false_or, List.map_cons, List.map_nil, List.nodup_cons, List.nodup_nil, List.mem_cons, List.not_mem_nil, not_false_eq_true, or_false, false_or, seqV_S, seqV_R]
  refine sp_machine_form hm ?_
  simp -dsimp only [↓z_K, ↓z_VarO, ↓z_Var, ↓z_Move, ↓z_Of, ↓z_Fz, ↓z_Res, ↓z_VNil, ↓z_VCons, ↓z_Tup, ↓z_Lst, ↓z_Op2, ↓z_Tst, ↓z_Not, ↓z_Chain, ↓z_AndV, ↓z_OrV, ↓z_NotV, ↓z_And, ↓z_Or, ↓z_If, ↓z_Next, ↓z_Seq, ↓z_Break, ↓z_Cont, ↓z_Exp, ↓z_Ret, ↓z_RetN, ↓z_IfS, ↓z_Nm, ↓z_Tp, ↓z_GN, ↓z_GC, ↓z_Asg, ↓z_ONil, ↓z_OCons, ↓z_SetIx, ↓z_Call, ↓z_Sq, ↓z_Rev, ↓z_For, ↓z_Wh, ↓z_Lc, ↓z_Lc2, ↓z_All, ↓z_All2, ↓z_Yes, ↓z_CB, ↓z_Isi, ↓z_Neg, ↓z_NoP, ↓z_Prt, ↓z_Sl, ↓z_App, ↓z_Pop, ↓z_VK, ↓z_VKs, ↓z_Eq, ↓z_InL, ↓z_InK, ↓z_InT, ↓z_In1, ↓z_In2, ↓z_In3, ↓z_In4, ↓z_IxS, ↓z_Ix1, ↓z_Ix2, ↓z_Ix3, ↓z_Ix4, ↓z_Ix5, ↓z_put1, ↓z_put2, ↓z_put3, ↓z_Len, ↓z_TupC, ↓z_LstC, ↓z_Repr, ↓z_NewD, ↓z_DisK, ↓z_DisT, ↓z_Get1, ↓z_Get2, ↓z_get2K, ↓z_get2T, ↓z_fin, ↓z_Rng1, ↓z_Rng2, ↓rng1F_i, ↓rng2F_i, ↓z_Enm, ↓z_EnmA, ↓enmAF_l, ↓enmAF_t, ↓enmF_l, ↓z_Zip, ↓zipF_l, ↓zipF_t, ↓z_Par, ↓parF_r, ↓z_Par3, ↓par3F_r, ↓z_Never, ↓z_NevE, ↓z_getK, ↓z_getT, ↓z_AddI, ↓z_AddT, ↓z_AddO, ↓z_AddS, ↓z_MulI, ↓z_MulT, ↓z_LtI, ↓z_LtT, ↓z_IsN, ↓z_IntI, ↓z_SlT, ↓z_SlL, ↓z_SlO, ↓z_SlS, ↓z_Sub, ↓z_Mod, ↓z_Div, ↓z_Pow, ↓z_Le, ↓z_Gt, ↓z_Ge, ↓z_II, ↓varF_v, ↓varF_l, ↓mvF_o, ↓mvF_v, ↓mvF_s, ndF_some, ifB_t, ifB_f, con, sl, frzS, isB, tuO_t, daO, sqO_l, sqO_t, sqO_o, sqO_s, lsO, lenO_K, lenO_T, lenO_o, lenO_l, lenO_t, lenO_s, ngO, consO, argO, varsO, wrB, untag, owL, tyS, tyD_n, tyD_b, tyD_i, tyD_s, tyD_l, tyD_t, tyD_d, entryE, tagA, backA, wipeE, backE, keepS, seqD_l, seqD_t, seqV_l, seqV_t, liD_l, kyS, ksS, keyD_i, keyD_s, keysD, ixS, tupD_t, isDic, isT, eq_self, isNone_n, isNone_i, isNone_t, isNone_l, isNone_b, isNone_s, isNone_o, need_some, atI_0, atI_1, atI_2, atI_3, ixN_30, ixN_31, ixN_32, eqv_int, eqv_str, Int.toNat_natCast, List.getElem?_cons_zero, List.getElem?_cons_succ, List.getElem?_nil, List.set_cons_zero, List.set_cons_succ, List.length_cons, List.length_nil, Option.join_some, Option.join_none, List.replicate_succ, List.replicate_zero, List.cons_append, List.nil_append, Option.map_some, Nat.zero_add, Nat.reduceAdd, Nat.reduceSub, Bool.not_true, Bool.not_false, if_true, if_false, Bool.false_eq_true, true_and, and_true, decide_true, decide_false, Nat.reduceLeDiff, Nat.reduceEqDiff, reduceIte, reduceCtorEq, Bool.or_false, Bool.or_true, Bool.and_true, Bool.and_false, Bool.true_and, Bool.false_and, Bool.true_or, Bool.false_or, List.map_cons, List.map_nil, List.nodup_cons, List.nodup_nil, List.mem_cons, List.not_mem_nil, not_false_eq_true, or_false, false_or, seqV_S, seqV_R]
  exact h
end DV

set_option Elab.async false
set_option linter.all false
set_option maxRecDepth 100000
set_option maxHeartbeats 4000000
namespace DV
open PySem PySem.Spec PyProof.Rows L2
def ent (m : Sk) (s l : Nat) : Ent := ((m.rows[s]?).getD [])[l]?.getD none
theorem Small.ent_at {m : Sk} (hm : Small m) {s l : Nat} (hs : s < m.rows.length) (hl : l < m.L) :
    ∃ r, atI (m.rows.map eR) (s : Int) = some (eR r) ∧ atI (r.map eE) (l : Int) = some (eE (ent m s l)) ∧ ∀ (t a : Nat), ent m s l = some (t, a) → t < m.rows.length ∧ a < m.A := by
  obtain ⟨r, h1, h2, h3⟩ := atI_natD hs
  obtain ⟨g1, g2⟩ := hm.gap r h2
  obtain ⟨x, k1, k2, k3⟩ := atI_natD (xs := r) (i := l) (by omega)
  have e : ent m s l = x := by simp [ent, h1, k1]
  refine ⟨r, by rw [atI_map, h3]; rfl, by rw [atI_map, k3, e]; rfl, fun t a q => g2 x k2 t a (by rw [← e]; exact q)⟩
theorem Mach.ent_at {m : Sk} (hm : Mach m) {s l : Nat} (hs : s < m.rows.length) (hl : l < m.L) :
    ∃ (r : Row) (t a : Nat), atI (m.rows.map eR) (s : Int) = some (eR r) ∧ atI (r.map eE) (l : Int) = some (.tuple [.int t, .int a]) ∧ ent m s l = some (t, a) ∧ t < m.rows.length ∧ a < m.A := by
  obtain ⟨r, h1, h2, h3⟩ := hm.small.ent_at hs hl
  have hx : ∃ t a, ent m s l = some (t, a) := by
    obtain ⟨r, h1, h2, h3⟩ := atI_natD hs
    obtain ⟨g1, g2⟩ := hm.full r h2
    obtain ⟨x, k1, k2, k3⟩ := atI_natD (xs := r) (i := l) (by omega)
    obtain ⟨t, a, e, _⟩ := g2 x k2
    exact ⟨t, a, by simp [ent, h1, k1, e]⟩
  obtain ⟨t, a, e⟩ := hx
  rw [e] at h2
  exact ⟨r, t, a, h1, h2, e, h3 t a e⟩
def eN (w : List Nat) : D := .tuple (w.map fun n => PyData.int (n : Nat))
def eO : Option (List Nat) → D
  | none => .none
  | some w => eN w
theorem any_find {α : Type} (p : α → Bool) (xs : List α) : xs.any p = (xs.find? p).isSome := by
  induction xs with
  | nil => rfl
  | cons x xs ih => rw [List.any_cons, List.find?_cons]; cases p x <;> simp [ih]
theorem eN_snoc (w : List Nat) (l : Nat) : PyData.tuple ((w.map fun n => PyData.int (n : Nat)) ++ [.int l]) = eN (w ++ [l]) := by simp [eN]
theorem range_drop {n j : Nat} (h : j < n) : (List.range n).drop j = j :: (List.range n).drop (j + 1) := by
  rw [List.drop_eq_getElem_cons (by simpa using h)]
  simp
theorem mem_ls {L : Nat} {w : List Nat} {l : Nat} (h : ∀ x ∈ w, x < L) (hl : l < L) : ∀ x ∈ w ++ [l], x < L := mem_snoc' h hl
theorem eN_nil : PyData.tuple [] = eN [] := rfl
theorem int_ne (a b : Nat) : ((a : Int) == b) = decide (a = b) := by
  by_cases e : a = b
  · subst e; simp
  · have : ((a : Int) == b) = false := by simp; omega
    rw [this]; simp [e]
/-! ### what can be shown: a bound of its text -/
mutual
def wt : D → Option Nat
  | .none => some 4
  | .bool _ => some 5
  | .int i => if 0 ≤ i ∧ i < 1000 then some 3 else none
  | .tuple ds => (wtAll ds).map (· + 3)
  | .list ds => (wtAll ds).map (· + 3)
  | .str _ => none
  | .dict _ => none
def wtAll : List D → Option Nat
  | [] => some 0
  | d :: ds => match wt d, wtAll ds with
    | some a, some b => some (a + b + 2)
    | _, _ => none
end
theorem int_show (t : Int) (h0 : 0 ≤ t) (h1 : t < 1000) : (PyData.shown (.int t)).length ≤ 3 ∧ (PyData.int t).showable = true := by
  obtain ⟨n, rfl⟩ := Int.eq_ofNat_of_zero_le h0
  have hn : n < 1000 := by omega
  have key : ∀ m : Fin 1000, (PyData.shown (.int ((m : Nat) : Int))).length ≤ 3 ∧ (PyData.int ((m : Nat) : Int)).showable = true := by decide +kernel
  exact key ⟨n, hn⟩
mutual
theorem wt_ok : ∀ {d : D} {n : Nat}, wt d = some n → d.showable = true ∧ d.shown.length ≤ n
  | .none, n, h => by cases h; exact ⟨by decide +kernel, by decide +kernel⟩
  | .bool b, n, h => by cases h; cases b <;> exact ⟨by decide +kernel, by decide +kernel⟩
  | .int i, n, h => by
    simp only [wt] at h
    split at h
    · rename_i q
      cases h
      exact ⟨(int_show i q.1 q.2).2, (int_show i q.1 q.2).1⟩
    · cases h
  | .str _, n, h => by cases h
  | .dict _, n, h => by cases h
  | .tuple ds, n, h => by
    simp only [wt, Option.map_eq_some_iff] at h
    obtain ⟨k, h, rfl⟩ := h
    obtain ⟨h1, h2, h3⟩ := wtAll_ok h
    refine ⟨by simpa only [PyData.showable] using h1, ?_⟩
    have := tupleText_len_le (PyData.shownAll ds)
    simp only [PyData.shown]
    omega
  | .list ds, n, h => by
    simp only [wt, Option.map_eq_some_iff] at h
    obtain ⟨k, h, rfl⟩ := h
    obtain ⟨h1, h2, h3⟩ := wtAll_ok h
    refine ⟨by simpa only [PyData.showable] using h1, ?_⟩
    have := listText_len_le (PyData.shownAll ds)
    simp only [PyData.shown]
    omega
theorem wtAll_ok : ∀ {ds : List D} {n : Nat}, wtAll ds = some n → PyData.showableAll ds = true ∧ ((PyData.shownAll ds).map (·.length)).sum + 2 * (PyData.shownAll ds).length ≤ n ∧ True
  | [], n, h => by cases h; exact ⟨by simp [PyData.showableAll], by simp [PyData.shownAll], True.intro⟩
  | d :: ds, n, h => by
    simp only [wtAll] at h
    cases h1 : wt d with
    | none => rw [h1] at h; cases h
    | some a =>
      cases h2 : wtAll ds with
      | none => rw [h1, h2] at h; cases h
      | some b =>
        rw [h1, h2] at h
        cases h
        obtain ⟨k1, k2⟩ := wt_ok h1
        obtain ⟨k3, k4, _⟩ := wtAll_ok h2
        refine ⟨by simp only [PyData.showableAll, k1, k3, Bool.and_self], ?_, True.intro⟩
        simp only [PyData.shownAll, List.map_cons, List.sum_cons, List.length_cons]
        omega
end
theorem reprOk {d : D} {n k : Nat} (f : Flat k d) (h : wt d = some n) (hn : n ≤ 16000000) (hk : k ≤ 64 := by decide) : ReprOk d := by
  obtain ⟨h1, h2⟩ := wt_ok h
  exact ⟨f.1, h1, Nat.le_trans f.2 hk, Nat.le_trans (Nat.le_trans h2 hn) (by decide)⟩
theorem wt_int {n : Nat} (h : n < 1000) : wt (.int (n : Nat)) = some 3 := by simp [wt]; omega
theorem wtAll_map {α : Type} {f : α → D} {c : Nat} : ∀ {xs : List α}, (∀ x ∈ xs, ∃ a, a ≤ c ∧ wt (f x) = some a) → ∃ b, b ≤ (c + 2) * xs.length ∧ wtAll (xs.map f) = some b
  | [], _ => ⟨0, by simp, by simp [wtAll]⟩
  | x :: xs, h => by
    obtain ⟨a, h1, h2⟩ := h x (by simp)
    obtain ⟨b, h3, h4⟩ := wtAll_map (xs := xs) fun y hy => h y (by simp [hy])
    refine ⟨a + b + 2, ?_, by simp only [List.map_cons, wtAll, h2, h4]⟩
    simp only [List.length_cons, Nat.mul_add, Nat.mul_one]
    omega
theorem wt_tup {ds : List D} {b : Nat} (h : wtAll ds = some b) : wt (.tuple ds) = some (b + 3) := by simp only [wt, h, Option.map_some]
theorem flat_nats {w : List Nat} : Flat 1 (eN w) := flat_tup fun d hd => by obtain ⟨n, _, rfl⟩ := List.mem_map.mp hd; exact flat_int
theorem wt_eN {w : List Nat} (h : ∀ x ∈ w, x < 1000) : ∃ b, b ≤ 5 * w.length + 3 ∧ wt (eN w) = some b := by
  obtain ⟨b, h1, h2⟩ := wtAll_map (f := fun n : Nat => PyData.int n) (c := 3) (xs := w) fun x hx => ⟨3, Nat.le_refl _, wt_int (h x hx)⟩
  exact ⟨b + 3, by omega, wt_tup h2⟩
theorem repr_eO {o : Option (List Nat)} (h : ∀ r, o = some r → r.length ≤ 100000 ∧ ∀ x ∈ r, x < 1000) : ReprOk (eO o) := by
  cases o with
  | none => exact reprOk (k := 0) flat_none (n := 4) rfl (by decide)
  | some r =>
    obtain ⟨h1, h2⟩ := h r rfl
    obtain ⟨b, h3, h4⟩ := wt_eN h2
    exact reprOk flat_nats h4 (by omega)
theorem flat_eO {o : Option (List Nat)} : Flat 1 (eO o) := by
  cases o with
  | none => exact flat_none
  | some r => exact flat_nats
theorem str_beq (x : Str) : (x == x) = true := by simp
end DV

set_option Elab.async false
set_option linter.all false
set_option maxRecDepth 100000
set_option maxHeartbeats 4000000
namespace DV
open PySem PySem.Spec PyProof.Rows L2
/-! ### wells -/
def Well (k : Nat) (u : MO) : Prop := ∃ a b c : Int, u = .lst [.int a, .int b, .int c] ∧ b.natAbs < 2 ^ 128 ∧ 0 ≤ c ∧ c ≤ k
theorem Well.le {j k : Nat} {u : MO} (h : Well j u) (l : j ≤ k) : Well k u := by
  obtain ⟨a, b, c, e, h1, h2, h3⟩ := h
  exact ⟨a, b, c, e, h1, h2, by omega⟩
theorem sp_take {k m : Nat} {u : MO} {Q : Slot → List Slot → Prop} {X : Value → Prop} (hu : Well k u) (hm : 0 < m)
    (h : ∀ (r : Nat) u', r < m → Well (k + 1) u' → Q (.val (.int r)) [uo u', .val (.int m)]) (hk : k < 2 ^ 39 := by omega) (hm2 : m < 2 ^ 60 := by omega) : fs__law_take [uo u, .val (.int m)] Q X := by
  obtain ⟨a, b, c, rfl, hb, h0, hc⟩ := hu
  have fin : ∀ (z : Int) (u' : MO), Well (k + 1) u' → Q (.val (.int (z % (m : Int)))) [uo u', .val (.int m)] := fun z u' q => by
    have h1 := mod_lt (a := z) (m := (m : Int)) (by omega)
    have h2 := h (z % (m : Int)).toNat u' (by omega) q
    rw [Int.toNat_of_nonneg h1.1] at h2
    exact h2
  have hm' : (0 : Int) < m := by omega
  refine ⟨rfl, ?_⟩
  unfold w__law_take
  simp -dsimp only [↓z_K, ↓z_VarO, ↓z_Var, ↓z_Move, ↓z_Of, ↓z_Fz, ↓z_Res, ↓z_VNil, ↓z_VCons, ↓z_Tup, ↓z_Lst, ↓z_Op2, ↓z_Tst, ↓z_Not, ↓z_Chain, ↓z_AndV, ↓z_OrV, ↓z_NotV, ↓z_And, ↓z_Or, ↓z_If, ↓z_Next, ↓z_Seq, ↓z_Break, ↓z_Cont, ↓z_Exp, ↓z_Ret, ↓z_RetN, ↓z_IfS, ↓z_Nm, ↓z_Tp, ↓z_GN, ↓z_GC, ↓z_Asg, ↓z_ONil, ↓z_OCons, ↓z_SetIx, ↓z_Call, ↓z_Sq, ↓z_Rev, ↓z_For, ↓z_Wh, ↓z_Lc, ↓z_Lc2, ↓z_All, ↓z_All2, ↓z_Yes, ↓z_CB, ↓z_Isi, ↓z_Neg, ↓z_NoP, ↓z_Prt, ↓z_Sl, ↓z_App, ↓z_Pop, ↓z_VK, ↓z_VKs, ↓z_Eq, ↓z_InL, ↓z_InK, ↓z_InT, ↓z_In1, ↓z_In2, ↓z_In3, ↓z_In4, ↓z_IxS, ↓z_Ix1, ↓z_Ix2, ↓z_Ix3, ↓z_Ix4, ↓z_Ix5, ↓z_put1, ↓z_put2, ↓z_put3, ↓z_Len, ↓z_TupC, ↓z_LstC, ↓z_Repr, ↓z_NewD, ↓z_DisK, ↓z_DisT, ↓z_Get1, ↓z_Get2, ↓z_get2K, ↓z_get2T, ↓z_fin, ↓z_Rng1, ↓z_Rng2, ↓rng1F_i, ↓rng2F_i, ↓z_Enm, ↓z_EnmA, ↓enmAF_l, ↓enmAF_t, ↓enmF_l, ↓z_Zip, ↓zipF_l, ↓zipF_t, ↓z_Par, ↓parF_r, ↓z_Par3, ↓par3F_r, ↓z_Never, ↓z_NevE, ↓z_getK, ↓z_getT, ↓z_AddI, ↓z_AddT, ↓z_AddO, ↓z_AddS, ↓z_MulI, ↓z_MulT, ↓z_LtI, ↓z_LtT, ↓z_IsN, ↓z_IntI, ↓z_SlT, ↓z_SlL, ↓z_SlO, ↓z_SlS, ↓z_Sub, ↓z_Mod, ↓z_Div, ↓z_Pow, ↓z_Le, ↓z_Gt, ↓z_Ge, ↓z_II, ↓varF_v, ↓varF_l, ↓mvF_o, ↓mvF_v, ↓mvF_s, ndF_some, ifB_t, ifB_f, con, sl, frzS, isB, tuO_t, daO, sqO_l, sqO_t, sqO_o, sqO_s, lsO, lenO_K, lenO_T, lenO_o, lenO_l, lenO_t, lenO_s, ngO, consO, argO, varsO, wrB, untag, owL, tyS, tyD_n, tyD_b, tyD_i, tyD_s, tyD_l, tyD_t, tyD_d, entryE, tagA, backA, wipeE, backE, keepS, seqD_l, seqD_t, seqV_l, seqV_t, liD_l, kyS, ksS, keyD_i, keyD_s, keysD, ixS, tupD_t, isDic, isT, eq_self, isNone_n, isNone_i, isNone_t, isNone_l, isNone_b, isNone_s, isNone_o, need_some, atI_0, atI_1, atI_2, atI_3, ixN_30, ixN_31, ixN_32, eqv_int, eqv_str, Int.toNat_natCast, List.getElem?_cons_zero, List.getElem?_cons_succ, List.getElem?_nil, List.set_cons_zero, List.set_cons_succ, List.length_cons, List.length_nil, Option.join_some, Option.join_none, List.replicate_succ, List.replicate_zero, List.cons_append, List.nil_append, Option.map_some, Nat.zero_add, Nat.reduceAdd, Nat.reduceSub, Bool.not_true, Bool.not_false, if_true, if_false, Bool.false_eq_true, true_and, and_true, decide_true, decide_false, Nat.reduceLeDiff, Nat.reduceEqDiff, reduceIte, reduceCtorEq, Bool.or_false, Bool.or_true, Bool.and_true, Bool.and_false, Bool.true_and, Bool.false_and, Bool.true_or, Bool.false_or, List.map_cons, List.map_nil, List.nodup_cons, List.nodup_nil, List.mem_cons, List.not_mem_nil, not_false_eq_true, or_false, false_or, seqV_S, seqV_R]
  refine brB (fun ha => ?_) fun ha => ?_
  · simp -dsimp only [↓z_K, ↓z_VarO, ↓z_Var, ↓z_Move, ↓z_Of, ↓z_Fz, ↓z_Res, ↓z_VNil, ↓z_VCons, ↓z_Tup, ↓z_Lst, ↓z_Op2, ↓z_Tst, ↓z_Not, ↓z_Chain, ↓z_AndV, ↓z_OrV, ↓z_NotV, ↓z_And, ↓z_Or, ↓z_If, ↓z_Next, ↓z_Seq, ↓z_Break, ↓z_Cont, ↓z_Exp, ↓z_Ret, ↓z_RetN, ↓z_IfS, ↓z_Nm, ↓z_Tp, ↓z_GN, ↓z_GC, ↓z_Asg, ↓z_ONil, ↓z_OCons, ↓z_SetIx, ↓z_Call, ↓z_Sq, ↓z_Rev, ↓z_For, ↓z_Wh, ↓z_Lc, ↓z_Lc2, ↓z_All, ↓z_All2, ↓z_Yes, ↓z_CB, ↓z_Isi, ↓z_Neg, ↓z_NoP, ↓z_Prt, ↓z_Sl, ↓z_App, ↓z_Pop, ↓z_VK, ↓z_VKs, ↓z_Eq, ↓z_InL, ↓z_InK, ↓z_InT, ↓z_In1, ↓z_In2, ↓z_In3, ↓z_In4, ↓z_IxS, ↓z_Ix1, ↓z_Ix2, ↓z_Ix3, ↓z_Ix4, ↓z_Ix5, ↓z_put1, ↓z_put2, ↓z_put3, ↓z_Len, ↓z_TupC, ↓z_LstC, ↓z_Repr, ↓z_NewD, ↓z_DisK, ↓z_DisT, ↓z_Get1, ↓z_Get2, ↓z_get2K, ↓z_get2T, ↓z_fin, ↓z_Rng1, ↓z_Rng2, ↓rng1F_i, ↓rng2F_i, ↓z_Enm, ↓z_EnmA, ↓enmAF_l, ↓enmAF_t, ↓enmF_l, ↓z_Zip, ↓zipF_l, ↓zipF_t, ↓z_Par, ↓parF_r, ↓z_Par3, ↓par3F_r, ↓z_Never, ↓z_NevE, ↓z_getK, ↓z_getT, ↓z_AddI, ↓z_AddT, ↓z_AddO, ↓z_AddS, ↓z_MulI, ↓z_MulT, ↓z_LtI, ↓z_LtT, ↓z_IsN, ↓z_IntI, ↓z_SlT, ↓z_SlL, ↓z_SlO, ↓z_SlS, ↓z_Sub, ↓z_Mod, ↓z_Div, ↓z_Pow, ↓z_Le, ↓z_Gt, ↓z_Ge, ↓z_II, ↓varF_v, ↓varF_l, ↓mvF_o, ↓mvF_v, ↓mvF_s, ndF_some, ifB_t, ifB_f, con, sl, frzS, isB, tuO_t, daO, sqO_l, sqO_t, sqO_o, sqO_s, lsO, lenO_K, lenO_T, lenO_o, lenO_l, lenO_t, lenO_s, ngO, consO, argO, varsO, wrB, untag, owL, tyS, tyD_n, tyD_b, tyD_i, tyD_s, tyD_l, tyD_t, tyD_d, entryE, tagA, backA, wipeE, backE, keepS, seqD_l, seqD_t, seqV_l, seqV_t, liD_l, kyS, ksS, keyD_i, keyD_s, keysD, ixS, tupD_t, isDic, isT, eq_self, isNone_n, isNone_i, isNone_t, isNone_l, isNone_b, isNone_s, isNone_o, need_some, atI_0, atI_1, atI_2, atI_3, ixN_30, ixN_31, ixN_32, eqv_int, eqv_str, Int.toNat_natCast, List.getElem?_cons_zero, List.getElem?_cons_succ, List.getElem?_nil, List.set_cons_zero, List.set_cons_succ, List.length_cons, List.length_nil, Option.join_some, Option.join_none, List.replicate_succ, List.replicate_zero, List.cons_append, List.nil_append, Option.map_some, Nat.zero_add, Nat.reduceAdd, Nat.reduceSub, Bool.not_true, Bool.not_false, if_true, if_false, Bool.false_eq_true, true_and, and_true, decide_true, decide_false, Nat.reduceLeDiff, Nat.reduceEqDiff, reduceIte, reduceCtorEq, Bool.or_false, Bool.or_true, Bool.and_true, Bool.and_false, Bool.true_and, Bool.false_and, Bool.true_or, Bool.false_or, List.map_cons, List.map_nil, List.nodup_cons, List.nodup_nil, List.mem_cons, List.not_mem_nil, not_false_eq_true, or_false, false_or, seqV_S, seqV_R]
    exact ⟨hm', div_ok hm' (by omega), fin _ _ ⟨_, _, _, rfl, hb, h0, by omega⟩⟩
  · simp -dsimp only [↓z_K, ↓z_VarO, ↓z_Var, ↓z_Move, ↓z_Of, ↓z_Fz, ↓z_Res, ↓z_VNil, ↓z_VCons, ↓z_Tup, ↓z_Lst, ↓z_Op2, ↓z_Tst, ↓z_Not, ↓z_Chain, ↓z_AndV, ↓z_OrV, ↓z_NotV, ↓z_And, ↓z_Or, ↓z_If, ↓z_Next, ↓z_Seq, ↓z_Break, ↓z_Cont, ↓z_Exp, ↓z_Ret, ↓z_RetN, ↓z_IfS, ↓z_Nm, ↓z_Tp, ↓z_GN, ↓z_GC, ↓z_Asg, ↓z_ONil, ↓z_OCons, ↓z_SetIx, ↓z_Call, ↓z_Sq, ↓z_Rev, ↓z_For, ↓z_Wh, ↓z_Lc, ↓z_Lc2, ↓z_All, ↓z_All2, ↓z_Yes, ↓z_CB, ↓z_Isi, ↓z_Neg, ↓z_NoP, ↓z_Prt, ↓z_Sl, ↓z_App, ↓z_Pop, ↓z_VK, ↓z_VKs, ↓z_Eq, ↓z_InL, ↓z_InK, ↓z_InT, ↓z_In1, ↓z_In2, ↓z_In3, ↓z_In4, ↓z_IxS, ↓z_Ix1, ↓z_Ix2, ↓z_Ix3, ↓z_Ix4, ↓z_Ix5, ↓z_put1, ↓z_put2, ↓z_put3, ↓z_Len, ↓z_TupC, ↓z_LstC, ↓z_Repr, ↓z_NewD, ↓z_DisK, ↓z_DisT, ↓z_Get1, ↓z_Get2, ↓z_get2K, ↓z_get2T, ↓z_fin, ↓z_Rng1, ↓z_Rng2, ↓rng1F_i, ↓rng2F_i, ↓z_Enm, ↓z_EnmA, ↓enmAF_l, ↓enmAF_t, ↓enmF_l, ↓z_Zip, ↓zipF_l, ↓zipF_t, ↓z_Par, ↓parF_r, ↓z_Par3, ↓par3F_r, ↓z_Never, ↓z_NevE, ↓z_getK, ↓z_getT, ↓z_AddI, ↓z_AddT, ↓z_AddO, ↓z_AddS, ↓z_MulI, ↓z_MulT, ↓z_LtI, ↓z_LtT, ↓z_IsN, ↓z_IntI, ↓z_SlT, ↓z_SlL, ↓z_SlO, ↓z_SlS, ↓z_Sub, ↓z_Mod, ↓z_Div, ↓z_Pow, ↓z_Le, ↓z_Gt, ↓z_Ge, ↓z_II, ↓varF_v, ↓varF_l, ↓mvF_o, ↓mvF_v, ↓mvF_s, ndF_some, ifB_t, ifB_f, con, sl, frzS, isB, tuO_t, daO, sqO_l, sqO_t, sqO_o, sqO_s, lsO, lenO_K, lenO_T, lenO_o, lenO_l, lenO_t, lenO_s, ngO, consO, argO, varsO, wrB, untag, owL, tyS, tyD_n, tyD_b, tyD_i, tyD_s, tyD_l, tyD_t, tyD_d, entryE, tagA, backA, wipeE, backE, keepS, seqD_l, seqD_t, seqV_l, seqV_t, liD_l, kyS, ksS, keyD_i, keyD_s, keysD, ixS, tupD_t, isDic, isT, eq_self, isNone_n, isNone_i, isNone_t, isNone_l, isNone_b, isNone_s, isNone_o, need_some, atI_0, atI_1, atI_2, atI_3, ixN_30, ixN_31, ixN_32, eqv_int, eqv_str, Int.toNat_natCast, List.getElem?_cons_zero, List.getElem?_cons_succ, List.getElem?_nil, List.set_cons_zero, List.set_cons_succ, List.length_cons, List.length_nil, Option.join_some, Option.join_none, List.replicate_succ, List.replicate_zero, List.cons_append, List.nil_append, Option.map_some, Nat.zero_add, Nat.reduceAdd, Nat.reduceSub, Bool.not_true, Bool.not_false, if_true, if_false, Bool.false_eq_true, true_and, and_true, decide_true, decide_false, Nat.reduceLeDiff, Nat.reduceEqDiff, reduceIte, reduceCtorEq, Bool.or_false, Bool.or_true, Bool.and_true, Bool.and_false, Bool.true_and, Bool.false_and, Bool.true_or, Bool.false_or, List.map_cons, List.map_nil, List.nodup_cons, List.nodup_nil, List.mem_cons, List.not_mem_nil, not_false_eq_true, or_false, false_or, seqV_S, seqV_R]
    have s1 : (b + 32452867 * (c + 1)).natAbs < 2 ^ 130 := by omega
    have s2 : ∀ z : Int, (z % (10 ^ Int.toNat 40 + 121)).natAbs < 2 ^ 150 := fun z => by
      have := mod_lt (a := z) (m := 10 ^ Int.toNat 40 + 121) (by decide)
      have e : (10 ^ Int.toNat 40 + 121 : Int) < 2 ^ 150 := by decide
      omega
    refine ⟨mul_l, mul_ok s1 s1, mul_ok (nb_mul s1 s1) s1, mul_l, pow_ok, by decide, mul_ok (s2 _) (s2 _), mul_l, pow_ok, by decide, pow_ok, div_ok (by decide) (by decide), hm', ?_⟩
    exact fin _ _ ⟨_, _, _, rfl, hb, by omega, by omega⟩
theorem sp_well {cell k : Int} {Q : Slot → List Slot → Prop} {X : Value → Prop} (hk : 0 ≤ k) (hk2 : k < 1000) (h : ∀ u, Well 0 u → Q (uo u) [.val (.int cell), .val (.int k)]) : fs__law_well [.val (.int cell), .val (.int k)] Q X := by
  refine ⟨rfl, ?_⟩
  unfold w__law_well
  simp -dsimp only [↓z_K, ↓z_VarO, ↓z_Var, ↓z_Move, ↓z_Of, ↓z_Fz, ↓z_Res, ↓z_VNil, ↓z_VCons, ↓z_Tup, ↓z_Lst, ↓z_Op2, ↓z_Tst, ↓z_Not, ↓z_Chain, ↓z_AndV, ↓z_OrV, ↓z_NotV, ↓z_And, ↓z_Or, ↓z_If, ↓z_Next, ↓z_Seq, ↓z_Break, ↓z_Cont, ↓z_Exp, ↓z_Ret, ↓z_RetN, ↓z_IfS, ↓z_Nm, ↓z_Tp, ↓z_GN, ↓z_GC, ↓z_Asg, ↓z_ONil, ↓z_OCons, ↓z_SetIx, ↓z_Call, ↓z_Sq, ↓z_Rev, ↓z_For, ↓z_Wh, ↓z_Lc, ↓z_Lc2, ↓z_All, ↓z_All2, ↓z_Yes, ↓z_CB, ↓z_Isi, ↓z_Neg, ↓z_NoP, ↓z_Prt, ↓z_Sl, ↓z_App, ↓z_Pop, ↓z_VK, ↓z_VKs, ↓z_Eq, ↓z_InL, ↓z_InK, ↓z_InT, ↓z_In1, ↓z_In2, ↓z_In3, ↓z_In4, ↓z_IxS, ↓z_Ix1, ↓z_Ix2, ↓z_Ix3, ↓z_Ix4, ↓z_Ix5, ↓z_put1, ↓z_put2, ↓z_put3, ↓z_Len, ↓z_TupC, ↓z_LstC, ↓z_Repr, ↓z_NewD, ↓z_DisK, ↓z_DisT, ↓z_Get1, ↓z_Get2, ↓z_get2K, ↓z_get2T, ↓z_fin, ↓z_Rng1, ↓z_Rng2, ↓rng1F_i, ↓rng2F_i, ↓z_Enm, ↓z_EnmA, ↓enmAF_l, ↓enmAF_t, ↓enmF_l, ↓z_Zip, ↓zipF_l, ↓zipF_t, ↓z_Par, ↓parF_r, ↓z_Par3, ↓par3F_r, ↓z_Never, ↓z_NevE, ↓z_getK, ↓z_getT, ↓z_AddI, ↓z_AddT, ↓z_AddO, ↓z_AddS, ↓z_MulI, ↓z_MulT, ↓z_LtI, ↓z_LtT, ↓z_IsN, ↓z_IntI, ↓z_SlT, ↓z_SlL, ↓z_SlO, ↓z_SlS, ↓z_Sub, ↓z_Mod, ↓z_Div, ↓z_Pow, ↓z_Le, ↓z_Gt, ↓z_Ge, ↓z_II, ↓varF_v, ↓varF_l, ↓mvF_o, ↓mvF_v, ↓mvF_s, ndF_some, ifB_t, ifB_f, con, sl, frzS, isB, tuO_t, daO, sqO_l, sqO_t, sqO_o, sqO_s, lsO, lenO_K, lenO_T, lenO_o, lenO_l, lenO_t, lenO_s, ngO, consO, argO, varsO, wrB, untag, owL, tyS, tyD_n, tyD_b, tyD_i, tyD_s, tyD_l, tyD_t, tyD_d, entryE, tagA, backA, wipeE, backE, keepS, seqD_l, seqD_t, seqV_l, seqV_t, liD_l, kyS, ksS, keyD_i, keyD_s, keysD, ixS, tupD_t, isDic, isT, eq_self, isNone_n, isNone_i, isNone_t, isNone_l, isNone_b, isNone_s, isNone_o, need_some, atI_0, atI_1, atI_2, atI_3, ixN_30, ixN_31, ixN_32, eqv_int, eqv_str, Int.toNat_natCast, List.getElem?_cons_zero, List.getElem?_cons_succ, List.getElem?_nil, List.set_cons_zero, List.set_cons_succ, List.length_cons, List.length_nil, Option.join_some, Option.join_none, List.replicate_succ, List.replicate_zero, List.cons_append, List.nil_append, Option.map_some, Nat.zero_add, Nat.reduceAdd, Nat.reduceSub, Bool.not_true, Bool.not_false, if_true, if_false, Bool.false_eq_true, true_and, and_true, decide_true, decide_false, Nat.reduceLeDiff, Nat.reduceEqDiff, reduceIte, reduceCtorEq, Bool.or_false, Bool.or_true, Bool.and_true, Bool.and_false, Bool.true_and, Bool.false_and, Bool.true_or, Bool.false_or, List.map_cons, List.map_nil, List.nodup_cons, List.nodup_nil, List.mem_cons, List.not_mem_nil, not_false_eq_true, or_false, false_or, seqV_S, seqV_R]
  refine ⟨pow_ok, brB (fun hc => ?_) fun hc => ?_⟩
  · simp -dsimp only [↓z_K, ↓z_VarO, ↓z_Var, ↓z_Move, ↓z_Of, ↓z_Fz, ↓z_Res, ↓z_VNil, ↓z_VCons, ↓z_Tup, ↓z_Lst, ↓z_Op2, ↓z_Tst, ↓z_Not, ↓z_Chain, ↓z_AndV, ↓z_OrV, ↓z_NotV, ↓z_And, ↓z_Or, ↓z_If, ↓z_Next, ↓z_Seq, ↓z_Break, ↓z_Cont, ↓z_Exp, ↓z_Ret, ↓z_RetN, ↓z_IfS, ↓z_Nm, ↓z_Tp, ↓z_GN, ↓z_GC, ↓z_Asg, ↓z_ONil, ↓z_OCons, ↓z_SetIx, ↓z_Call, ↓z_Sq, ↓z_Rev, ↓z_For, ↓z_Wh, ↓z_Lc, ↓z_Lc2, ↓z_All, ↓z_All2, ↓z_Yes, ↓z_CB, ↓z_Isi, ↓z_Neg, ↓z_NoP, ↓z_Prt, ↓z_Sl, ↓z_App, ↓z_Pop, ↓z_VK, ↓z_VKs, ↓z_Eq, ↓z_InL, ↓z_InK, ↓z_InT, ↓z_In1, ↓z_In2, ↓z_In3, ↓z_In4, ↓z_IxS, ↓z_Ix1, ↓z_Ix2, ↓z_Ix3, ↓z_Ix4, ↓z_Ix5, ↓z_put1, ↓z_put2, ↓z_put3, ↓z_Len, ↓z_TupC, ↓z_LstC, ↓z_Repr, ↓z_NewD, ↓z_DisK, ↓z_DisT, ↓z_Get1, ↓z_Get2, ↓z_get2K, ↓z_get2T, ↓z_fin, ↓z_Rng1, ↓z_Rng2, ↓rng1F_i, ↓rng2F_i, ↓z_Enm, ↓z_EnmA, ↓enmAF_l, ↓enmAF_t, ↓enmF_l, ↓z_Zip, ↓zipF_l, ↓zipF_t, ↓z_Par, ↓parF_r, ↓z_Par3, ↓par3F_r, ↓z_Never, ↓z_NevE, ↓z_getK, ↓z_getT, ↓z_AddI, ↓z_AddT, ↓z_AddO, ↓z_AddS, ↓z_MulI, ↓z_MulT, ↓z_LtI, ↓z_LtT, ↓z_IsN, ↓z_IntI, ↓z_SlT, ↓z_SlL, ↓z_SlO, ↓z_SlS, ↓z_Sub, ↓z_Mod, ↓z_Div, ↓z_Pow, ↓z_Le, ↓z_Gt, ↓z_Ge, ↓z_II, ↓varF_v, ↓varF_l, ↓mvF_o, ↓mvF_v, ↓mvF_s, ndF_some, ifB_t, ifB_f, con, sl, frzS, isB, tuO_t, daO, sqO_l, sqO_t, sqO_o, sqO_s, lsO, lenO_K, lenO_T, lenO_o, lenO_l, lenO_t, lenO_s, ngO, consO, argO, varsO, wrB, untag, owL, tyS, tyD_n, tyD_b, tyD_i, tyD_s, tyD_l, tyD_t, tyD_d, entryE, tagA, backA, wipeE, backE, keepS, seqD_l, seqD_t, seqV_l, seqV_t, liD_l, kyS, ksS, keyD_i, keyD_s, keysD, ixS, tupD_t, isDic, isT, eq_self, isNone_n, isNone_i, isNone_t, isNone_l, isNone_b, isNone_s, isNone_o, need_some, atI_0, atI_1, atI_2, atI_3, ixN_30, ixN_31, ixN_32, eqv_int, eqv_str, Int.toNat_natCast, List.getElem?_cons_zero, List.getElem?_cons_succ, List.getElem?_nil, List.set_cons_zero, List.set_cons_succ, List.length_cons, List.length_nil, Option.join_some, Option.join_none, List.replicate_succ, List.replicate_zero, List.cons_append, List.nil_append, Option.map_some, Nat.zero_add, Nat.reduceAdd, Nat.reduceSub, Bool.not_true, Bool.not_false, if_true, if_false, Bool.false_eq_true, true_and, and_true, decide_true, decide_false, Nat.reduceLeDiff, Nat.reduceEqDiff, reduceIte, reduceCtorEq, Bool.or_false, Bool.or_true, Bool.and_true, Bool.and_false, Bool.true_and, Bool.false_and, Bool.true_or, Bool.false_or, List.map_cons, List.map_nil, List.nodup_cons, List.nodup_nil, List.mem_cons, List.not_mem_nil, not_false_eq_true, or_false, false_or, seqV_S, seqV_R]
    refine ⟨pow_ok, pow_ok, by decide, mul_l, sz3, h _ ⟨_, _, _, rfl, ?_, by omega, by omega⟩⟩
    have := mod_lt (a := cell) (m := 10 ^ Int.toNat 29 + 319) (by decide)
    have e : (10 ^ Int.toNat 29 + 319 : Int) < 2 ^ 127 := by decide
    omega
  · simp -dsimp only [↓z_K, ↓z_VarO, ↓z_Var, ↓z_Move, ↓z_Of, ↓z_Fz, ↓z_Res, ↓z_VNil, ↓z_VCons, ↓z_Tup, ↓z_Lst, ↓z_Op2, ↓z_Tst, ↓z_Not, ↓z_Chain, ↓z_AndV, ↓z_OrV, ↓z_NotV, ↓z_And, ↓z_Or, ↓z_If, ↓z_Next, ↓z_Seq, ↓z_Break, ↓z_Cont, ↓z_Exp, ↓z_Ret, ↓z_RetN, ↓z_IfS, ↓z_Nm, ↓z_Tp, ↓z_GN, ↓z_GC, ↓z_Asg, ↓z_ONil, ↓z_OCons, ↓z_SetIx, ↓z_Call, ↓z_Sq, ↓z_Rev, ↓z_For, ↓z_Wh, ↓z_Lc, ↓z_Lc2, ↓z_All, ↓z_All2, ↓z_Yes, ↓z_CB, ↓z_Isi, ↓z_Neg, ↓z_NoP, ↓z_Prt, ↓z_Sl, ↓z_App, ↓z_Pop, ↓z_VK, ↓z_VKs, ↓z_Eq, ↓z_InL, ↓z_InK, ↓z_InT, ↓z_In1, ↓z_In2, ↓z_In3, ↓z_In4, ↓z_IxS, ↓z_Ix1, ↓z_Ix2, ↓z_Ix3, ↓z_Ix4, ↓z_Ix5, ↓z_put1, ↓z_put2, ↓z_put3, ↓z_Len, ↓z_TupC, ↓z_LstC, ↓z_Repr, ↓z_NewD, ↓z_DisK, ↓z_DisT, ↓z_Get1, ↓z_Get2, ↓z_get2K, ↓z_get2T, ↓z_fin, ↓z_Rng1, ↓z_Rng2, ↓rng1F_i, ↓rng2F_i, ↓z_Enm, ↓z_EnmA, ↓enmAF_l, ↓enmAF_t, ↓enmF_l, ↓z_Zip, ↓zipF_l, ↓zipF_t, ↓z_Par, ↓parF_r, ↓z_Par3, ↓par3F_r, ↓z_Never, ↓z_NevE, ↓z_getK, ↓z_getT, ↓z_AddI, ↓z_AddT, ↓z_AddO, ↓z_AddS, ↓z_MulI, ↓z_MulT, ↓z_LtI, ↓z_LtT, ↓z_IsN, ↓z_IntI, ↓z_SlT, ↓z_SlL, ↓z_SlO, ↓z_SlS, ↓z_Sub, ↓z_Mod, ↓z_Div, ↓z_Pow, ↓z_Le, ↓z_Gt, ↓z_Ge, ↓z_II, ↓varF_v, ↓varF_l, ↓mvF_o, ↓mvF_v, ↓mvF_s, ndF_some, ifB_t, ifB_f, con, sl, frzS, isB, tuO_t, daO, sqO_l, sqO_t, sqO_o, sqO_s, lsO, lenO_K, lenO_T, lenO_o, lenO_l, lenO_t, lenO_s, ngO, consO, argO, varsO, wrB, untag, owL, tyS, tyD_n, tyD_b, tyD_i, tyD_s, tyD_l, tyD_t, tyD_d, entryE, tagA, backA, wipeE, backE, keepS, seqD_l, seqD_t, seqV_l, seqV_t, liD_l, kyS, ksS, keyD_i, keyD_s, keysD, ixS, tupD_t, isDic, isT, eq_self, isNone_n, isNone_i, isNone_t, isNone_l, isNone_b, isNone_s, isNone_o, need_some, atI_0, atI_1, atI_2, atI_3, ixN_30, ixN_31, ixN_32, eqv_int, eqv_str, Int.toNat_natCast, List.getElem?_cons_zero, List.getElem?_cons_succ, List.getElem?_nil, List.set_cons_zero, List.set_cons_succ, List.length_cons, List.length_nil, Option.join_some, Option.join_none, List.replicate_succ, List.replicate_zero, List.cons_append, List.nil_append, Option.map_some, Nat.zero_add, Nat.reduceAdd, Nat.reduceSub, Bool.not_true, Bool.not_false, if_true, if_false, Bool.false_eq_true, true_and, and_true, decide_true, decide_false, Nat.reduceLeDiff, Nat.reduceEqDiff, reduceIte, reduceCtorEq, Bool.or_false, Bool.or_true, Bool.and_true, Bool.and_false, Bool.true_and, Bool.false_and, Bool.true_or, Bool.false_or, List.map_cons, List.map_nil, List.nodup_cons, List.nodup_nil, List.mem_cons, List.not_mem_nil, not_false_eq_true, or_false, false_or, seqV_S, seqV_R]
    refine ⟨mul_r (by decide) (by decide), mul_l, pow_ok, by decide, sz3, h _ ⟨_, _, _, rfl, ?_, by omega, by omega⟩⟩
    have := mod_lt (a := cell * 81799 + 59 * k + 13) (m := 10 ^ Int.toNat 32 + 49) (by decide)
    have e : (10 ^ Int.toNat 32 + 49 : Int) < 2 ^ 128 := by decide
    omega
theorem sp_first (ns : List Int) (k : Nat) (Q : Slot → List Slot → Prop) (X : Value → Prop) (hk : 0 < k) (h : ∀ cells : List Int, cells.length ≤ k → Q (.own none (.lst (cells.map .int))) [.scr ns, .val (.int k)]) : fs__law_first [.scr ns, .val (.int k)] Q X := by
  refine ⟨rfl, ?_⟩
  unfold w__law_first
  simp -dsimp only [↓z_K, ↓z_VarO, ↓z_Var, ↓z_Move, ↓z_Of, ↓z_Fz, ↓z_Res, ↓z_VNil, ↓z_VCons, ↓z_Tup, ↓z_Lst, ↓z_Op2, ↓z_Tst, ↓z_Not, ↓z_Chain, ↓z_AndV, ↓z_OrV, ↓z_NotV, ↓z_And, ↓z_Or, ↓z_If, ↓z_Next, ↓z_Seq, ↓z_Break, ↓z_Cont, ↓z_Exp, ↓z_Ret, ↓z_RetN, ↓z_IfS, ↓z_Nm, ↓z_Tp, ↓z_GN, ↓z_GC, ↓z_Asg, ↓z_ONil, ↓z_OCons, ↓z_SetIx, ↓z_Call, ↓z_Sq, ↓z_Rev, ↓z_For, ↓z_Wh, ↓z_Lc, ↓z_Lc2, ↓z_All, ↓z_All2, ↓z_Yes, ↓z_CB, ↓z_Isi, ↓z_Neg, ↓z_NoP, ↓z_Prt, ↓z_Sl, ↓z_App, ↓z_Pop, ↓z_VK, ↓z_VKs, ↓z_Eq, ↓z_InL, ↓z_InK, ↓z_InT, ↓z_In1, ↓z_In2, ↓z_In3, ↓z_In4, ↓z_IxS, ↓z_Ix1, ↓z_Ix2, ↓z_Ix3, ↓z_Ix4, ↓z_Ix5, ↓z_put1, ↓z_put2, ↓z_put3, ↓z_Len, ↓z_TupC, ↓z_LstC, ↓z_Repr, ↓z_NewD, ↓z_DisK, ↓z_DisT, ↓z_Get1, ↓z_Get2, ↓z_get2K, ↓z_get2T, ↓z_fin, ↓z_Rng1, ↓z_Rng2, ↓rng1F_i, ↓rng2F_i, ↓z_Enm, ↓z_EnmA, ↓enmAF_l, ↓enmAF_t, ↓enmF_l, ↓z_Zip, ↓zipF_l, ↓zipF_t, ↓z_Par, ↓parF_r, ↓z_Par3, ↓par3F_r, ↓z_Never, ↓z_NevE, ↓z_getK, ↓z_getT, ↓z_AddI, ↓z_AddT, ↓z_AddO, ↓z_AddS, ↓z_MulI, ↓z_MulT, ↓z_LtI, ↓z_LtT, ↓z_IsN, ↓z_IntI, ↓z_SlT, ↓z_SlL, ↓z_SlO, ↓z_SlS, ↓z_Sub, ↓z_Mod, ↓z_Div, ↓z_Pow, ↓z_Le, ↓z_Gt, ↓z_Ge, ↓z_II, ↓varF_v, ↓varF_l, ↓mvF_o, ↓mvF_v, ↓mvF_s, ndF_some, ifB_t, ifB_f, con, sl, frzS, isB, tuO_t, daO, sqO_l, sqO_t, sqO_o, sqO_s, lsO, lenO_K, lenO_T, lenO_o, lenO_l, lenO_t, lenO_s, ngO, consO, argO, varsO, wrB, untag, owL, tyS, tyD_n, tyD_b, tyD_i, tyD_s, tyD_l, tyD_t, tyD_d, entryE, tagA, backA, wipeE, backE, keepS, seqD_l, seqD_t, seqV_l, seqV_t, liD_l, kyS, ksS, keyD_i, keyD_s, keysD, ixS, tupD_t, isDic, isT, eq_self, isNone_n, isNone_i, isNone_t, isNone_l, isNone_b, isNone_s, isNone_o, need_some, atI_0, atI_1, atI_2, atI_3, ixN_30, ixN_31, ixN_32, eqv_int, eqv_str, Int.toNat_natCast, List.getElem?_cons_zero, List.getElem?_cons_succ, List.getElem?_nil, List.set_cons_zero, List.set_cons_succ, List.length_cons, List.length_nil, Option.join_some, Option.join_none, List.replicate_succ, List.replicate_zero, List.cons_append, List.nil_append, Option.map_some, Nat.zero_add, Nat.reduceAdd, Nat.reduceSub, Bool.not_true, Bool.not_false, if_true, if_false, Bool.false_eq_true, true_and, and_true, decide_true, decide_false, Nat.reduceLeDiff, Nat.reduceEqDiff, reduceIte, reduceCtorEq, Bool.or_false, Bool.or_true, Bool.and_true, Bool.and_false, Bool.true_and, Bool.false_and, Bool.true_or, Bool.false_or, List.map_cons, List.map_nil, List.nodup_cons, List.nodup_nil, List.mem_cons, List.not_mem_nil, not_false_eq_true, or_false, false_or, seqV_S, seqV_R]
  refine ⟨Nat.zero_le _, .inl ⟨shaped_ints, shaped_nil⟩, ?_⟩
  rw [eqv_list_nil]
  cases ns with
  | nil => simp -dsimp only [↓z_K, ↓z_VarO, ↓z_Var, ↓z_Move, ↓z_Of, ↓z_Fz, ↓z_Res, ↓z_VNil, ↓z_VCons, ↓z_Tup, ↓z_Lst, ↓z_Op2, ↓z_Tst, ↓z_Not, ↓z_Chain, ↓z_AndV, ↓z_OrV, ↓z_NotV, ↓z_And, ↓z_Or, ↓z_If, ↓z_Next, ↓z_Seq, ↓z_Break, ↓z_Cont, ↓z_Exp, ↓z_Ret, ↓z_RetN, ↓z_IfS, ↓z_Nm, ↓z_Tp, ↓z_GN, ↓z_GC, ↓z_Asg, ↓z_ONil, ↓z_OCons, ↓z_SetIx, ↓z_Call, ↓z_Sq, ↓z_Rev, ↓z_For, ↓z_Wh, ↓z_Lc, ↓z_Lc2, ↓z_All, ↓z_All2, ↓z_Yes, ↓z_CB, ↓z_Isi, ↓z_Neg, ↓z_NoP, ↓z_Prt, ↓z_Sl, ↓z_App, ↓z_Pop, ↓z_VK, ↓z_VKs, ↓z_Eq, ↓z_InL, ↓z_InK, ↓z_InT, ↓z_In1, ↓z_In2, ↓z_In3, ↓z_In4, ↓z_IxS, ↓z_Ix1, ↓z_Ix2, ↓z_Ix3, ↓z_Ix4, ↓z_Ix5, ↓z_put1, ↓z_put2, ↓z_put3, ↓z_Len, ↓z_TupC, ↓z_LstC, ↓z_Repr, ↓z_NewD, ↓z_DisK, ↓z_DisT, ↓z_Get1, ↓z_Get2, ↓z_get2K, ↓z_get2T, ↓z_fin, ↓z_Rng1, ↓z_Rng2, ↓rng1F_i, ↓rng2F_i, ↓z_Enm, ↓z_EnmA, ↓enmAF_l, ↓enmAF_t, ↓enmF_l, ↓z_Zip, ↓zipF_l, ↓zipF_t, ↓z_Par, ↓parF_r, ↓z_Par3, ↓par3F_r, ↓z_Never, ↓z_NevE, ↓z_getK, ↓z_getT, ↓z_AddI, ↓z_AddT, ↓z_AddO, ↓z_AddS, ↓z_MulI, ↓z_MulT, ↓z_LtI, ↓z_LtT, ↓z_IsN, ↓z_IntI, ↓z_SlT, ↓z_SlL, ↓z_SlO, ↓z_SlS, ↓z_Sub, ↓z_Mod, ↓z_Div, ↓z_Pow, ↓z_Le, ↓z_Gt, ↓z_Ge, ↓z_II, ↓varF_v, ↓varF_l, ↓mvF_o, ↓mvF_v, ↓mvF_s, ndF_some, ifB_t, ifB_f, con, sl, frzS, isB, tuO_t, daO, sqO_l, sqO_t, sqO_o, sqO_s, lsO, lenO_K, lenO_T, lenO_o, lenO_l, lenO_t, lenO_s, ngO, consO, argO, varsO, wrB, untag, owL, tyS, tyD_n, tyD_b, tyD_i, tyD_s, tyD_l, tyD_t, tyD_d, entryE, tagA, backA, wipeE, backE, keepS, seqD_l, seqD_t, seqV_l, seqV_t, liD_l, kyS, ksS, keyD_i, keyD_s, keysD, ixS, tupD_t, isDic, isT, eq_self, isNone_n, isNone_i, isNone_t, isNone_l, isNone_b, isNone_s, isNone_o, need_some, atI_0, atI_1, atI_2, atI_3, ixN_30, ixN_31, ixN_32, eqv_int, eqv_str, Int.toNat_natCast, List.getElem?_cons_zero, List.getElem?_cons_succ, List.getElem?_nil, List.set_cons_zero, List.set_cons_succ, List.length_cons, List.length_nil, Option.join_some, Option.join_none, List.replicate_succ, List.replicate_zero, List.cons_append, List.nil_append, Option.map_some, Nat.zero_add, Nat.reduceAdd, Nat.reduceSub, Bool.not_true, Bool.not_false, if_true, if_false, Bool.false_eq_true, true_and, and_true, decide_true, decide_false, Nat.reduceLeDiff, Nat.reduceEqDiff, reduceIte, reduceCtorEq, Bool.or_false, Bool.or_true, Bool.and_true, Bool.and_false, Bool.true_and, Bool.false_and, Bool.true_or, Bool.false_or, List.map_cons, List.map_nil, List.nodup_cons, List.nodup_nil, List.mem_cons, List.not_mem_nil, not_false_eq_true, or_false, false_or, seqV_S, seqV_R, List.isEmpty_nil]; exact ⟨sz1, h [0] hk⟩
  | cons n ns =>
    simp -dsimp only [↓z_K, ↓z_VarO, ↓z_Var, ↓z_Move, ↓z_Of, ↓z_Fz, ↓z_Res, ↓z_VNil, ↓z_VCons, ↓z_Tup, ↓z_Lst, ↓z_Op2, ↓z_Tst, ↓z_Not, ↓z_Chain, ↓z_AndV, ↓z_OrV, ↓z_NotV, ↓z_And, ↓z_Or, ↓z_If, ↓z_Next, ↓z_Seq, ↓z_Break, ↓z_Cont, ↓z_Exp, ↓z_Ret, ↓z_RetN, ↓z_IfS, ↓z_Nm, ↓z_Tp, ↓z_GN, ↓z_GC, ↓z_Asg, ↓z_ONil, ↓z_OCons, ↓z_SetIx, ↓z_Call, ↓z_Sq, ↓z_Rev, ↓z_For, ↓z_Wh, ↓z_Lc, ↓z_Lc2, ↓z_All, ↓z_All2, ↓z_Yes, ↓z_CB, ↓z_Isi, ↓z_Neg, ↓z_NoP, ↓z_Prt, ↓z_Sl, ↓z_App, ↓z_Pop, ↓z_VK, ↓z_VKs, ↓z_Eq, ↓z_InL, ↓z_InK, ↓z_InT, ↓z_In1, ↓z_In2, ↓z_In3, ↓z_In4, ↓z_IxS, ↓z_Ix1, ↓z_Ix2, ↓z_Ix3, ↓z_Ix4, ↓z_Ix5, ↓z_put1, ↓z_put2, ↓z_put3, ↓z_Len, ↓z_TupC, ↓z_LstC, ↓z_Repr, ↓z_NewD, ↓z_DisK, ↓z_DisT, ↓z_Get1, ↓z_Get2, ↓z_get2K, ↓z_get2T, ↓z_fin, ↓z_Rng1, ↓z_Rng2, ↓rng1F_i, ↓rng2F_i, ↓z_Enm, ↓z_EnmA, ↓enmAF_l, ↓enmAF_t, ↓enmF_l, ↓z_Zip, ↓zipF_l, ↓zipF_t, ↓z_Par, ↓parF_r, ↓z_Par3, ↓par3F_r, ↓z_Never, ↓z_NevE, ↓z_getK, ↓z_getT, ↓z_AddI, ↓z_AddT, ↓z_AddO, ↓z_AddS, ↓z_MulI, ↓z_MulT, ↓z_LtI, ↓z_LtT, ↓z_IsN, ↓z_IntI, ↓z_SlT, ↓z_SlL, ↓z_SlO, ↓z_SlS, ↓z_Sub, ↓z_Mod, ↓z_Div, ↓z_Pow, ↓z_Le, ↓z_Gt, ↓z_Ge, ↓z_II, ↓varF_v, ↓varF_l, ↓mvF_o, ↓mvF_v, ↓mvF_s, ndF_some, ifB_t, ifB_f, con, sl, frzS, isB, tuO_t, daO, sqO_l, sqO_t, sqO_o, sqO_s, lsO, lenO_K, lenO_T, lenO_o, lenO_l, lenO_t, lenO_s, ngO, consO, argO, varsO, wrB, untag, owL, tyS, tyD_n, tyD_b, tyD_i, tyD_s, tyD_l, tyD_t, tyD_d, entryE, tagA, backA, wipeE, backE, keepS, seqD_l, seqD_t, seqV_l, seqV_t, liD_l, kyS, ksS, keyD_i, keyD_s, keysD, ixS, tupD_t, isDic, isT, eq_self, isNone_n, isNone_i, isNone_t, isNone_l, isNone_b, isNone_s, isNone_o, need_some, atI_0, atI_1, atI_2, atI_3, ixN_30, ixN_31, ixN_32, eqv_int, eqv_str, Int.toNat_natCast, List.getElem?_cons_zero, List.getElem?_cons_succ, List.getElem?_nil, List.set_cons_zero, List.set_cons_succ, List.length_cons, List.length_nil, Option.join_some, Option.join_none, List.replicate_succ, List.replicate_zero, List.cons_append, List.nil_append, Option.map_some, Nat.zero_add, Nat.reduceAdd, Nat.reduceSub, Bool.not_true, Bool.not_false, if_true, if_false, Bool.false_eq_true, true_and, and_true, decide_true, decide_false, Nat.reduceLeDiff, Nat.reduceEqDiff, reduceIte, reduceCtorEq, Bool.or_false, Bool.or_true, Bool.and_true, Bool.and_false, Bool.true_and, Bool.false_and, Bool.true_or, Bool.false_or, List.map_cons, List.map_nil, List.nodup_cons, List.nodup_nil, List.mem_cons, List.not_mem_nil, not_false_eq_true, or_false, false_or, seqV_S, seqV_R, List.isEmpty_cons]
    rw [cut_take, ← List.map_cons, ← List.map_take]
    exact h ((n :: ns).take k) (by rw [List.length_take]; omega)
theorem sp_wmachine {k L A S : Nat} {u : MO} {Q : Slot → List Slot → Prop} {X : Value → Prop} (hu : Well k u) (hL0 : 0 < L) (hL : L ≤ 3) (hS : 0 < S) (hS2 : S ≤ 12) (hA : 2 ≤ A) (hA2 : A ≤ 9)
    (h : ∀ u' (R : List Row), Well (k + 200) u' → R.length = S → Mach ⟨L, A, R⟩ → Q (.val (eS ⟨L, A, R⟩)) [uo u', .val (.int L), .val (.int A), .val (.int S)]) (hk : k < 2 ^ 37 := by omega) :
    fs__law_machine [uo u, .val (.int L), .val (.int A), .val (.int S)] Q X := by
  refine ⟨rfl, ?_⟩
  unfold w__law_machine
  simp -dsimp only [↓z_K, ↓z_VarO, ↓z_Var, ↓z_Move, ↓z_Of, ↓z_Fz, ↓z_Res, ↓z_VNil, ↓z_VCons, ↓z_Tup, ↓z_Lst, ↓z_Op2, ↓z_Tst, ↓z_Not, ↓z_Chain, ↓z_AndV, ↓z_OrV, ↓z_NotV, ↓z_And, ↓z_Or, ↓z_If, ↓z_Next, ↓z_Seq, ↓z_Break, ↓z_Cont, ↓z_Exp, ↓z_Ret, ↓z_RetN, ↓z_IfS, ↓z_Nm, ↓z_Tp, ↓z_GN, ↓z_GC, ↓z_Asg, ↓z_ONil, ↓z_OCons, ↓z_SetIx, ↓z_Call, ↓z_Sq, ↓z_Rev, ↓z_For, ↓z_Wh, ↓z_Lc, ↓z_Lc2, ↓z_All, ↓z_All2, ↓z_Yes, ↓z_CB, ↓z_Isi, ↓z_Neg, ↓z_NoP, ↓z_Prt, ↓z_Sl, ↓z_App, ↓z_Pop, ↓z_VK, ↓z_VKs, ↓z_Eq, ↓z_InL, ↓z_InK, ↓z_InT, ↓z_In1, ↓z_In2, ↓z_In3, ↓z_In4, ↓z_IxS, ↓z_Ix1, ↓z_Ix2, ↓z_Ix3, ↓z_Ix4, ↓z_Ix5, ↓z_put1, ↓z_put2, ↓z_put3, ↓z_Len, ↓z_TupC, ↓z_LstC, ↓z_Repr, ↓z_NewD, ↓z_DisK, ↓z_DisT, ↓z_Get1, ↓z_Get2, ↓z_get2K, ↓z_get2T, ↓z_fin, ↓z_Rng1, ↓z_Rng2, ↓rng1F_i, ↓rng2F_i, ↓z_Enm, ↓z_EnmA, ↓enmAF_l, ↓enmAF_t, ↓enmF_l, ↓z_Zip, ↓zipF_l, ↓zipF_t, ↓z_Par, ↓parF_r, ↓z_Par3, ↓par3F_r, ↓z_Never, ↓z_NevE, ↓z_getK, ↓z_getT, ↓z_AddI, ↓z_AddT, ↓z_AddO, ↓z_AddS, ↓z_MulI, ↓z_MulT, ↓z_LtI, ↓z_LtT, ↓z_IsN, ↓z_IntI, ↓z_SlT, ↓z_SlL, ↓z_SlO, ↓z_SlS, ↓z_Sub, ↓z_Mod, ↓z_Div, ↓z_Pow, ↓z_Le, ↓z_Gt, ↓z_Ge, ↓z_II, ↓varF_v, ↓varF_l, ↓mvF_o, ↓mvF_v, ↓mvF_s, ndF_some, ifB_t, ifB_f, con, sl, frzS, isB, tuO_t, daO, sqO_l, sqO_t, sqO_o, sqO_s, lsO, lenO_K, lenO_T, lenO_o, lenO_l, lenO_t, lenO_s, ngO, consO, argO, varsO, wrB, untag, owL, tyS, tyD_n, tyD_b, tyD_i, tyD_s, tyD_l, tyD_t, tyD_d, entryE, tagA, backA, wipeE, backE, keepS, seqD_l, seqD_t, seqV_l, seqV_t, liD_l, kyS, ksS, keyD_i, keyD_s, keysD, ixS, tupD_t, isDic, isT, eq_self, isNone_n, isNone_i, isNone_t, isNone_l, isNone_b, isNone_s, isNone_o, need_some, atI_0, atI_1, atI_2, atI_3, ixN_30, ixN_31, ixN_32, eqv_int, eqv_str, Int.toNat_natCast, List.getElem?_cons_zero, List.getElem?_cons_succ, List.getElem?_nil, List.set_cons_zero, List.set_cons_succ, List.length_cons, List.length_nil, Option.join_some, Option.join_none, List.replicate_succ, List.replicate_zero, List.cons_append, List.nil_append, Option.map_some, Nat.zero_add, Nat.reduceAdd, Nat.reduceSub, Bool.not_true, Bool.not_false, if_true, if_false, Bool.false_eq_true, true_and, and_true, decide_true, decide_false, Nat.reduceLeDiff, Nat.reduceEqDiff, reduceIte, reduceCtorEq, Bool.or_false, Bool.or_true, Bool.and_true, Bool.and_false, Bool.true_and, Bool.false_and, Bool.true_or, Bool.false_or, List.map_cons, List.map_nil, List.nodup_cons, List.nodup_nil, List.mem_cons, List.not_mem_nil, not_false_eq_true, or_false, false_or, seqV_S, seqV_R]
  refine ⟨Nat.zero_le _, ⟨by omega, by omega⟩, ?_⟩
  refine for_inv (fun i e => ∃ u' R x5 x6, e = [ua u', some (.val (.int L)), some (.val (.int A)), some (.val (.int S)), some (.own none (.lst (R.map eR))), x5, x6] ∧ Well (k + 6 * i) u' ∧ R.length = i ∧ ∀ r ∈ R, FullR L S A r)
    ⟨u, [], _, _, rfl, hu, rfl, by simp⟩ ?_ ?_
  · rintro i d e N hd ⟨u1, R, x5, x6, rfl, hu1, hl, hR⟩ hN
    obtain ⟨hi, rfl⟩ := rng0_get hd
    have hi : i < S := by simpa using hi
    unfold w__law_machine_b1
    simp -dsimp only [↓z_K, ↓z_VarO, ↓z_Var, ↓z_Move, ↓z_Of, ↓z_Fz, ↓z_Res, ↓z_VNil, ↓z_VCons, ↓z_Tup, ↓z_Lst, ↓z_Op2, ↓z_Tst, ↓z_Not, ↓z_Chain, ↓z_AndV, ↓z_OrV, ↓z_NotV, ↓z_And, ↓z_Or, ↓z_If, ↓z_Next, ↓z_Seq, ↓z_Break, ↓z_Cont, ↓z_Exp, ↓z_Ret, ↓z_RetN, ↓z_IfS, ↓z_Nm, ↓z_Tp, ↓z_GN, ↓z_GC, ↓z_Asg, ↓z_ONil, ↓z_OCons, ↓z_SetIx, ↓z_Call, ↓z_Sq, ↓z_Rev, ↓z_For, ↓z_Wh, ↓z_Lc, ↓z_Lc2, ↓z_All, ↓z_All2, ↓z_Yes, ↓z_CB, ↓z_Isi, ↓z_Neg, ↓z_NoP, ↓z_Prt, ↓z_Sl, ↓z_App, ↓z_Pop, ↓z_VK, ↓z_VKs, ↓z_Eq, ↓z_InL, ↓z_InK, ↓z_InT, ↓z_In1, ↓z_In2, ↓z_In3, ↓z_In4, ↓z_IxS, ↓z_Ix1, ↓z_Ix2, ↓z_Ix3, ↓z_Ix4, ↓z_Ix5, ↓z_put1, ↓z_put2, ↓z_put3, ↓z_Len, ↓z_TupC, ↓z_LstC, ↓z_Repr, ↓z_NewD, ↓z_DisK, ↓z_DisT, ↓z_Get1, ↓z_Get2, ↓z_get2K, ↓z_get2T, ↓z_fin, ↓z_Rng1, ↓z_Rng2, ↓rng1F_i, ↓rng2F_i, ↓z_Enm, ↓z_EnmA, ↓enmAF_l, ↓enmAF_t, ↓enmF_l, ↓z_Zip, ↓zipF_l, ↓zipF_t, ↓z_Par, ↓parF_r, ↓z_Par3, ↓par3F_r, ↓z_Never, ↓z_NevE, ↓z_getK, ↓z_getT, ↓z_AddI, ↓z_AddT, ↓z_AddO, ↓z_AddS, ↓z_MulI, ↓z_MulT, ↓z_LtI, ↓z_LtT, ↓z_IsN, ↓z_IntI, ↓z_SlT, ↓z_SlL, ↓z_SlO, ↓z_SlS, ↓z_Sub, ↓z_Mod, ↓z_Div, ↓z_Pow, ↓z_Le, ↓z_Gt, ↓z_Ge, ↓z_II, ↓varF_v, ↓varF_l, ↓mvF_o, ↓mvF_v, ↓mvF_s, ndF_some, ifB_t, ifB_f, con, sl, frzS, isB, tuO_t, daO, sqO_l, sqO_t, sqO_o, sqO_s, lsO, lenO_K, lenO_T, lenO_o, lenO_l, lenO_t, lenO_s, ngO, consO, argO, varsO, wrB, untag, owL, tyS, tyD_n, tyD_b, tyD_i, tyD_s, tyD_l, tyD_t, tyD_d, entryE, tagA, backA, wipeE, backE, keepS, seqD_l, seqD_t, seqV_l, seqV_t, liD_l, kyS, ksS, keyD_i, keyD_s, keysD, ixS, tupD_t, isDic, isT, eq_self, isNone_n, isNone_i, isNone_t, isNone_l, isNone_b, isNone_s, isNone_o, need_some, atI_0, atI_1, atI_2, atI_3, ixN_30, ixN_31, ixN_32, eqv_int, eqv_str, Int.toNat_natCast, List.getElem?_cons_zero, List.getElem?_cons_succ, List.getElem?_nil, List.set_cons_zero, List.set_cons_succ, List.length_cons, List.length_nil, Option.join_some, Option.join_none, List.replicate_succ, List.replicate_zero, List.cons_append, List.nil_append, Option.map_some, Nat.zero_add, Nat.reduceAdd, Nat.reduceSub, Bool.not_true, Bool.not_false, if_true, if_false, Bool.false_eq_true, true_and, and_true, decide_true, decide_false, Nat.reduceLeDiff, Nat.reduceEqDiff, reduceIte, reduceCtorEq, Bool.or_false, Bool.or_true, Bool.and_true, Bool.and_false, Bool.true_and, Bool.false_and, Bool.true_or, Bool.false_or, List.map_cons, List.map_nil, List.nodup_cons, List.nodup_nil, List.mem_cons, List.not_mem_nil, not_false_eq_true, or_false, false_or, seqV_S, seqV_R]
    refine ⟨⟨by omega, by omega⟩, by rw [rngD_length]; exact Nat.le_of_lt (szlt (by omega)), ?_⟩
    refine lc_inv (fun j ys e => ∃ u' row x6, e = [ua u', some (.val (.int L)), some (.val (.int A)), some (.val (.int S)), some (.own none (.lst (R.map eR))), some (.val (.int i)), x6] ∧ ys = row.map eE ∧ Well (k + 6 * i + 2 * j) u' ∧ row.length = j ∧ ∀ x ∈ row, FullE S A x)
      ⟨u1, [], _, rfl, rfl, hu1, rfl, by simp⟩ ?_ ?_
    · rintro j d ys e N1 N0 hd2 ⟨u2, row, x6, rfl, rfl, hu2, hl2, hrow⟩ hN1 hN0
      obtain ⟨hj, rfl⟩ := rng0_get hd2
      have hj : j < L := by simpa using hj
      unfold w__law_machine_e1
      simp -dsimp only [↓z_K, ↓z_VarO, ↓z_Var, ↓z_Move, ↓z_Of, ↓z_Fz, ↓z_Res, ↓z_VNil, ↓z_VCons, ↓z_Tup, ↓z_Lst, ↓z_Op2, ↓z_Tst, ↓z_Not, ↓z_Chain, ↓z_AndV, ↓z_OrV, ↓z_NotV, ↓z_And, ↓z_Or, ↓z_If, ↓z_Next, ↓z_Seq, ↓z_Break, ↓z_Cont, ↓z_Exp, ↓z_Ret, ↓z_RetN, ↓z_IfS, ↓z_Nm, ↓z_Tp, ↓z_GN, ↓z_GC, ↓z_Asg, ↓z_ONil, ↓z_OCons, ↓z_SetIx, ↓z_Call, ↓z_Sq, ↓z_Rev, ↓z_For, ↓z_Wh, ↓z_Lc, ↓z_Lc2, ↓z_All, ↓z_All2, ↓z_Yes, ↓z_CB, ↓z_Isi, ↓z_Neg, ↓z_NoP, ↓z_Prt, ↓z_Sl, ↓z_App, ↓z_Pop, ↓z_VK, ↓z_VKs, ↓z_Eq, ↓z_InL, ↓z_InK, ↓z_InT, ↓z_In1, ↓z_In2, ↓z_In3, ↓z_In4, ↓z_IxS, ↓z_Ix1, ↓z_Ix2, ↓z_Ix3, ↓z_Ix4, ↓z_Ix5, ↓z_put1, ↓z_put2, ↓z_put3, ↓z_Len, ↓z_TupC, ↓z_LstC, ↓z_Repr, ↓z_NewD, ↓z_DisK, ↓z_DisT, ↓z_Get1, ↓z_Get2, ↓z_get2K, ↓z_get2T, ↓z_fin, ↓z_Rng1, ↓z_Rng2, ↓rng1F_i, ↓rng2F_i, ↓z_Enm, ↓z_EnmA, ↓enmAF_l, ↓enmAF_t, ↓enmF_l, ↓z_Zip, ↓zipF_l, ↓zipF_t, ↓z_Par, ↓parF_r, ↓z_Par3, ↓par3F_r, ↓z_Never, ↓z_NevE, ↓z_getK, ↓z_getT, ↓z_AddI, ↓z_AddT, ↓z_AddO, ↓z_AddS, ↓z_MulI, ↓z_MulT, ↓z_LtI, ↓z_LtT, ↓z_IsN, ↓z_IntI, ↓z_SlT, ↓z_SlL, ↓z_SlO, ↓z_SlS, ↓z_Sub, ↓z_Mod, ↓z_Div, ↓z_Pow, ↓z_Le, ↓z_Gt, ↓z_Ge, ↓z_II, ↓varF_v, ↓varF_l, ↓mvF_o, ↓mvF_v, ↓mvF_s, ndF_some, ifB_t, ifB_f, con, sl, frzS, isB, tuO_t, daO, sqO_l, sqO_t, sqO_o, sqO_s, lsO, lenO_K, lenO_T, lenO_o, lenO_l, lenO_t, lenO_s, ngO, consO, argO, varsO, wrB, untag, owL, tyS, tyD_n, tyD_b, tyD_i, tyD_s, tyD_l, tyD_t, tyD_d, entryE, tagA, backA, wipeE, backE, keepS, seqD_l, seqD_t, seqV_l, seqV_t, liD_l, kyS, ksS, keyD_i, keyD_s, keysD, ixS, tupD_t, isDic, isT, eq_self, isNone_n, isNone_i, isNone_t, isNone_l, isNone_b, isNone_s, isNone_o, need_some, atI_0, atI_1, atI_2, atI_3, ixN_30, ixN_31, ixN_32, eqv_int, eqv_str, Int.toNat_natCast, List.getElem?_cons_zero, List.getElem?_cons_succ, List.getElem?_nil, List.set_cons_zero, List.set_cons_succ, List.length_cons, List.length_nil, Option.join_some, Option.join_none, List.replicate_succ, List.replicate_zero, List.cons_append, List.nil_append, Option.map_some, Nat.zero_add, Nat.reduceAdd, Nat.reduceSub, Bool.not_true, Bool.not_false, if_true, if_false, Bool.false_eq_true, true_and, and_true, decide_true, decide_false, Nat.reduceLeDiff, Nat.reduceEqDiff, reduceIte, reduceCtorEq, Bool.or_false, Bool.or_true, Bool.and_true, Bool.and_false, Bool.true_and, Bool.false_and, Bool.true_or, Bool.false_or, List.map_cons, List.map_nil, List.nodup_cons, List.nodup_nil, List.mem_cons, List.not_mem_nil, not_false_eq_true, or_false, false_or, seqV_S, seqV_R]
      refine sp_take hu2 (by omega) fun s u3 hs hu3 => ?_
      simp -dsimp only [↓z_K, ↓z_VarO, ↓z_Var, ↓z_Move, ↓z_Of, ↓z_Fz, ↓z_Res, ↓z_VNil, ↓z_VCons, ↓z_Tup, ↓z_Lst, ↓z_Op2, ↓z_Tst, ↓z_Not, ↓z_Chain, ↓z_AndV, ↓z_OrV, ↓z_NotV, ↓z_And, ↓z_Or, ↓z_If, ↓z_Next, ↓z_Seq, ↓z_Break, ↓z_Cont, ↓z_Exp, ↓z_Ret, ↓z_RetN, ↓z_IfS, ↓z_Nm, ↓z_Tp, ↓z_GN, ↓z_GC, ↓z_Asg, ↓z_ONil, ↓z_OCons, ↓z_SetIx, ↓z_Call, ↓z_Sq, ↓z_Rev, ↓z_For, ↓z_Wh, ↓z_Lc, ↓z_Lc2, ↓z_All, ↓z_All2, ↓z_Yes, ↓z_CB, ↓z_Isi, ↓z_Neg, ↓z_NoP, ↓z_Prt, ↓z_Sl, ↓z_App, ↓z_Pop, ↓z_VK, ↓z_VKs, ↓z_Eq, ↓z_InL, ↓z_InK, ↓z_InT, ↓z_In1, ↓z_In2, ↓z_In3, ↓z_In4, ↓z_IxS, ↓z_Ix1, ↓z_Ix2, ↓z_Ix3, ↓z_Ix4, ↓z_Ix5, ↓z_put1, ↓z_put2, ↓z_put3, ↓z_Len, ↓z_TupC, ↓z_LstC, ↓z_Repr, ↓z_NewD, ↓z_DisK, ↓z_DisT, ↓z_Get1, ↓z_Get2, ↓z_get2K, ↓z_get2T, ↓z_fin, ↓z_Rng1, ↓z_Rng2, ↓rng1F_i, ↓rng2F_i, ↓z_Enm, ↓z_EnmA, ↓enmAF_l, ↓enmAF_t, ↓enmF_l, ↓z_Zip, ↓zipF_l, ↓zipF_t, ↓z_Par, ↓parF_r, ↓z_Par3, ↓par3F_r, ↓z_Never, ↓z_NevE, ↓z_getK, ↓z_getT, ↓z_AddI, ↓z_AddT, ↓z_AddO, ↓z_AddS, ↓z_MulI, ↓z_MulT, ↓z_LtI, ↓z_LtT, ↓z_IsN, ↓z_IntI, ↓z_SlT, ↓z_SlL, ↓z_SlO, ↓z_SlS, ↓z_Sub, ↓z_Mod, ↓z_Div, ↓z_Pow, ↓z_Le, ↓z_Gt, ↓z_Ge, ↓z_II, ↓varF_v, ↓varF_l, ↓mvF_o, ↓mvF_v, ↓mvF_s, ndF_some, ifB_t, ifB_f, con, sl, frzS, isB, tuO_t, daO, sqO_l, sqO_t, sqO_o, sqO_s, lsO, lenO_K, lenO_T, lenO_o, lenO_l, lenO_t, lenO_s, ngO, consO, argO, varsO, wrB, untag, owL, tyS, tyD_n, tyD_b, tyD_i, tyD_s, tyD_l, tyD_t, tyD_d, entryE, tagA, backA, wipeE, backE, keepS, seqD_l, seqD_t, seqV_l, seqV_t, liD_l, kyS, ksS, keyD_i, keyD_s, keysD, ixS, tupD_t, isDic, isT, eq_self, isNone_n, isNone_i, isNone_t, isNone_l, isNone_b, isNone_s, isNone_o, need_some, atI_0, atI_1, atI_2, atI_3, ixN_30, ixN_31, ixN_32, eqv_int, eqv_str, Int.toNat_natCast, List.getElem?_cons_zero, List.getElem?_cons_succ, List.getElem?_nil, List.set_cons_zero, List.set_cons_succ, List.length_cons, List.length_nil, Option.join_some, Option.join_none, List.replicate_succ, List.replicate_zero, List.cons_append, List.nil_append, Option.map_some, Nat.zero_add, Nat.reduceAdd, Nat.reduceSub, Bool.not_true, Bool.not_false, if_true, if_false, Bool.false_eq_true, true_and, and_true, decide_true, decide_false, Nat.reduceLeDiff, Nat.reduceEqDiff, reduceIte, reduceCtorEq, Bool.or_false, Bool.or_true, Bool.and_true, Bool.and_false, Bool.true_and, Bool.false_and, Bool.true_or, Bool.false_or, List.map_cons, List.map_nil, List.nodup_cons, List.nodup_nil, List.mem_cons, List.not_mem_nil, not_false_eq_true, or_false, false_or, seqV_S, seqV_R]
      refine sp_take hu3 (by omega) fun a u4 ha hu4 => ?_
      simp -dsimp only [↓z_K, ↓z_VarO, ↓z_Var, ↓z_Move, ↓z_Of, ↓z_Fz, ↓z_Res, ↓z_VNil, ↓z_VCons, ↓z_Tup, ↓z_Lst, ↓z_Op2, ↓z_Tst, ↓z_Not, ↓z_Chain, ↓z_AndV, ↓z_OrV, ↓z_NotV, ↓z_And, ↓z_Or, ↓z_If, ↓z_Next, ↓z_Seq, ↓z_Break, ↓z_Cont, ↓z_Exp, ↓z_Ret, ↓z_RetN, ↓z_IfS, ↓z_Nm, ↓z_Tp, ↓z_GN, ↓z_GC, ↓z_Asg, ↓z_ONil, ↓z_OCons, ↓z_SetIx, ↓z_Call, ↓z_Sq, ↓z_Rev, ↓z_For, ↓z_Wh, ↓z_Lc, ↓z_Lc2, ↓z_All, ↓z_All2, ↓z_Yes, ↓z_CB, ↓z_Isi, ↓z_Neg, ↓z_NoP, ↓z_Prt, ↓z_Sl, ↓z_App, ↓z_Pop, ↓z_VK, ↓z_VKs, ↓z_Eq, ↓z_InL, ↓z_InK, ↓z_InT, ↓z_In1, ↓z_In2, ↓z_In3, ↓z_In4, ↓z_IxS, ↓z_Ix1, ↓z_Ix2, ↓z_Ix3, ↓z_Ix4, ↓z_Ix5, ↓z_put1, ↓z_put2, ↓z_put3, ↓z_Len, ↓z_TupC, ↓z_LstC, ↓z_Repr, ↓z_NewD, ↓z_DisK, ↓z_DisT, ↓z_Get1, ↓z_Get2, ↓z_get2K, ↓z_get2T, ↓z_fin, ↓z_Rng1, ↓z_Rng2, ↓rng1F_i, ↓rng2F_i, ↓z_Enm, ↓z_EnmA, ↓enmAF_l, ↓enmAF_t, ↓enmF_l, ↓z_Zip, ↓zipF_l, ↓zipF_t, ↓z_Par, ↓parF_r, ↓z_Par3, ↓par3F_r, ↓z_Never, ↓z_NevE, ↓z_getK, ↓z_getT, ↓z_AddI, ↓z_AddT, ↓z_AddO, ↓z_AddS, ↓z_MulI, ↓z_MulT, ↓z_LtI, ↓z_LtT, ↓z_IsN, ↓z_IntI, ↓z_SlT, ↓z_SlL, ↓z_SlO, ↓z_SlS, ↓z_Sub, ↓z_Mod, ↓z_Div, ↓z_Pow, ↓z_Le, ↓z_Gt, ↓z_Ge, ↓z_II, ↓varF_v, ↓varF_l, ↓mvF_o, ↓mvF_v, ↓mvF_s, ndF_some, ifB_t, ifB_f, con, sl, frzS, isB, tuO_t, daO, sqO_l, sqO_t, sqO_o, sqO_s, lsO, lenO_K, lenO_T, lenO_o, lenO_l, lenO_t, lenO_s, ngO, consO, argO, varsO, wrB, untag, owL, tyS, tyD_n, tyD_b, tyD_i, tyD_s, tyD_l, tyD_t, tyD_d, entryE, tagA, backA, wipeE, backE, keepS, seqD_l, seqD_t, seqV_l, seqV_t, liD_l, kyS, ksS, keyD_i, keyD_s, keysD, ixS, tupD_t, isDic, isT, eq_self, isNone_n, isNone_i, isNone_t, isNone_l, isNone_b, isNone_s, isNone_o, need_some, atI_0, atI_1, atI_2, atI_3, ixN_30, ixN_31, ixN_32, eqv_int, eqv_str, Int.toNat_natCast, List.getElem?_cons_zero, List.getElem?_cons_succ, List.getElem?_nil, List.set_cons_zero, List.set_cons_succ, List.length_cons, List.length_nil, Option.join_some, Option.join_none, List.replicate_succ, List.replicate_zero, List.cons_append, List.nil_append, Option.map_some, Nat.zero_add, Nat.reduceAdd, Nat.reduceSub, Bool.not_true, Bool.not_false, if_true, if_false, Bool.false_eq_true, true_and, and_true, decide_true, decide_false, Nat.reduceLeDiff, Nat.reduceEqDiff, reduceIte, reduceCtorEq, Bool.or_false, Bool.or_true, Bool.and_true, Bool.and_false, Bool.true_and, Bool.false_and, Bool.true_or, Bool.false_or, List.map_cons, List.map_nil, List.nodup_cons, List.nodup_nil, List.mem_cons, List.not_mem_nil, not_false_eq_true, or_false, false_or, seqV_S, seqV_R]
      exact ⟨sz2, hN1 _ _ ⟨u4, row ++ [some (s, a)], _, rfl, by simp [eE], hu4.le (by omega), by simp [hl2], mem_snoc' hrow ⟨s, a, rfl, hs, ha⟩⟩⟩
    · rintro ys e ⟨u2, row, x6, rfl, rfl, hu2, hl2, hrow⟩
      rw [rngD_length] at hu2 hl2
      simp -dsimp only [↓z_K, ↓z_VarO, ↓z_Var, ↓z_Move, ↓z_Of, ↓z_Fz, ↓z_Res, ↓z_VNil, ↓z_VCons, ↓z_Tup, ↓z_Lst, ↓z_Op2, ↓z_Tst, ↓z_Not, ↓z_Chain, ↓z_AndV, ↓z_OrV, ↓z_NotV, ↓z_And, ↓z_Or, ↓z_If, ↓z_Next, ↓z_Seq, ↓z_Break, ↓z_Cont, ↓z_Exp, ↓z_Ret, ↓z_RetN, ↓z_IfS, ↓z_Nm, ↓z_Tp, ↓z_GN, ↓z_GC, ↓z_Asg, ↓z_ONil, ↓z_OCons, ↓z_SetIx, ↓z_Call, ↓z_Sq, ↓z_Rev, ↓z_For, ↓z_Wh, ↓z_Lc, ↓z_Lc2, ↓z_All, ↓z_All2, ↓z_Yes, ↓z_CB, ↓z_Isi, ↓z_Neg, ↓z_NoP, ↓z_Prt, ↓z_Sl, ↓z_App, ↓z_Pop, ↓z_VK, ↓z_VKs, ↓z_Eq, ↓z_InL, ↓z_InK, ↓z_InT, ↓z_In1, ↓z_In2, ↓z_In3, ↓z_In4, ↓z_IxS, ↓z_Ix1, ↓z_Ix2, ↓z_Ix3, ↓z_Ix4, ↓z_Ix5, ↓z_put1, ↓z_put2, ↓z_put3, ↓z_Len, ↓z_TupC, ↓z_LstC, ↓z_Repr, ↓z_NewD, ↓z_DisK, ↓z_DisT, ↓z_Get1, ↓z_Get2, ↓z_get2K, ↓z_get2T, ↓z_fin, ↓z_Rng1, ↓z_Rng2, ↓rng1F_i, ↓rng2F_i, ↓z_Enm, ↓z_EnmA, ↓enmAF_l, ↓enmAF_t, ↓enmF_l, ↓z_Zip, ↓zipF_l, ↓zipF_t, ↓z_Par, ↓parF_r, ↓z_Par3, ↓par3F_r, ↓z_Never, ↓z_NevE, ↓z_getK, ↓z_getT, ↓z_AddI, ↓z_AddT, ↓z_AddO, ↓z_AddS, ↓z_MulI, ↓z_MulT, ↓z_LtI, ↓z_LtT, ↓z_IsN, ↓z_IntI, ↓z_SlT, ↓z_SlL, ↓z_SlO, ↓z_SlS, ↓z_Sub, ↓z_Mod, ↓z_Div, ↓z_Pow, ↓z_Le, ↓z_Gt, ↓z_Ge, ↓z_II, ↓varF_v, ↓varF_l, ↓mvF_o, ↓mvF_v, ↓mvF_s, ndF_some, ifB_t, ifB_f, con, sl, frzS, isB, tuO_t, daO, sqO_l, sqO_t, sqO_o, sqO_s, lsO, lenO_K, lenO_T, lenO_o, lenO_l, lenO_t, lenO_s, ngO, consO, argO, varsO, wrB, untag, owL, tyS, tyD_n, tyD_b, tyD_i, tyD_s, tyD_l, tyD_t, tyD_d, entryE, tagA, backA, wipeE, backE, keepS, seqD_l, seqD_t, seqV_l, seqV_t, liD_l, kyS, ksS, keyD_i, keyD_s, keysD, ixS, tupD_t, isDic, isT, eq_self, isNone_n, isNone_i, isNone_t, isNone_l, isNone_b, isNone_s, isNone_o, need_some, atI_0, atI_1, atI_2, atI_3, ixN_30, ixN_31, ixN_32, eqv_int, eqv_str, Int.toNat_natCast, List.getElem?_cons_zero, List.getElem?_cons_succ, List.getElem?_nil, List.set_cons_zero, List.set_cons_succ, List.length_cons, List.length_nil, Option.join_some, Option.join_none, List.replicate_succ, List.replicate_zero, List.cons_append, List.nil_append, Option.map_some, Nat.zero_add, Nat.reduceAdd, Nat.reduceSub, Bool.not_true, Bool.not_false, if_true, if_false, Bool.false_eq_true, true_and, and_true, decide_true, decide_false, Nat.reduceLeDiff, Nat.reduceEqDiff, reduceIte, reduceCtorEq, Bool.or_false, Bool.or_true, Bool.and_true, Bool.and_false, Bool.true_and, Bool.false_and, Bool.true_or, Bool.false_or, List.map_cons, List.map_nil, List.nodup_cons, List.nodup_nil, List.mem_cons, List.not_mem_nil, not_false_eq_true, or_false, false_or, seqV_S, seqV_R, eR_of, map_snoc, List.length_map]
      exact ⟨szlt (by omega), hN _ ⟨u2, R ++ [row], _, _, rfl, hu2.le (by omega), by simp [hl], mem_snoc' hR ⟨hl2, hrow⟩⟩⟩
  · rintro e ⟨u1, R, x5, x6, rfl, hu1, hl, hR⟩
    rw [rngD_length] at hu1 hl
    simp -dsimp only [↓z_K, ↓z_VarO, ↓z_Var, ↓z_Move, ↓z_Of, ↓z_Fz, ↓z_Res, ↓z_VNil, ↓z_VCons, ↓z_Tup, ↓z_Lst, ↓z_Op2, ↓z_Tst, ↓z_Not, ↓z_Chain, ↓z_AndV, ↓z_OrV, ↓z_NotV, ↓z_And, ↓z_Or, ↓z_If, ↓z_Next, ↓z_Seq, ↓z_Break, ↓z_Cont, ↓z_Exp, ↓z_Ret, ↓z_RetN, ↓z_IfS, ↓z_Nm, ↓z_Tp, ↓z_GN, ↓z_GC, ↓z_Asg, ↓z_ONil, ↓z_OCons, ↓z_SetIx, ↓z_Call, ↓z_Sq, ↓z_Rev, ↓z_For, ↓z_Wh, ↓z_Lc, ↓z_Lc2, ↓z_All, ↓z_All2, ↓z_Yes, ↓z_CB, ↓z_Isi, ↓z_Neg, ↓z_NoP, ↓z_Prt, ↓z_Sl, ↓z_App, ↓z_Pop, ↓z_VK, ↓z_VKs, ↓z_Eq, ↓z_InL, ↓z_InK, ↓z_InT, ↓z_In1, ↓z_In2, ↓z_In3, ↓z_In4, ↓z_IxS, ↓z_Ix1, ↓z_Ix2, ↓z_Ix3, ↓z_Ix4, ↓z_Ix5, ↓z_put1, ↓z_put2, ↓z_put3, ↓z_Len, ↓z_TupC, ↓z_LstC, ↓z_Repr, ↓z_NewD, ↓z_DisK, ↓z_DisT, ↓z_Get1, ↓z_Get2, ↓z_get2K, ↓z_get2T, ↓z_fin, ↓z_Rng1, ↓z_Rng2, ↓rng1F_i, ↓rng2F_i, ↓z_Enm, ↓z_EnmA, ↓enmAF_l, ↓enmAF_t, ↓enmF_l, ↓z_Zip, ↓zipF_l, ↓zipF_t, ↓z_Par, ↓parF_r, ↓z_Par3, ↓par3F_r, ↓z_Never, ↓z_NevE, ↓z_getK, ↓z_getT, ↓z_AddI, ↓z_AddT, ↓z_AddO, ↓z_AddS, ↓z_MulI, ↓z_MulT, ↓z_LtI, ↓z_LtT, ↓z_IsN, ↓z_IntI, ↓z_SlT, ↓z_SlL, ↓z_SlO, ↓z_SlS, ↓z_Sub, ↓z_Mod, ↓z_Div, ↓z_Pow, ↓z_Le, ↓z_Gt, ↓z_Ge, ↓z_II, ↓varF_v, ↓varF_l, ↓mvF_o, ↓mvF_v, ↓mvF_s, ndF_some, ifB_t, ifB_f, con, sl, frzS, isB, tuO_t, daO, sqO_l, sqO_t, sqO_o, sqO_s, lsO, lenO_K, lenO_T, lenO_o, lenO_l, lenO_t, lenO_s, ngO, consO, argO, varsO, wrB, untag, owL, tyS, tyD_n, tyD_b, tyD_i, tyD_s, tyD_l, tyD_t, tyD_d, entryE, tagA, backA, wipeE, backE, keepS, seqD_l, seqD_t, seqV_l, seqV_t, liD_l, kyS, ksS, keyD_i, keyD_s, keysD, ixS, tupD_t, isDic, isT, eq_self, isNone_n, isNone_i, isNone_t, isNone_l, isNone_b, isNone_s, isNone_o, need_some, atI_0, atI_1, atI_2, atI_3, ixN_30, ixN_31, ixN_32, eqv_int, eqv_str, Int.toNat_natCast, List.getElem?_cons_zero, List.getElem?_cons_succ, List.getElem?_nil, List.set_cons_zero, List.set_cons_succ, List.length_cons, List.length_nil, Option.join_some, Option.join_none, List.replicate_succ, List.replicate_zero, List.cons_append, List.nil_append, Option.map_some, Nat.zero_add, Nat.reduceAdd, Nat.reduceSub, Bool.not_true, Bool.not_false, if_true, if_false, Bool.false_eq_true, true_and, and_true, decide_true, decide_false, Nat.reduceLeDiff, Nat.reduceEqDiff, reduceIte, reduceCtorEq, Bool.or_false, Bool.or_true, Bool.and_true, Bool.and_false, Bool.true_and, Bool.false_and, Bool.true_or, Bool.false_or, List.map_cons, List.map_nil, List.nodup_cons, List.nodup_nil, List.mem_cons, List.not_mem_nil, not_false_eq_true, or_false, false_or, seqV_S, seqV_R]
    exact ⟨sz3, h u1 R (hu1.le (by omega)) hl ⟨hL0, hL, hA, hA2, by rw [hl]; exact hS, by rw [hl]; exact hS2, by rw [hl]; exact hR⟩⟩
end DV

set_option Elab.async false
set_option linter.all false
set_option maxRecDepth 100000
set_option maxHeartbeats 4000000
namespace DV
open PySem PySem.Spec PyProof.Rows L2
/-! ### words by length, then as tuples compare -/
def lx : List Nat → List Nat → Prop
  | [], _ => False
  | _ :: _, [] => False
  | a :: u, b :: v => a < b ∨ (a = b ∧ lx u v)
def llt (u v : List Nat) : Prop := u.length < v.length ∨ (u.length = v.length ∧ lx u v)
theorem lx_irrefl : ∀ u : List Nat, ¬ lx u u
  | [], h => by simp [lx] at h
  | a :: u, h => by
    simp only [lx] at h
    rcases h with h | ⟨_, h⟩
    · omega
    · exact lx_irrefl u h
theorem lx_trans : ∀ {u v w : List Nat}, lx u v → lx v w → lx u w
  | [], _, _, h, _ => by simp [lx] at h
  | _ :: _, [], _, h, _ => by simp [lx] at h
  | _ :: _, _ :: _, [], _, h => by simp [lx] at h
  | a :: u, b :: v, c :: w, h1, h2 => by
    simp only [lx] at h1 h2 ⊢
    rcases h1 with h1 | ⟨e1, h1⟩
    · rcases h2 with h2 | ⟨e2, h2⟩
      · exact .inl (by omega)
      · exact .inl (by omega)
    · rcases h2 with h2 | ⟨e2, h2⟩
      · exact .inl (by omega)
      · exact .inr ⟨by omega, lx_trans h1 h2⟩
theorem lx_snoc {a b : Nat} : ∀ {u v : List Nat}, lx u v → u.length = v.length → lx (u ++ [a]) (v ++ [b])
  | [], _, h, _ => by simp [lx] at h
  | _ :: _, [], h, _ => by simp [lx] at h
  | x :: u, y :: v, h, e => by
    simp only [lx, List.cons_append] at h ⊢
    rcases h with h | ⟨e1, h⟩
    · exact .inl h
    · exact .inr ⟨e1, lx_snoc h (by simpa using e)⟩
theorem lx_last {a b : Nat} (h : a < b) : ∀ u : List Nat, lx (u ++ [a]) (u ++ [b])
  | [] => .inl h
  | x :: u => .inr ⟨rfl, lx_last h u⟩
theorem llt_irrefl (u : List Nat) : ¬ llt u u := fun h => h.elim (fun h => Nat.lt_irrefl _ h) fun h => lx_irrefl u h.2
theorem llt_trans {u v w : List Nat} (h1 : llt u v) (h2 : llt v w) : llt u w := by
  rcases h1 with h1 | ⟨e1, h1⟩
  · rcases h2 with h2 | ⟨e2, h2⟩
    · exact .inl (by omega)
    · exact .inl (by omega)
  · rcases h2 with h2 | ⟨e2, h2⟩
    · exact .inl (by omega)
    · exact .inr ⟨by omega, lx_trans h1 h2⟩
theorem llt_snoc {a b : Nat} {u v : List Nat} (h : llt u v) : llt (u ++ [a]) (v ++ [b]) := by
  rcases h with h | ⟨e, h⟩
  · exact .inl (by simp; omega)
  · exact .inr ⟨by simp [e], lx_snoc h e⟩
theorem llt_last {a b : Nat} (h : a < b) (u : List Nat) : llt (u ++ [a]) (u ++ [b]) := .inr ⟨by simp, lx_last h u⟩
def lle (u v : List Nat) : Prop := u = v ∨ llt u v
theorem lle_snoc {a : Nat} {u v : List Nat} (h : lle u v) : lle (u ++ [a]) (v ++ [a]) := by
  rcases h with rfl | h
  · exact .inl rfl
  · exact .inr (llt_snoc h)
theorem lle_trans {u v w : List Nat} (h1 : lle u v) (h2 : lle v w) : lle u w := by
  rcases h1 with rfl | h1
  · exact h2
  · rcases h2 with rfl | h2
    · exact .inr h1
    · exact .inr (llt_trans h1 h2)
theorem lle_llt {u v : List Nat} (h1 : lle u v) (h2 : llt v u) : False := by
  rcases h1 with rfl | h1
  · exact llt_irrefl _ h2
  · exact llt_irrefl _ (llt_trans h1 h2)
theorem lexLt_lx : ∀ {u v : List Nat}, HT.lexLt (u.map fun n : Nat => (n : Int)) (v.map fun n : Nat => (n : Int)) = true → u.length = v.length → lx u v
  | [], [], h, _ => by simp [HT.lexLt] at h
  | [], _ :: _, _, e => by simp at e
  | _ :: _, [], _, e => by simp at e
  | a :: u, b :: v, h, e => by
    simp only [List.map_cons, HT.lexLt_cons] at h
    simp only [lx]
    split at h
    · rename_i q
      exact .inr ⟨by omega, lexLt_lx h (by simpa using e)⟩
    · have := of_decide_eq_true h
      exact .inl (by omega)
/-! ### the walk by levels -/
abbrev St1 := Nat × List Nat
def runS (m : Sk) : Nat → List Nat → Nat
  | s, [] => s
  | s, l :: ls => match ent m s l with
    | some (t, _) => runS m t ls
    | none => s
theorem runS_snoc {m : Sk} (hm : Mach m) : ∀ {w : List Nat} {s l t a : Nat}, s < m.rows.length → (∀ x ∈ w, x < m.L) → ent m (runS m s w) l = some (t, a) → runS m s (w ++ [l]) = t
  | [], s, l, t, a, hs, hw, h => by simp only [runS] at h; simp only [List.nil_append, runS, h]
  | x :: w, s, l, t, a, hs, hw, h => by
    obtain ⟨r, t1, a1, _, _, e, ht, _⟩ := hm.ent_at hs (hw x (by simp))
    simp only [runS, e] at h
    simp only [List.cons_append, runS, e]
    exact runS_snoc hm ht (fun y hy => hw y (by simp [hy])) h
theorem runS_lt {m : Sk} (hm : Mach m) : ∀ {w : List Nat} {s : Nat}, s < m.rows.length → (∀ x ∈ w, x < m.L) → runS m s w < m.rows.length
  | [], s, hs, _ => hs
  | x :: w, s, hs, hw => by
    obtain ⟨r, t1, a1, _, _, e, ht, _⟩ := hm.ent_at hs (hw x (by simp))
    simp only [runS, e]
    exact runS_lt hm ht fun y hy => hw y (by simp [hy])
def hasS (q : List St1) (t : Nat) : Bool := q.any fun x => decide (x.1 = t)
def step1 (m : Sk) (s : Nat) (w : List Nat) (l : Nat) (q : List St1) : List St1 := match ent m s l with
  | some (t, _) => if hasS q t then q else q ++ [(t, w ++ [l])]
  | none => q
def stepL (m : Sk) (s : Nat) (w : List Nat) : List Nat → List St1 → List St1
  | [], q => q
  | l :: ls, q => stepL m s w ls (step1 m s w l q)
def G (m : Sk) : Nat → List St1
  | 0 => [(0, [])]
  | i + 1 => match (G m i)[i]? with
    | some (s, w) => stepL m s w (List.range m.L) (G m i)
    | none => G m i
structure QB (m : Sk) (i : Nat) (q : List St1) : Prop where
  st : ∀ x ∈ q, x.1 < m.rows.length
  le : ∀ x ∈ q, ∀ a ∈ x.2, a < m.L
  run : ∀ x ∈ q, runS m 0 x.2 = x.1
  nd : (q.map (·.1)).Nodup
  wl : ∀ x ∈ q, x.2.length ≤ i
  pw : (q.map (·.2)).Pairwise llt
theorem QB.mono {m : Sk} {i j : Nat} {q : List St1} (h : QB m i q) (l : i ≤ j) : QB m j q := ⟨h.st, h.le, h.run, h.nd, fun x hx => Nat.le_trans (h.wl x hx) l, h.pw⟩
theorem nodup_le : ∀ {n : Nat} {xs : List Nat}, xs.Nodup → (∀ x ∈ xs, x < n) → xs.length ≤ n
  | 0, xs, _, hx => by
    cases xs with
    | nil => simp
    | cons x xs => exact absurd (hx x (by simp)) (Nat.not_lt_zero _)
  | n + 1, xs, h, hx => by
    have h2 := nodup_le (n := n) (h.erase n) fun x q => by
      have := (h.mem_erase_iff).mp q
      have := hx x this.2
      omega
    rw [List.length_erase] at h2
    split at h2 <;> omega
theorem nodup_inj {f : St1 → Nat} : ∀ {q : List St1}, (q.map f).Nodup → ∀ x ∈ q, ∀ y ∈ q, f x = f y → x = y
  | [], _, x, hx, _, _, _ => by simp at hx
  | z :: q, h, x, hx, y, hy, e => by
    simp only [List.map_cons, List.nodup_cons] at h
    rcases List.mem_cons.mp hx with e1 | h1
    · rcases List.mem_cons.mp hy with e2 | h2
      · rw [e1, e2]
      · exact (h.1 (List.mem_map.mpr ⟨y, h2, by rw [← e, e1]⟩)).elim
    · rcases List.mem_cons.mp hy with e2 | h2
      · exact (h.1 (List.mem_map.mpr ⟨x, h1, by rw [e, e2]⟩)).elim
      · exact nodup_inj h.2 x h1 y h2 e
theorem QB.len {m : Sk} {i : Nat} {q : List St1} (h : QB m i q) : q.length ≤ m.rows.length := by
  have := nodup_le h.nd (n := m.rows.length) fun x hx => by
    obtain ⟨y, hy, rfl⟩ := List.mem_map.mp hx
    exact h.st y hy
  simpa using this
structure PB (m : Sk) (j s : Nat) (w : List Nat) (q0 : List St1) (l : Nat) (q : List St1) : Prop extends QB m (j + 1) q where
  pre : ∃ r, q = q0 ++ r
  up : ∀ x ∈ q, llt x.2 (w ++ [l])
  cl : ∀ l' < l, ∀ t a, ent m s l' = some (t, a) → ∃ x ∈ q, x.1 = t ∧ lle x.2 (w ++ [l'])
theorem hasS_t {q : List St1} {t : Nat} (h : hasS q t = true) : ∃ x ∈ q, x.1 = t := by
  obtain ⟨x, hx, e⟩ := List.any_eq_true.mp h
  exact ⟨x, hx, of_decide_eq_true e⟩
theorem hasS_f {q : List St1} {t : Nat} (h : hasS q t = false) : ∀ x ∈ q, x.1 ≠ t := fun x hx e => by
  have := List.any_eq_false.mp h x hx
  simp [e] at this
theorem PB.step {m : Sk} {j s l : Nat} {w : List Nat} {q0 q : List St1} (hm : Mach m) (hs : s < m.rows.length) (hw : ∀ a ∈ w, a < m.L) (hr : runS m 0 w = s) (hwl : w.length ≤ j) (hl : l < m.L) (h : PB m j s w q0 l q) : PB m j s w q0 (l + 1) (step1 m s w l q) := by
  obtain ⟨r, t, a, _, _, e, ht, _⟩ := hm.ent_at hs hl
  have up2 : ∀ x ∈ q, llt x.2 (w ++ [l + 1]) := fun x hx => llt_trans (h.up x hx) (llt_last (by omega) w)
  unfold step1
  rw [e]
  simp only
  cases hh : hasS q t with
  | true =>
    simp only [if_true]
    refine ⟨h.toQB, h.pre, up2, fun l' hl' t' a' e' => ?_⟩
    rcases Nat.lt_or_ge l' l with q1 | q1
    · exact h.cl l' q1 t' a' e'
    · have : l' = l := by omega
      subst this
      rw [e] at e'
      cases e'
      obtain ⟨x, hx, ex⟩ := hasS_t hh
      exact ⟨x, hx, ex, .inr (h.up x hx)⟩
  | false =>
    have hf := hasS_f hh
    have hn0 : 0 < m.rows.length := by omega
    simp only [Bool.false_eq_true, if_false]
    refine ⟨⟨mem_snoc' h.st ht, mem_snoc' h.le (mem_snoc' hw hl), mem_snoc' h.run (runS_snoc hm hn0 hw (by rw [hr]; exact e)), ?_, mem_snoc' h.wl (by simp; omega), ?_⟩, ?_, mem_snoc' up2 (llt_last (by omega) w), fun l' hl' t' a' e' => ?_⟩
    · rw [List.map_append, List.nodup_append]
      refine ⟨h.nd, by simp, fun x hx y hy => ?_⟩
      obtain ⟨z, hz, rfl⟩ := List.mem_map.mp hx
      simp only [List.map_cons, List.map_nil, List.mem_singleton] at hy
      rw [hy]
      exact hf z hz
    · rw [List.map_append, List.pairwise_append]
      refine ⟨h.pw, by simp, fun x hx y hy => ?_⟩
      obtain ⟨z, hz, rfl⟩ := List.mem_map.mp hx
      simp only [List.map_cons, List.map_nil, List.mem_singleton] at hy
      rw [hy]
      exact h.up z hz
    · obtain ⟨r, er⟩ := h.pre
      exact ⟨r ++ [(t, w ++ [l])], by rw [er, List.append_assoc]⟩
    · rcases Nat.lt_or_ge l' l with q1 | q1
      · obtain ⟨x, hx, k⟩ := h.cl l' q1 t' a' e'
        exact ⟨x, by simp [hx], k⟩
      · have : l' = l := by omega
        subst this
        rw [e] at e'
        cases e'
        exact ⟨(t, w ++ [l']), by simp, rfl, .inl rfl⟩
theorem PB.all {m : Sk} {j s : Nat} {w : List Nat} {q0 : List St1} (hm : Mach m) (hs : s < m.rows.length) (hw : ∀ a ∈ w, a < m.L) (hr : runS m 0 w = s) (hwl : w.length ≤ j) :
    ∀ (k l : Nat) (q : List St1), l + k = m.L → PB m j s w q0 l q → PB m j s w q0 m.L (stepL m s w ((List.range m.L).drop l) q)
  | 0, l, q, e, h => by
    have : l = m.L := by omega
    subst this
    rw [List.drop_eq_nil_of_le (by simp), stepL]
    exact h
  | k + 1, l, q, e, h => by
    rw [range_drop (by omega), stepL]
    exact PB.all hm hs hw hr hwl k (l + 1) _ (by omega) (h.step hm hs hw hr hwl (by omega))
structure OB (m : Sk) (i : Nat) (q : List St1) : Prop extends QB m i q where
  zero : (0, []) ∈ q
  up : ∀ s w, q[i]? = some (s, w) → ∀ x ∈ q, llt x.2 (w ++ [0])
  cl : ∀ k < i, ∀ s w, q[k]? = some (s, w) → ∀ l < m.L, ∀ t a, ent m s l = some (t, a) → ∃ x ∈ q, x.1 = t ∧ lle x.2 (w ++ [l])
theorem OB.pb {m : Sk} {i s : Nat} {w : List Nat} {q : List St1} (h : OB m i q) (e : q[i]? = some (s, w)) : PB m i s w q 0 q :=
  ⟨h.toQB.mono (by omega), ⟨[], by simp⟩, h.up s w e, fun l hl => absurd hl (Nat.not_lt_zero _)⟩
theorem PB.ob {m : Sk} {i s : Nat} {w : List Nat} {q0 q : List St1} (h0 : OB m i q0) (e : q0[i]? = some (s, w)) (h : PB m i s w q0 m.L q) : OB m (i + 1) q := by
  obtain ⟨r, er⟩ := h.pre
  have get : ∀ k < q0.length, q[k]? = q0[k]? := fun k hk => by rw [er, List.getElem?_append_left hk]
  have hi := getElem?_lt' e
  refine ⟨h.toQB, by rw [er]; simp [h0.zero], fun s' w' e' x hx => ?_, fun k hk s' w' e' l hl t a et => ?_⟩
  · have pw := h.pw
    rw [List.pairwise_iff_getElem] at pw
    have e1 : q[i]? = some (s, w) := by rw [get i hi]; exact e
    obtain ⟨g1, g2⟩ := List.getElem?_eq_some_iff.mp e1
    obtain ⟨g3, g4⟩ := List.getElem?_eq_some_iff.mp e'
    have hww : llt w w' := by
      have := pw i (i + 1) (by simpa using g1) (by simpa using g3) (by omega)
      simpa [g2, g4] using this
    exact llt_trans (h.up x hx) (llt_snoc hww)
  · rcases Nat.lt_or_ge k i with q1 | q1
    · rw [get k (by omega)] at e'
      obtain ⟨x, hx, p⟩ := h0.cl k q1 s' w' e' l hl t a et
      exact ⟨x, by rw [er]; simp [hx], p⟩
    · have : k = i := by omega
      subst this
      rw [get k hi, e] at e'
      cases e'
      exact h.cl l hl t a et
theorem OB.G {m : Sk} (hm : Mach m) : ∀ i, OB m i (G m i)
  | 0 => by
    have := hm.n1
    refine ⟨⟨by simp [DV.G]; omega, by simp [DV.G], by simp [DV.G, runS], by simp [DV.G], by simp [DV.G], by simp [DV.G]⟩, by simp [DV.G], fun s w e x hx => ?_, fun k hk => absurd hk (Nat.not_lt_zero _)⟩
    simp only [DV.G, List.mem_singleton] at hx
    subst hx
    exact .inl (by simp)
  | i + 1 => by
    have ih := OB.G hm i
    unfold DV.G
    cases e : (DV.G m i)[i]? with
    | none =>
      simp only
      refine ⟨ih.toQB.mono (by omega), ih.zero, fun s w e' => ?_, fun k hk s w e' => ?_⟩
      · have := getElem?_lt' e'
        rw [List.getElem?_eq_none_iff] at e
        omega
      · rcases Nat.lt_or_ge k i with q1 | q1
        · exact ih.cl k q1 s w e'
        · have : k = i := by omega
          subst this
          rw [e] at e'
          cases e'
    | some x =>
      obtain ⟨s, w⟩ := x
      simp only
      have hx := List.mem_of_getElem? e
      exact PB.ob ih e (by simpa using PB.all hm (ih.st _ hx) (ih.le _ hx) (ih.run _ hx) (ih.wl _ hx) m.L 0 _ (by omega) (ih.pb e))
theorem G_same {m : Sk} {a : Nat} (h : (G m a).length ≤ a) : ∀ k, G m (a + k) = G m a
  | 0 => rfl
  | k + 1 => by
    have ih := G_same h k
    show DV.G m (a + k + 1) = _
    rw [DV.G, ih, List.getElem?_eq_none (by omega)]
theorem G_end {m : Sk} (hm : Mach m) {a : Nat} (h : m.rows.length ≤ a ∨ (G m a).length = a) : G m a = G m m.rows.length := by
  have h1 := (OB.G hm a).toQB.len
  have h2 := (OB.G hm m.rows.length).toQB.len
  rcases Nat.le_total a m.rows.length with q | q
  · rcases h with h | h
    · have : a = m.rows.length := by omega
      rw [this]
    · have := G_same (m := m) (a := a) (by omega) (m.rows.length - a)
      rw [show a + (m.rows.length - a) = m.rows.length by omega] at this
      exact this.symm
  · have := G_same (m := m) (a := m.rows.length) (by omega) (a - m.rows.length)
    rw [show m.rows.length + (a - m.rows.length) = a by omega] at this
    exact this
/-- the least words -/
def F (m : Sk) : List St1 := G m m.rows.length
theorem F_reach {m : Sk} (hm : Mach m) : ∀ (n : Nat) (u : List Nat), u.length = n → (∀ a ∈ u, a < m.L) → ∃ x ∈ F m, x.1 = runS m 0 u ∧ lle x.2 u
  | 0, u, e, _ => by
    have : u = [] := List.eq_nil_of_length_eq_zero e
    subst this
    exact ⟨_, (OB.G hm _).zero, rfl, .inl rfl⟩
  | n + 1, u, e, hu => by
    obtain ⟨v, l, rfl⟩ : ∃ v l, u = v ++ [l] := ⟨u.dropLast, u.getLast (by intro q; rw [q] at e; simp at e), (List.dropLast_concat_getLast _).symm⟩
    have hl : l < m.L := hu l (by simp)
    have hv : ∀ a ∈ v, a < m.L := fun a ha => hu a (by simp [ha])
    obtain ⟨x, hx, ex, lx⟩ := F_reach hm n v (by simpa using e) hv
    have ob := OB.G hm m.rows.length
    have hn := hm.n1
    obtain ⟨k, hk, gk⟩ := List.getElem_of_mem hx
    have hr := runS_lt hm (s := 0) (by omega) hv
    obtain ⟨_, t, a, _, _, et, _, _⟩ := hm.ent_at hr hl
    have hkl : k < m.rows.length := Nat.lt_of_lt_of_le hk ob.toQB.len
    obtain ⟨y, hy, ey, ly⟩ := ob.cl k hkl x.1 x.2 ((List.getElem?_eq_getElem hk).trans (congrArg some gk)) l hl t a (by rw [ex]; exact et)
    exact ⟨y, hy, by rw [ey, runS_snoc hm (by omega) hv et], lle_trans ly (lle_snoc lx)⟩
def lk (q : List St1) (s : Nat) : Option (List Nat) := (q.find? fun x => decide (x.1 = s)).map (·.2)
theorem lk_mem {q : List St1} {s : Nat} {w : List Nat} (h : lk q s = some w) : (s, w) ∈ q := by
  simp only [lk, Option.map_eq_some_iff] at h
  obtain ⟨⟨a, b⟩, e, rfl⟩ := h
  have h1 := List.find?_some e
  have h2 := List.mem_of_find?_eq_some e
  have : a = s := of_decide_eq_true h1
  rw [← this]
  exact h2
theorem F_least {m : Sk} (hm : Mach m) {s : Nat} {w u : List Nat} (h : (s, w) ∈ F m) (hu : ∀ a ∈ u, a < m.L) (l : llt u w) : runS m 0 u ≠ s := fun e => by
  obtain ⟨x, hx, ex, lx⟩ := F_reach hm u.length u rfl hu
  have ob := OB.G hm m.rows.length
  have : x = (s, w) := by
    have nd := ob.nd
    have := nodup_inj nd x hx _ h (by rw [ex, e])
    exact this
  rw [this] at lx
  exact lle_llt lx l
end DV

set_option Elab.async false
set_option linter.all false
set_option maxRecDepth 100000
set_option maxHeartbeats 4000000
namespace DV
open PySem PySem.Spec PyProof.Rows L2
def fK (x : St1) : Key × D := (.inl x.1, eN x.2)
abbrev DKq (q : List St1) : Option Slot := some (.own none (.dK (q.map fK)))
abbrev LSw (q : List St1) : Option Slot := some (.own none (.lst (q.map fun x => PyData.int (x.1 : Nat))))
theorem inl_nat {a b : Nat} : ((.inl (a : Int) : Key) = .inl (b : Int)) ↔ a = b := by
  constructor
  · intro h
    injection h with h
    omega
  · rintro rfl; rfl
theorem valK (q : List St1) (s : Nat) : valD (q.map fK) (.inl (s : Int)) = (lk q s).map eN := by
  induction q with
  | nil => rfl
  | cons x q ih =>
    unfold valD lk at ih ⊢
    simp only [List.map_cons, List.find?_cons]
    by_cases e : x.1 = s
    · have e2 : decide ((fK x).1 = .inl (s : Int)) = true := decide_eq_true (inl_nat.mpr e)
      rw [e2]
      simp [e, fK]
    · have e2 : decide ((fK x).1 = .inl (s : Int)) = false := decide_eq_false fun h => e (inl_nat.mp h)
      rw [e2]
      simp only [e, decide_false]
      exact ih
theorem hasS_lk (q : List St1) (s : Nat) : hasS q s = (lk q s).isSome := by
  unfold hasS lk
  rw [any_find, Option.isSome_map]
theorem valK_has (q : List St1) (s : Nat) : (valD (q.map fK) (.inl (s : Int))).isSome = hasS q s := by rw [valK, Option.isSome_map, hasS_lk]
theorem put_newS {q : List St1} {s : Nat} (w : List Nat) (h : hasS q s = false) : putD (q.map fK) (.inl (s : Int)) (eN w) = (q ++ [(s, w)]).map fK := by
  unfold putD
  have e : ((q.map fK).any fun kv => decide (kv.1 = .inl (s : Int))) = false := by
    rw [any_find]
    have := valK_has q s
    rw [h] at this
    unfold valD at this
    rw [Option.isSome_map] at this
    exact this
  rw [e]
  simp [fK]
theorem lk_of {q : List St1} {s : Nat} {w : List Nat} (nd : (q.map (·.1)).Nodup) (h : (s, w) ∈ q) : lk q s = some w := by
  have h1 : (lk q s).isSome = true := by
    rw [← hasS_lk]
    exact List.any_eq_true.mpr ⟨_, h, by simp⟩
  obtain ⟨w', e⟩ := Option.isSome_iff_exists.mp h1
  have := nodup_inj nd _ (lk_mem e) _ h rfl
  rw [e]
  exact congrArg some (congrArg Prod.snd this)
theorem getD_eO (o : Option (List Nat)) : (o.map eN).getD .none = eO o := by cases o <;> rfl
def acc (m : Sk) : List (Option (List Nat)) := (List.range m.rows.length).map (lk (F m))
theorem acc_succ (m : Sk) (j : Nat) : (((List.range j).map (lk (F m))).map eO) ++ [eO (lk (F m) j)] = ((List.range (j + 1)).map (lk (F m))).map eO := by rw [List.range_succ]; simp
theorem sp_access_of {m : Sk} {Q : Slot → List Slot → Prop} {X : Value → Prop} (hm : Mach m) (h : Q (.own none (.lst ((acc m).map eO))) [.val (eS m)]) : fs_access_of [.val (eS m)] Q X := by
  have := hm.l3; have := hm.n1; have := hm.n12
  refine ⟨rfl, ?_⟩
  unfold w_access_of
  refine seqI fun U1 h1 => ?_
  simp -dsimp only [↓z_K, ↓z_VarO, ↓z_Var, ↓z_Move, ↓z_Of, ↓z_Fz, ↓z_Res, ↓z_VNil, ↓z_VCons, ↓z_Tup, ↓z_Lst, ↓z_Op2, ↓z_Tst, ↓z_Not, ↓z_Chain, ↓z_AndV, ↓z_OrV, ↓z_NotV, ↓z_And, ↓z_Or, ↓z_If, ↓z_Next, ↓z_Seq, ↓z_Break, ↓z_Cont, ↓z_Exp, ↓z_Ret, ↓z_RetN, ↓z_IfS, ↓z_Nm, ↓z_Tp, ↓z_GN, ↓z_GC, ↓z_Asg, ↓z_ONil, ↓z_OCons, ↓z_SetIx, ↓z_Call, ↓z_Sq, ↓z_Rev, ↓z_For, ↓z_Wh, ↓z_Lc, ↓z_Lc2, ↓z_All, ↓z_All2, ↓z_Yes, ↓z_CB, ↓z_Isi, ↓z_Neg, ↓z_NoP, ↓z_Prt, ↓z_Sl, ↓z_App, ↓z_Pop, ↓z_VK, ↓z_VKs, ↓z_Eq, ↓z_InL, ↓z_InK, ↓z_InT, ↓z_In1, ↓z_In2, ↓z_In3, ↓z_In4, ↓z_IxS, ↓z_Ix1, ↓z_Ix2, ↓z_Ix3, ↓z_Ix4, ↓z_Ix5, ↓z_put1, ↓z_put2, ↓z_put3, ↓z_Len, ↓z_TupC, ↓z_LstC, ↓z_Repr, ↓z_NewD, ↓z_DisK, ↓z_DisT, ↓z_Get1, ↓z_Get2, ↓z_get2K, ↓z_get2T, ↓z_fin, ↓z_Rng1, ↓z_Rng2, ↓rng1F_i, ↓rng2F_i, ↓z_Enm, ↓z_EnmA, ↓enmAF_l, ↓enmAF_t, ↓enmF_l, ↓z_Zip, ↓zipF_l, ↓zipF_t, ↓z_Par, ↓parF_r, ↓z_Par3, ↓par3F_r, ↓z_Never, ↓z_NevE, ↓z_getK, ↓z_getT, ↓z_AddI, ↓z_AddT, ↓z_AddO, ↓z_AddS, ↓z_MulI, ↓z_MulT, ↓z_LtI, ↓z_LtT, ↓z_IsN, ↓z_IntI, ↓z_SlT, ↓z_SlL, ↓z_SlO, ↓z_SlS, ↓z_Sub, ↓z_Mod, ↓z_Div, ↓z_Pow, ↓z_Le, ↓z_Gt, ↓z_Ge, ↓z_II, ↓varF_v, ↓varF_l, ↓mvF_o, ↓mvF_v, ↓mvF_s, ndF_some, ifB_t, ifB_f, con, sl, frzS, isB, tuO_t, daO, sqO_l, sqO_t, sqO_o, sqO_s, lsO, lenO_K, lenO_T, lenO_o, lenO_l, lenO_t, lenO_s, ngO, consO, argO, varsO, wrB, untag, owL, tyS, tyD_n, tyD_b, tyD_i, tyD_s, tyD_l, tyD_t, tyD_d, entryE, tagA, backA, wipeE, backE, keepS, seqD_l, seqD_t, seqV_l, seqV_t, liD_l, kyS, ksS, keyD_i, keyD_s, keysD, ixS, tupD_t, isDic, isT, eq_self, isNone_n, isNone_i, isNone_t, isNone_l, isNone_b, isNone_s, isNone_o, need_some, atI_0, atI_1, atI_2, atI_3, ixN_30, ixN_31, ixN_32, eqv_int, eqv_str, Int.toNat_natCast, List.getElem?_cons_zero, List.getElem?_cons_succ, List.getElem?_nil, List.set_cons_zero, List.set_cons_succ, List.length_cons, List.length_nil, Option.join_some, Option.join_none, List.replicate_succ, List.replicate_zero, List.cons_append, List.nil_append, Option.map_some, Nat.zero_add, Nat.reduceAdd, Nat.reduceSub, Bool.not_true, Bool.not_false, if_true, if_false, Bool.false_eq_true, true_and, and_true, decide_true, decide_false, Nat.reduceLeDiff, Nat.reduceEqDiff, reduceIte, reduceCtorEq, Bool.or_false, Bool.or_true, Bool.and_true, Bool.and_false, Bool.true_and, Bool.false_and, Bool.true_or, Bool.false_or, List.map_cons, List.map_nil, List.nodup_cons, List.nodup_nil, List.mem_cons, List.not_mem_nil, not_false_eq_true, or_false, false_or, seqV_S, seqV_R]
  refine ⟨sz1, h1 _ ?_⟩
  refine seqI fun U2 h2 => ?_
  have fin : ∀ x3 x4 x5 x6 x7, U2 [some (.val (eS m)), DKq (F m), LSw (F m), x3, x4, x5, x6, x7] := fun x3 x4 x5 x6 x7 => h2 _ (by
    simp -dsimp only [↓z_K, ↓z_VarO, ↓z_Var, ↓z_Move, ↓z_Of, ↓z_Fz, ↓z_Res, ↓z_VNil, ↓z_VCons, ↓z_Tup, ↓z_Lst, ↓z_Op2, ↓z_Tst, ↓z_Not, ↓z_Chain, ↓z_AndV, ↓z_OrV, ↓z_NotV, ↓z_And, ↓z_Or, ↓z_If, ↓z_Next, ↓z_Seq, ↓z_Break, ↓z_Cont, ↓z_Exp, ↓z_Ret, ↓z_RetN, ↓z_IfS, ↓z_Nm, ↓z_Tp, ↓z_GN, ↓z_GC, ↓z_Asg, ↓z_ONil, ↓z_OCons, ↓z_SetIx, ↓z_Call, ↓z_Sq, ↓z_Rev, ↓z_For, ↓z_Wh, ↓z_Lc, ↓z_Lc2, ↓z_All, ↓z_All2, ↓z_Yes, ↓z_CB, ↓z_Isi, ↓z_Neg, ↓z_NoP, ↓z_Prt, ↓z_Sl, ↓z_App, ↓z_Pop, ↓z_VK, ↓z_VKs, ↓z_Eq, ↓z_InL, ↓z_InK, ↓z_InT, ↓z_In1, ↓z_In2, ↓z_In3, ↓z_In4, ↓z_IxS, ↓z_Ix1, ↓z_Ix2, ↓z_Ix3, ↓z_Ix4, ↓z_Ix5, ↓z_put1, ↓z_put2, ↓z_put3, ↓z_Len, ↓z_TupC, ↓z_LstC, ↓z_Repr, ↓z_NewD, ↓z_DisK, ↓z_DisT, ↓z_Get1, ↓z_Get2, ↓z_get2K, ↓z_get2T, ↓z_fin, ↓z_Rng1, ↓z_Rng2, ↓rng1F_i, ↓rng2F_i, ↓z_Enm, ↓z_EnmA, ↓enmAF_l, ↓enmAF_t, ↓enmF_l, ↓z_Zip, ↓zipF_l, ↓zipF_t, ↓z_Par, ↓parF_r, ↓z_Par3, ↓par3F_r, ↓z_Never, ↓z_NevE, ↓z_getK, ↓z_getT, ↓z_AddI, ↓z_AddT, ↓z_AddO, ↓z_AddS, ↓z_MulI, ↓z_MulT, ↓z_LtI, ↓z_LtT, ↓z_IsN, ↓z_IntI, ↓z_SlT, ↓z_SlL, ↓z_SlO, ↓z_SlS, ↓z_Sub, ↓z_Mod, ↓z_Div, ↓z_Pow, ↓z_Le, ↓z_Gt, ↓z_Ge, ↓z_II, ↓varF_v, ↓varF_l, ↓mvF_o, ↓mvF_v, ↓mvF_s, ndF_some, ifB_t, ifB_f, con, sl, frzS, isB, tuO_t, daO, sqO_l, sqO_t, sqO_o, sqO_s, lsO, lenO_K, lenO_T, lenO_o, lenO_l, lenO_t, lenO_s, ngO, consO, argO, varsO, wrB, untag, owL, tyS, tyD_n, tyD_b, tyD_i, tyD_s, tyD_l, tyD_t, tyD_d, entryE, tagA, backA, wipeE, backE, keepS, seqD_l, seqD_t, seqV_l, seqV_t, liD_l, kyS, ksS, keyD_i, keyD_s, keysD, ixS, tupD_t, isDic, isT, eq_self, isNone_n, isNone_i, isNone_t, isNone_l, isNone_b, isNone_s, isNone_o, need_some, atI_0, atI_1, atI_2, atI_3, ixN_30, ixN_31, ixN_32, eqv_int, eqv_str, Int.toNat_natCast, List.getElem?_cons_zero, List.getElem?_cons_succ, List.getElem?_nil, List.set_cons_zero, List.set_cons_succ, List.length_cons, List.length_nil, Option.join_some, Option.join_none, List.replicate_succ, List.replicate_zero, List.cons_append, List.nil_append, Option.map_some, Nat.zero_add, Nat.reduceAdd, Nat.reduceSub, Bool.not_true, Bool.not_false, if_true, if_false, Bool.false_eq_true, true_and, and_true, decide_true, decide_false, Nat.reduceLeDiff, Nat.reduceEqDiff, reduceIte, reduceCtorEq, Bool.or_false, Bool.or_true, Bool.and_true, Bool.and_false, Bool.true_and, Bool.false_and, Bool.true_or, Bool.false_or, List.map_cons, List.map_nil, List.nodup_cons, List.nodup_nil, List.mem_cons, List.not_mem_nil, not_false_eq_true, or_false, false_or, seqV_S, seqV_R, List.length_map]
    refine ⟨by omega, by rw [rngD_length]; exact Nat.le_of_lt (szlt (by omega)), ?_⟩
    refine lc_inv (fun j ys e => ∃ x7, e = [some (.val (eS m)), DKq (F m), LSw (F m), x3, x4, x5, x6, x7] ∧ ys = ((List.range j).map (lk (F m))).map eO) ⟨_, rfl, rfl⟩ ?_ ?_
    · rintro j d ys e N1 N0 hd2 ⟨x7, rfl, rfl⟩ hN1 hN0
      obtain ⟨hj, rfl⟩ := rng0_get hd2
      unfold w_access_of_e1
      simp -dsimp only [↓z_K, ↓z_VarO, ↓z_Var, ↓z_Move, ↓z_Of, ↓z_Fz, ↓z_Res, ↓z_VNil, ↓z_VCons, ↓z_Tup, ↓z_Lst, ↓z_Op2, ↓z_Tst, ↓z_Not, ↓z_Chain, ↓z_AndV, ↓z_OrV, ↓z_NotV, ↓z_And, ↓z_Or, ↓z_If, ↓z_Next, ↓z_Seq, ↓z_Break, ↓z_Cont, ↓z_Exp, ↓z_Ret, ↓z_RetN, ↓z_IfS, ↓z_Nm, ↓z_Tp, ↓z_GN, ↓z_GC, ↓z_Asg, ↓z_ONil, ↓z_OCons, ↓z_SetIx, ↓z_Call, ↓z_Sq, ↓z_Rev, ↓z_For, ↓z_Wh, ↓z_Lc, ↓z_Lc2, ↓z_All, ↓z_All2, ↓z_Yes, ↓z_CB, ↓z_Isi, ↓z_Neg, ↓z_NoP, ↓z_Prt, ↓z_Sl, ↓z_App, ↓z_Pop, ↓z_VK, ↓z_VKs, ↓z_Eq, ↓z_InL, ↓z_InK, ↓z_InT, ↓z_In1, ↓z_In2, ↓z_In3, ↓z_In4, ↓z_IxS, ↓z_Ix1, ↓z_Ix2, ↓z_Ix3, ↓z_Ix4, ↓z_Ix5, ↓z_put1, ↓z_put2, ↓z_put3, ↓z_Len, ↓z_TupC, ↓z_LstC, ↓z_Repr, ↓z_NewD, ↓z_DisK, ↓z_DisT, ↓z_Get1, ↓z_Get2, ↓z_get2K, ↓z_get2T, ↓z_fin, ↓z_Rng1, ↓z_Rng2, ↓rng1F_i, ↓rng2F_i, ↓z_Enm, ↓z_EnmA, ↓enmAF_l, ↓enmAF_t, ↓enmF_l, ↓z_Zip, ↓zipF_l, ↓zipF_t, ↓z_Par, ↓parF_r, ↓z_Par3, ↓par3F_r, ↓z_Never, ↓z_NevE, ↓z_getK, ↓z_getT, ↓z_AddI, ↓z_AddT, ↓z_AddO, ↓z_AddS, ↓z_MulI, ↓z_MulT, ↓z_LtI, ↓z_LtT, ↓z_IsN, ↓z_IntI, ↓z_SlT, ↓z_SlL, ↓z_SlO, ↓z_SlS, ↓z_Sub, ↓z_Mod, ↓z_Div, ↓z_Pow, ↓z_Le, ↓z_Gt, ↓z_Ge, ↓z_II, ↓varF_v, ↓varF_l, ↓mvF_o, ↓mvF_v, ↓mvF_s, ndF_some, ifB_t, ifB_f, con, sl, frzS, isB, tuO_t, daO, sqO_l, sqO_t, sqO_o, sqO_s, lsO, lenO_K, lenO_T, lenO_o, lenO_l, lenO_t, lenO_s, ngO, consO, argO, varsO, wrB, untag, owL, tyS, tyD_n, tyD_b, tyD_i, tyD_s, tyD_l, tyD_t, tyD_d, entryE, tagA, backA, wipeE, backE, keepS, seqD_l, seqD_t, seqV_l, seqV_t, liD_l, kyS, ksS, keyD_i, keyD_s, keysD, ixS, tupD_t, isDic, isT, eq_self, isNone_n, isNone_i, isNone_t, isNone_l, isNone_b, isNone_s, isNone_o, need_some, atI_0, atI_1, atI_2, atI_3, ixN_30, ixN_31, ixN_32, eqv_int, eqv_str, Int.toNat_natCast, List.getElem?_cons_zero, List.getElem?_cons_succ, List.getElem?_nil, List.set_cons_zero, List.set_cons_succ, List.length_cons, List.length_nil, Option.join_some, Option.join_none, List.replicate_succ, List.replicate_zero, List.cons_append, List.nil_append, Option.map_some, Nat.zero_add, Nat.reduceAdd, Nat.reduceSub, Bool.not_true, Bool.not_false, if_true, if_false, Bool.false_eq_true, true_and, and_true, decide_true, decide_false, Nat.reduceLeDiff, Nat.reduceEqDiff, reduceIte, reduceCtorEq, Bool.or_false, Bool.or_true, Bool.and_true, Bool.and_false, Bool.true_and, Bool.false_and, Bool.true_or, Bool.false_or, List.map_cons, List.map_nil, List.nodup_cons, List.nodup_nil, List.mem_cons, List.not_mem_nil, not_false_eq_true, or_false, false_or, seqV_S, seqV_R, valK, getD_eO]
      exact hN1 _ _ ⟨_, rfl, acc_succ m j⟩
    · rintro ys e ⟨x7, rfl, rfl⟩
      rw [rngD_length]
      simp -dsimp only [↓z_K, ↓z_VarO, ↓z_Var, ↓z_Move, ↓z_Of, ↓z_Fz, ↓z_Res, ↓z_VNil, ↓z_VCons, ↓z_Tup, ↓z_Lst, ↓z_Op2, ↓z_Tst, ↓z_Not, ↓z_Chain, ↓z_AndV, ↓z_OrV, ↓z_NotV, ↓z_And, ↓z_Or, ↓z_If, ↓z_Next, ↓z_Seq, ↓z_Break, ↓z_Cont, ↓z_Exp, ↓z_Ret, ↓z_RetN, ↓z_IfS, ↓z_Nm, ↓z_Tp, ↓z_GN, ↓z_GC, ↓z_Asg, ↓z_ONil, ↓z_OCons, ↓z_SetIx, ↓z_Call, ↓z_Sq, ↓z_Rev, ↓z_For, ↓z_Wh, ↓z_Lc, ↓z_Lc2, ↓z_All, ↓z_All2, ↓z_Yes, ↓z_CB, ↓z_Isi, ↓z_Neg, ↓z_NoP, ↓z_Prt, ↓z_Sl, ↓z_App, ↓z_Pop, ↓z_VK, ↓z_VKs, ↓z_Eq, ↓z_InL, ↓z_InK, ↓z_InT, ↓z_In1, ↓z_In2, ↓z_In3, ↓z_In4, ↓z_IxS, ↓z_Ix1, ↓z_Ix2, ↓z_Ix3, ↓z_Ix4, ↓z_Ix5, ↓z_put1, ↓z_put2, ↓z_put3, ↓z_Len, ↓z_TupC, ↓z_LstC, ↓z_Repr, ↓z_NewD, ↓z_DisK, ↓z_DisT, ↓z_Get1, ↓z_Get2, ↓z_get2K, ↓z_get2T, ↓z_fin, ↓z_Rng1, ↓z_Rng2, ↓rng1F_i, ↓rng2F_i, ↓z_Enm, ↓z_EnmA, ↓enmAF_l, ↓enmAF_t, ↓enmF_l, ↓z_Zip, ↓zipF_l, ↓zipF_t, ↓z_Par, ↓parF_r, ↓z_Par3, ↓par3F_r, ↓z_Never, ↓z_NevE, ↓z_getK, ↓z_getT, ↓z_AddI, ↓z_AddT, ↓z_AddO, ↓z_AddS, ↓z_MulI, ↓z_MulT, ↓z_LtI, ↓z_LtT, ↓z_IsN, ↓z_IntI, ↓z_SlT, ↓z_SlL, ↓z_SlO, ↓z_SlS, ↓z_Sub, ↓z_Mod, ↓z_Div, ↓z_Pow, ↓z_Le, ↓z_Gt, ↓z_Ge, ↓z_II, ↓varF_v, ↓varF_l, ↓mvF_o, ↓mvF_v, ↓mvF_s, ndF_some, ifB_t, ifB_f, con, sl, frzS, isB, tuO_t, daO, sqO_l, sqO_t, sqO_o, sqO_s, lsO, lenO_K, lenO_T, lenO_o, lenO_l, lenO_t, lenO_s, ngO, consO, argO, varsO, wrB, untag, owL, tyS, tyD_n, tyD_b, tyD_i, tyD_s, tyD_l, tyD_t, tyD_d, entryE, tagA, backA, wipeE, backE, keepS, seqD_l, seqD_t, seqV_l, seqV_t, liD_l, kyS, ksS, keyD_i, keyD_s, keysD, ixS, tupD_t, isDic, isT, eq_self, isNone_n, isNone_i, isNone_t, isNone_l, isNone_b, isNone_s, isNone_o, need_some, atI_0, atI_1, atI_2, atI_3, ixN_30, ixN_31, ixN_32, eqv_int, eqv_str, Int.toNat_natCast, List.getElem?_cons_zero, List.getElem?_cons_succ, List.getElem?_nil, List.set_cons_zero, List.set_cons_succ, List.length_cons, List.length_nil, Option.join_some, Option.join_none, List.replicate_succ, List.replicate_zero, List.cons_append, List.nil_append, Option.map_some, Nat.zero_add, Nat.reduceAdd, Nat.reduceSub, Bool.not_true, Bool.not_false, if_true, if_false, Bool.false_eq_true, true_and, and_true, decide_true, decide_false, Nat.reduceLeDiff, Nat.reduceEqDiff, reduceIte, reduceCtorEq, Bool.or_false, Bool.or_true, Bool.and_true, Bool.and_false, Bool.true_and, Bool.false_and, Bool.true_or, Bool.false_or, List.map_cons, List.map_nil, List.nodup_cons, List.nodup_nil, List.mem_cons, List.not_mem_nil, not_false_eq_true, or_false, false_or, seqV_S, seqV_R]
      exact h)
  simp -dsimp only [↓z_K, ↓z_VarO, ↓z_Var, ↓z_Move, ↓z_Of, ↓z_Fz, ↓z_Res, ↓z_VNil, ↓z_VCons, ↓z_Tup, ↓z_Lst, ↓z_Op2, ↓z_Tst, ↓z_Not, ↓z_Chain, ↓z_AndV, ↓z_OrV, ↓z_NotV, ↓z_And, ↓z_Or, ↓z_If, ↓z_Next, ↓z_Seq, ↓z_Break, ↓z_Cont, ↓z_Exp, ↓z_Ret, ↓z_RetN, ↓z_IfS, ↓z_Nm, ↓z_Tp, ↓z_GN, ↓z_GC, ↓z_Asg, ↓z_ONil, ↓z_OCons, ↓z_SetIx, ↓z_Call, ↓z_Sq, ↓z_Rev, ↓z_For, ↓z_Wh, ↓z_Lc, ↓z_Lc2, ↓z_All, ↓z_All2, ↓z_Yes, ↓z_CB, ↓z_Isi, ↓z_Neg, ↓z_NoP, ↓z_Prt, ↓z_Sl, ↓z_App, ↓z_Pop, ↓z_VK, ↓z_VKs, ↓z_Eq, ↓z_InL, ↓z_InK, ↓z_InT, ↓z_In1, ↓z_In2, ↓z_In3, ↓z_In4, ↓z_IxS, ↓z_Ix1, ↓z_Ix2, ↓z_Ix3, ↓z_Ix4, ↓z_Ix5, ↓z_put1, ↓z_put2, ↓z_put3, ↓z_Len, ↓z_TupC, ↓z_LstC, ↓z_Repr, ↓z_NewD, ↓z_DisK, ↓z_DisT, ↓z_Get1, ↓z_Get2, ↓z_get2K, ↓z_get2T, ↓z_fin, ↓z_Rng1, ↓z_Rng2, ↓rng1F_i, ↓rng2F_i, ↓z_Enm, ↓z_EnmA, ↓enmAF_l, ↓enmAF_t, ↓enmF_l, ↓z_Zip, ↓zipF_l, ↓zipF_t, ↓z_Par, ↓parF_r, ↓z_Par3, ↓par3F_r, ↓z_Never, ↓z_NevE, ↓z_getK, ↓z_getT, ↓z_AddI, ↓z_AddT, ↓z_AddO, ↓z_AddS, ↓z_MulI, ↓z_MulT, ↓z_LtI, ↓z_LtT, ↓z_IsN, ↓z_IntI, ↓z_SlT, ↓z_SlL, ↓z_SlO, ↓z_SlS, ↓z_Sub, ↓z_Mod, ↓z_Div, ↓z_Pow, ↓z_Le, ↓z_Gt, ↓z_Ge, ↓z_II, ↓varF_v, ↓varF_l, ↓mvF_o, ↓mvF_v, ↓mvF_s, ndF_some, ifB_t, ifB_f, con, sl, frzS, isB, tuO_t, daO, sqO_l, sqO_t, sqO_o, sqO_s, lsO, lenO_K, lenO_T, lenO_o, lenO_l, lenO_t, lenO_s, ngO, consO, argO, varsO, wrB, untag, owL, tyS, tyD_n, tyD_b, tyD_i, tyD_s, tyD_l, tyD_t, tyD_d, entryE, tagA, backA, wipeE, backE, keepS, seqD_l, seqD_t, seqV_l, seqV_t, liD_l, kyS, ksS, keyD_i, keyD_s, keysD, ixS, tupD_t, isDic, isT, eq_self, isNone_n, isNone_i, isNone_t, isNone_l, isNone_b, isNone_s, isNone_o, need_some, atI_0, atI_1, atI_2, atI_3, ixN_30, ixN_31, ixN_32, eqv_int, eqv_str, Int.toNat_natCast, List.getElem?_cons_zero, List.getElem?_cons_succ, List.getElem?_nil, List.set_cons_zero, List.set_cons_succ, List.length_cons, List.length_nil, Option.join_some, Option.join_none, List.replicate_succ, List.replicate_zero, List.cons_append, List.nil_append, Option.map_some, Nat.zero_add, Nat.reduceAdd, Nat.reduceSub, Bool.not_true, Bool.not_false, if_true, if_false, Bool.false_eq_true, true_and, and_true, decide_true, decide_false, Nat.reduceLeDiff, Nat.reduceEqDiff, reduceIte, reduceCtorEq, Bool.or_false, Bool.or_true, Bool.and_true, Bool.and_false, Bool.true_and, Bool.false_and, Bool.true_or, Bool.false_or, List.map_cons, List.map_nil, List.nodup_cons, List.nodup_nil, List.mem_cons, List.not_mem_nil, not_false_eq_true, or_false, false_or, seqV_S, seqV_R, List.length_map]
  refine ⟨by omega, ?_⟩
  refine for_inv (fun i e => ∃ q x3 x4 x5 x6 x7, e = [some (.val (eS m)), DKq q, LSw q, x3, x4, x5, x6, x7] ∧ q = G m i ∧ i ≤ q.length) ⟨[(0, [])], _, _, _, _, _, rfl, rfl, by simp⟩ ?_ ?_
  · rintro i d e N hd ⟨q, x3, x4, x5, x6, x7, rfl, rfl, hi1⟩ hN
    obtain ⟨hi, rfl⟩ := rng0_get hd
    have hi : i < m.rows.length := by simpa using hi
    have ob := OB.G hm i
    have hlen := ob.toQB.len
    unfold w_access_of_b2
    simp -dsimp only [↓z_K, ↓z_VarO, ↓z_Var, ↓z_Move, ↓z_Of, ↓z_Fz, ↓z_Res, ↓z_VNil, ↓z_VCons, ↓z_Tup, ↓z_Lst, ↓z_Op2, ↓z_Tst, ↓z_Not, ↓z_Chain, ↓z_AndV, ↓z_OrV, ↓z_NotV, ↓z_And, ↓z_Or, ↓z_If, ↓z_Next, ↓z_Seq, ↓z_Break, ↓z_Cont, ↓z_Exp, ↓z_Ret, ↓z_RetN, ↓z_IfS, ↓z_Nm, ↓z_Tp, ↓z_GN, ↓z_GC, ↓z_Asg, ↓z_ONil, ↓z_OCons, ↓z_SetIx, ↓z_Call, ↓z_Sq, ↓z_Rev, ↓z_For, ↓z_Wh, ↓z_Lc, ↓z_Lc2, ↓z_All, ↓z_All2, ↓z_Yes, ↓z_CB, ↓z_Isi, ↓z_Neg, ↓z_NoP, ↓z_Prt, ↓z_Sl, ↓z_App, ↓z_Pop, ↓z_VK, ↓z_VKs, ↓z_Eq, ↓z_InL, ↓z_InK, ↓z_InT, ↓z_In1, ↓z_In2, ↓z_In3, ↓z_In4, ↓z_IxS, ↓z_Ix1, ↓z_Ix2, ↓z_Ix3, ↓z_Ix4, ↓z_Ix5, ↓z_put1, ↓z_put2, ↓z_put3, ↓z_Len, ↓z_TupC, ↓z_LstC, ↓z_Repr, ↓z_NewD, ↓z_DisK, ↓z_DisT, ↓z_Get1, ↓z_Get2, ↓z_get2K, ↓z_get2T, ↓z_fin, ↓z_Rng1, ↓z_Rng2, ↓rng1F_i, ↓rng2F_i, ↓z_Enm, ↓z_EnmA, ↓enmAF_l, ↓enmAF_t, ↓enmF_l, ↓z_Zip, ↓zipF_l, ↓zipF_t, ↓z_Par, ↓parF_r, ↓z_Par3, ↓par3F_r, ↓z_Never, ↓z_NevE, ↓z_getK, ↓z_getT, ↓z_AddI, ↓z_AddT, ↓z_AddO, ↓z_AddS, ↓z_MulI, ↓z_MulT, ↓z_LtI, ↓z_LtT, ↓z_IsN, ↓z_IntI, ↓z_SlT, ↓z_SlL, ↓z_SlO, ↓z_SlS, ↓z_Sub, ↓z_Mod, ↓z_Div, ↓z_Pow, ↓z_Le, ↓z_Gt, ↓z_Ge, ↓z_II, ↓varF_v, ↓varF_l, ↓mvF_o, ↓mvF_v, ↓mvF_s, ndF_some, ifB_t, ifB_f, con, sl, frzS, isB, tuO_t, daO, sqO_l, sqO_t, sqO_o, sqO_s, lsO, lenO_K, lenO_T, lenO_o, lenO_l, lenO_t, lenO_s, ngO, consO, argO, varsO, wrB, untag, owL, tyS, tyD_n, tyD_b, tyD_i, tyD_s, tyD_l, tyD_t, tyD_d, entryE, tagA, backA, wipeE, backE, keepS, seqD_l, seqD_t, seqV_l, seqV_t, liD_l, kyS, ksS, keyD_i, keyD_s, keysD, ixS, tupD_t, isDic, isT, eq_self, isNone_n, isNone_i, isNone_t, isNone_l, isNone_b, isNone_s, isNone_o, need_some, atI_0, atI_1, atI_2, atI_3, ixN_30, ixN_31, ixN_32, eqv_int, eqv_str, Int.toNat_natCast, List.getElem?_cons_zero, List.getElem?_cons_succ, List.getElem?_nil, List.set_cons_zero, List.set_cons_succ, List.length_cons, List.length_nil, Option.join_some, Option.join_none, List.replicate_succ, List.replicate_zero, List.cons_append, List.nil_append, Option.map_some, Nat.zero_add, Nat.reduceAdd, Nat.reduceSub, Bool.not_true, Bool.not_false, if_true, if_false, Bool.false_eq_true, true_and, and_true, decide_true, decide_false, Nat.reduceLeDiff, Nat.reduceEqDiff, reduceIte, reduceCtorEq, Bool.or_false, Bool.or_true, Bool.and_true, Bool.and_false, Bool.true_and, Bool.false_and, Bool.true_or, Bool.false_or, List.map_cons, List.map_nil, List.nodup_cons, List.nodup_nil, List.mem_cons, List.not_mem_nil, not_false_eq_true, or_false, false_or, seqV_S, seqV_R, List.length_map, int_ne]
    refine ⟨eqOk_int, brB (fun e => ?_) fun e => ?_⟩
    · have e := of_decide_eq_true e
      have eG : G m i = F m := G_end hm (.inr e.symm)
      simp -dsimp only [↓z_K, ↓z_VarO, ↓z_Var, ↓z_Move, ↓z_Of, ↓z_Fz, ↓z_Res, ↓z_VNil, ↓z_VCons, ↓z_Tup, ↓z_Lst, ↓z_Op2, ↓z_Tst, ↓z_Not, ↓z_Chain, ↓z_AndV, ↓z_OrV, ↓z_NotV, ↓z_And, ↓z_Or, ↓z_If, ↓z_Next, ↓z_Seq, ↓z_Break, ↓z_Cont, ↓z_Exp, ↓z_Ret, ↓z_RetN, ↓z_IfS, ↓z_Nm, ↓z_Tp, ↓z_GN, ↓z_GC, ↓z_Asg, ↓z_ONil, ↓z_OCons, ↓z_SetIx, ↓z_Call, ↓z_Sq, ↓z_Rev, ↓z_For, ↓z_Wh, ↓z_Lc, ↓z_Lc2, ↓z_All, ↓z_All2, ↓z_Yes, ↓z_CB, ↓z_Isi, ↓z_Neg, ↓z_NoP, ↓z_Prt, ↓z_Sl, ↓z_App, ↓z_Pop, ↓z_VK, ↓z_VKs, ↓z_Eq, ↓z_InL, ↓z_InK, ↓z_InT, ↓z_In1, ↓z_In2, ↓z_In3, ↓z_In4, ↓z_IxS, ↓z_Ix1, ↓z_Ix2, ↓z_Ix3, ↓z_Ix4, ↓z_Ix5, ↓z_put1, ↓z_put2, ↓z_put3, ↓z_Len, ↓z_TupC, ↓z_LstC, ↓z_Repr, ↓z_NewD, ↓z_DisK, ↓z_DisT, ↓z_Get1, ↓z_Get2, ↓z_get2K, ↓z_get2T, ↓z_fin, ↓z_Rng1, ↓z_Rng2, ↓rng1F_i, ↓rng2F_i, ↓z_Enm, ↓z_EnmA, ↓enmAF_l, ↓enmAF_t, ↓enmF_l, ↓z_Zip, ↓zipF_l, ↓zipF_t, ↓z_Par, ↓parF_r, ↓z_Par3, ↓par3F_r, ↓z_Never, ↓z_NevE, ↓z_getK, ↓z_getT, ↓z_AddI, ↓z_AddT, ↓z_AddO, ↓z_AddS, ↓z_MulI, ↓z_MulT, ↓z_LtI, ↓z_LtT, ↓z_IsN, ↓z_IntI, ↓z_SlT, ↓z_SlL, ↓z_SlO, ↓z_SlS, ↓z_Sub, ↓z_Mod, ↓z_Div, ↓z_Pow, ↓z_Le, ↓z_Gt, ↓z_Ge, ↓z_II, ↓varF_v, ↓varF_l, ↓mvF_o, ↓mvF_v, ↓mvF_s, ndF_some, ifB_t, ifB_f, con, sl, frzS, isB, tuO_t, daO, sqO_l, sqO_t, sqO_o, sqO_s, lsO, lenO_K, lenO_T, lenO_o, lenO_l, lenO_t, lenO_s, ngO, consO, argO, varsO, wrB, untag, owL, tyS, tyD_n, tyD_b, tyD_i, tyD_s, tyD_l, tyD_t, tyD_d, entryE, tagA, backA, wipeE, backE, keepS, seqD_l, seqD_t, seqV_l, seqV_t, liD_l, kyS, ksS, keyD_i, keyD_s, keysD, ixS, tupD_t, isDic, isT, eq_self, isNone_n, isNone_i, isNone_t, isNone_l, isNone_b, isNone_s, isNone_o, need_some, atI_0, atI_1, atI_2, atI_3, ixN_30, ixN_31, ixN_32, eqv_int, eqv_str, Int.toNat_natCast, List.getElem?_cons_zero, List.getElem?_cons_succ, List.getElem?_nil, List.set_cons_zero, List.set_cons_succ, List.length_cons, List.length_nil, Option.join_some, Option.join_none, List.replicate_succ, List.replicate_zero, List.cons_append, List.nil_append, Option.map_some, Nat.zero_add, Nat.reduceAdd, Nat.reduceSub, Bool.not_true, Bool.not_false, if_true, if_false, Bool.false_eq_true, true_and, and_true, decide_true, decide_false, Nat.reduceLeDiff, Nat.reduceEqDiff, reduceIte, reduceCtorEq, Bool.or_false, Bool.or_true, Bool.and_true, Bool.and_false, Bool.true_and, Bool.false_and, Bool.true_or, Bool.false_or, List.map_cons, List.map_nil, List.nodup_cons, List.nodup_nil, List.mem_cons, List.not_mem_nil, not_false_eq_true, or_false, false_or, seqV_S, seqV_R]
      rw [eG]
      exact fin _ _ _ _ _
    · have e := of_decide_eq_false e
      have hlt : i < (G m i).length := by omega
      obtain ⟨x, hx, hxm, hat⟩ := atI_natD hlt
      obtain ⟨s, w⟩ := x
      have hs := ob.st _ hxm
      have hwe := ob.le _ hxm
      have hr := ob.run _ hxm
      have hwl := ob.wl _ hxm
      simp only at hs hwe hr hwl
      have eG : G m (i + 1) = stepL m s w (List.range m.L) (G m i) := by rw [G, hx]
      simp -dsimp only [↓z_K, ↓z_VarO, ↓z_Var, ↓z_Move, ↓z_Of, ↓z_Fz, ↓z_Res, ↓z_VNil, ↓z_VCons, ↓z_Tup, ↓z_Lst, ↓z_Op2, ↓z_Tst, ↓z_Not, ↓z_Chain, ↓z_AndV, ↓z_OrV, ↓z_NotV, ↓z_And, ↓z_Or, ↓z_If, ↓z_Next, ↓z_Seq, ↓z_Break, ↓z_Cont, ↓z_Exp, ↓z_Ret, ↓z_RetN, ↓z_IfS, ↓z_Nm, ↓z_Tp, ↓z_GN, ↓z_GC, ↓z_Asg, ↓z_ONil, ↓z_OCons, ↓z_SetIx, ↓z_Call, ↓z_Sq, ↓z_Rev, ↓z_For, ↓z_Wh, ↓z_Lc, ↓z_Lc2, ↓z_All, ↓z_All2, ↓z_Yes, ↓z_CB, ↓z_Isi, ↓z_Neg, ↓z_NoP, ↓z_Prt, ↓z_Sl, ↓z_App, ↓z_Pop, ↓z_VK, ↓z_VKs, ↓z_Eq, ↓z_InL, ↓z_InK, ↓z_InT, ↓z_In1, ↓z_In2, ↓z_In3, ↓z_In4, ↓z_IxS, ↓z_Ix1, ↓z_Ix2, ↓z_Ix3, ↓z_Ix4, ↓z_Ix5, ↓z_put1, ↓z_put2, ↓z_put3, ↓z_Len, ↓z_TupC, ↓z_LstC, ↓z_Repr, ↓z_NewD, ↓z_DisK, ↓z_DisT, ↓z_Get1, ↓z_Get2, ↓z_get2K, ↓z_get2T, ↓z_fin, ↓z_Rng1, ↓z_Rng2, ↓rng1F_i, ↓rng2F_i, ↓z_Enm, ↓z_EnmA, ↓enmAF_l, ↓enmAF_t, ↓enmF_l, ↓z_Zip, ↓zipF_l, ↓zipF_t, ↓z_Par, ↓parF_r, ↓z_Par3, ↓par3F_r, ↓z_Never, ↓z_NevE, ↓z_getK, ↓z_getT, ↓z_AddI, ↓z_AddT, ↓z_AddO, ↓z_AddS, ↓z_MulI, ↓z_MulT, ↓z_LtI, ↓z_LtT, ↓z_IsN, ↓z_IntI, ↓z_SlT, ↓z_SlL, ↓z_SlO, ↓z_SlS, ↓z_Sub, ↓z_Mod, ↓z_Div, ↓z_Pow, ↓z_Le, ↓z_Gt, ↓z_Ge, ↓z_II, ↓varF_v, ↓varF_l, ↓mvF_o, ↓mvF_v, ↓mvF_s, ndF_some, ifB_t, ifB_f, con, sl, frzS, isB, tuO_t, daO, sqO_l, sqO_t, sqO_o, sqO_s, lsO, lenO_K, lenO_T, lenO_o, lenO_l, lenO_t, lenO_s, ngO, consO, argO, varsO, wrB, untag, owL, tyS, tyD_n, tyD_b, tyD_i, tyD_s, tyD_l, tyD_t, tyD_d, entryE, tagA, backA, wipeE, backE, keepS, seqD_l, seqD_t, seqV_l, seqV_t, liD_l, kyS, ksS, keyD_i, keyD_s, keysD, ixS, tupD_t, isDic, isT, eq_self, isNone_n, isNone_i, isNone_t, isNone_l, isNone_b, isNone_s, isNone_o, need_some, atI_0, atI_1, atI_2, atI_3, ixN_30, ixN_31, ixN_32, eqv_int, eqv_str, Int.toNat_natCast, List.getElem?_cons_zero, List.getElem?_cons_succ, List.getElem?_nil, List.set_cons_zero, List.set_cons_succ, List.length_cons, List.length_nil, Option.join_some, Option.join_none, List.replicate_succ, List.replicate_zero, List.cons_append, List.nil_append, Option.map_some, Nat.zero_add, Nat.reduceAdd, Nat.reduceSub, Bool.not_true, Bool.not_false, if_true, if_false, Bool.false_eq_true, true_and, and_true, decide_true, decide_false, Nat.reduceLeDiff, Nat.reduceEqDiff, reduceIte, reduceCtorEq, Bool.or_false, Bool.or_true, Bool.and_true, Bool.and_false, Bool.true_and, Bool.false_and, Bool.true_or, Bool.false_or, List.map_cons, List.map_nil, List.nodup_cons, List.nodup_nil, List.mem_cons, List.not_mem_nil, not_false_eq_true, or_false, false_or, seqV_S, seqV_R, atI_map, hat]
      refine ⟨by omega, ?_⟩
      refine for_inv (fun j e => ∃ q2 x5 x6 x7, e = [some (.val (eS m)), DKq q2, LSw q2, some (.val (.int i)), some (.val (.int s)), x5, x6, x7] ∧ stepL m s w ((List.range m.L).drop j) q2 = G m (i + 1) ∧ PB m i s w (G m i) j q2)
        ⟨G m i, _, _, _, rfl, by rw [eG]; simp, ob.pb hx⟩ ?_ ?_
      · rintro j d e N2 hd2 ⟨q2, x5, x6, x7, rfl, hst, hpb⟩ hN2
        obtain ⟨hj, rfl⟩ := rng0_get hd2
        have hj : j < m.L := by simpa using hj
        obtain ⟨r, t, a, k1, k2, k3, k4, k5⟩ := hm.ent_at hs hj
        rw [range_drop hj, stepL] at hst
        have hp2 := hpb.step hm hs hwe hr hwl hj
        have hl2 := hpb.toQB.len
        obtain ⟨r0, er0⟩ := hpb.pre
        have hlk : lk q2 s = some w := lk_of hpb.nd (by rw [er0]; simp [hxm])
        unfold w_access_of_b1
        simp -dsimp only [↓z_K, ↓z_VarO, ↓z_Var, ↓z_Move, ↓z_Of, ↓z_Fz, ↓z_Res, ↓z_VNil, ↓z_VCons, ↓z_Tup, ↓z_Lst, ↓z_Op2, ↓z_Tst, ↓z_Not, ↓z_Chain, ↓z_AndV, ↓z_OrV, ↓z_NotV, ↓z_And, ↓z_Or, ↓z_If, ↓z_Next, ↓z_Seq, ↓z_Break, ↓z_Cont, ↓z_Exp, ↓z_Ret, ↓z_RetN, ↓z_IfS, ↓z_Nm, ↓z_Tp, ↓z_GN, ↓z_GC, ↓z_Asg, ↓z_ONil, ↓z_OCons, ↓z_SetIx, ↓z_Call, ↓z_Sq, ↓z_Rev, ↓z_For, ↓z_Wh, ↓z_Lc, ↓z_Lc2, ↓z_All, ↓z_All2, ↓z_Yes, ↓z_CB, ↓z_Isi, ↓z_Neg, ↓z_NoP, ↓z_Prt, ↓z_Sl, ↓z_App, ↓z_Pop, ↓z_VK, ↓z_VKs, ↓z_Eq, ↓z_InL, ↓z_InK, ↓z_InT, ↓z_In1, ↓z_In2, ↓z_In3, ↓z_In4, ↓z_IxS, ↓z_Ix1, ↓z_Ix2, ↓z_Ix3, ↓z_Ix4, ↓z_Ix5, ↓z_put1, ↓z_put2, ↓z_put3, ↓z_Len, ↓z_TupC, ↓z_LstC, ↓z_Repr, ↓z_NewD, ↓z_DisK, ↓z_DisT, ↓z_Get1, ↓z_Get2, ↓z_get2K, ↓z_get2T, ↓z_fin, ↓z_Rng1, ↓z_Rng2, ↓rng1F_i, ↓rng2F_i, ↓z_Enm, ↓z_EnmA, ↓enmAF_l, ↓enmAF_t, ↓enmF_l, ↓z_Zip, ↓zipF_l, ↓zipF_t, ↓z_Par, ↓parF_r, ↓z_Par3, ↓par3F_r, ↓z_Never, ↓z_NevE, ↓z_getK, ↓z_getT, ↓z_AddI, ↓z_AddT, ↓z_AddO, ↓z_AddS, ↓z_MulI, ↓z_MulT, ↓z_LtI, ↓z_LtT, ↓z_IsN, ↓z_IntI, ↓z_SlT, ↓z_SlL, ↓z_SlO, ↓z_SlS, ↓z_Sub, ↓z_Mod, ↓z_Div, ↓z_Pow, ↓z_Le, ↓z_Gt, ↓z_Ge, ↓z_II, ↓varF_v, ↓varF_l, ↓mvF_o, ↓mvF_v, ↓mvF_s, ndF_some, ifB_t, ifB_f, con, sl, frzS, isB, tuO_t, daO, sqO_l, sqO_t, sqO_o, sqO_s, lsO, lenO_K, lenO_T, lenO_o, lenO_l, lenO_t, lenO_s, ngO, consO, argO, varsO, wrB, untag, owL, tyS, tyD_n, tyD_b, tyD_i, tyD_s, tyD_l, tyD_t, tyD_d, entryE, tagA, backA, wipeE, backE, keepS, seqD_l, seqD_t, seqV_l, seqV_t, liD_l, kyS, ksS, keyD_i, keyD_s, keysD, ixS, tupD_t, isDic, isT, eq_self, isNone_n, isNone_i, isNone_t, isNone_l, isNone_b, isNone_s, isNone_o, need_some, atI_0, atI_1, atI_2, atI_3, ixN_30, ixN_31, ixN_32, eqv_int, eqv_str, Int.toNat_natCast, List.getElem?_cons_zero, List.getElem?_cons_succ, List.getElem?_nil, List.set_cons_zero, List.set_cons_succ, List.length_cons, List.length_nil, Option.join_some, Option.join_none, List.replicate_succ, List.replicate_zero, List.cons_append, List.nil_append, Option.map_some, Nat.zero_add, Nat.reduceAdd, Nat.reduceSub, Bool.not_true, Bool.not_false, if_true, if_false, Bool.false_eq_true, true_and, and_true, decide_true, decide_false, Nat.reduceLeDiff, Nat.reduceEqDiff, reduceIte, reduceCtorEq, Bool.or_false, Bool.or_true, Bool.and_true, Bool.and_false, Bool.true_and, Bool.false_and, Bool.true_or, Bool.false_or, List.map_cons, List.map_nil, List.nodup_cons, List.nodup_nil, List.mem_cons, List.not_mem_nil, not_false_eq_true, or_false, false_or, seqV_S, seqV_R, k1, k2, valK_has]
        refine brB (fun e2 => ?_) fun e2 => ?_
        · have e2 : hasS q2 t = false := by simpa using e2
          have es : step1 m s w j q2 = q2 ++ [(t, w ++ [j])] := by simp [step1, k3, e2]
          simp -dsimp only [↓z_K, ↓z_VarO, ↓z_Var, ↓z_Move, ↓z_Of, ↓z_Fz, ↓z_Res, ↓z_VNil, ↓z_VCons, ↓z_Tup, ↓z_Lst, ↓z_Op2, ↓z_Tst, ↓z_Not, ↓z_Chain, ↓z_AndV, ↓z_OrV, ↓z_NotV, ↓z_And, ↓z_Or, ↓z_If, ↓z_Next, ↓z_Seq, ↓z_Break, ↓z_Cont, ↓z_Exp, ↓z_Ret, ↓z_RetN, ↓z_IfS, ↓z_Nm, ↓z_Tp, ↓z_GN, ↓z_GC, ↓z_Asg, ↓z_ONil, ↓z_OCons, ↓z_SetIx, ↓z_Call, ↓z_Sq, ↓z_Rev, ↓z_For, ↓z_Wh, ↓z_Lc, ↓z_Lc2, ↓z_All, ↓z_All2, ↓z_Yes, ↓z_CB, ↓z_Isi, ↓z_Neg, ↓z_NoP, ↓z_Prt, ↓z_Sl, ↓z_App, ↓z_Pop, ↓z_VK, ↓z_VKs, ↓z_Eq, ↓z_InL, ↓z_InK, ↓z_InT, ↓z_In1, ↓z_In2, ↓z_In3, ↓z_In4, ↓z_IxS, ↓z_Ix1, ↓z_Ix2, ↓z_Ix3, ↓z_Ix4, ↓z_Ix5, ↓z_put1, ↓z_put2, ↓z_put3, ↓z_Len, ↓z_TupC, ↓z_LstC, ↓z_Repr, ↓z_NewD, ↓z_DisK, ↓z_DisT, ↓z_Get1, ↓z_Get2, ↓z_get2K, ↓z_get2T, ↓z_fin, ↓z_Rng1, ↓z_Rng2, ↓rng1F_i, ↓rng2F_i, ↓z_Enm, ↓z_EnmA, ↓enmAF_l, ↓enmAF_t, ↓enmF_l, ↓z_Zip, ↓zipF_l, ↓zipF_t, ↓z_Par, ↓parF_r, ↓z_Par3, ↓par3F_r, ↓z_Never, ↓z_NevE, ↓z_getK, ↓z_getT, ↓z_AddI, ↓z_AddT, ↓z_AddO, ↓z_AddS, ↓z_MulI, ↓z_MulT, ↓z_LtI, ↓z_LtT, ↓z_IsN, ↓z_IntI, ↓z_SlT, ↓z_SlL, ↓z_SlO, ↓z_SlS, ↓z_Sub, ↓z_Mod, ↓z_Div, ↓z_Pow, ↓z_Le, ↓z_Gt, ↓z_Ge, ↓z_II, ↓varF_v, ↓varF_l, ↓mvF_o, ↓mvF_v, ↓mvF_s, ndF_some, ifB_t, ifB_f, con, sl, frzS, isB, tuO_t, daO, sqO_l, sqO_t, sqO_o, sqO_s, lsO, lenO_K, lenO_T, lenO_o, lenO_l, lenO_t, lenO_s, ngO, consO, argO, varsO, wrB, untag, owL, tyS, tyD_n, tyD_b, tyD_i, tyD_s, tyD_l, tyD_t, tyD_d, entryE, tagA, backA, wipeE, backE, keepS, seqD_l, seqD_t, seqV_l, seqV_t, liD_l, kyS, ksS, keyD_i, keyD_s, keysD, ixS, tupD_t, isDic, isT, eq_self, isNone_n, isNone_i, isNone_t, isNone_l, isNone_b, isNone_s, isNone_o, need_some, atI_0, atI_1, atI_2, atI_3, ixN_30, ixN_31, ixN_32, eqv_int, eqv_str, Int.toNat_natCast, List.getElem?_cons_zero, List.getElem?_cons_succ, List.getElem?_nil, List.set_cons_zero, List.set_cons_succ, List.length_cons, List.length_nil, Option.join_some, Option.join_none, List.replicate_succ, List.replicate_zero, List.cons_append, List.nil_append, Option.map_some, Nat.zero_add, Nat.reduceAdd, Nat.reduceSub, Bool.not_true, Bool.not_false, if_true, if_false, Bool.false_eq_true, true_and, and_true, decide_true, decide_false, Nat.reduceLeDiff, Nat.reduceEqDiff, reduceIte, reduceCtorEq, Bool.or_false, Bool.or_true, Bool.and_true, Bool.and_false, Bool.true_and, Bool.false_and, Bool.true_or, Bool.false_or, List.map_cons, List.map_nil, List.nodup_cons, List.nodup_nil, List.mem_cons, List.not_mem_nil, not_false_eq_true, or_false, false_or, seqV_S, seqV_R, valK, hlk, List.length_map, eN]
          refine ⟨sz1, Nat.le_of_lt (szlt (by omega)), szlt (by omega), szlt (by omega), ?_⟩
          rw [eN_snoc, put_newS _ e2, show PyData.int (t : Int) = (fun x : St1 => PyData.int (x.1 : Nat)) (t, w ++ [j]) from rfl, map_snoc, ← es]
          exact hN2 _ ⟨_, _, _, _, rfl, hst, hp2⟩
        · have e2 : hasS q2 t = true := by simpa using e2
          have es : step1 m s w j q2 = q2 := by simp [step1, k3, e2]
          rw [es] at hst hp2
          simp -dsimp only [↓z_K, ↓z_VarO, ↓z_Var, ↓z_Move, ↓z_Of, ↓z_Fz, ↓z_Res, ↓z_VNil, ↓z_VCons, ↓z_Tup, ↓z_Lst, ↓z_Op2, ↓z_Tst, ↓z_Not, ↓z_Chain, ↓z_AndV, ↓z_OrV, ↓z_NotV, ↓z_And, ↓z_Or, ↓z_If, ↓z_Next, ↓z_Seq, ↓z_Break, ↓z_Cont, ↓z_Exp, ↓z_Ret, ↓z_RetN, ↓z_IfS, ↓z_Nm, ↓z_Tp, ↓z_GN, ↓z_GC, ↓z_Asg, ↓z_ONil, ↓z_OCons, ↓z_SetIx, ↓z_Call, ↓z_Sq, ↓z_Rev, ↓z_For, ↓z_Wh, ↓z_Lc, ↓z_Lc2, ↓z_All, ↓z_All2, ↓z_Yes, ↓z_CB, ↓z_Isi, ↓z_Neg, ↓z_NoP, ↓z_Prt, ↓z_Sl, ↓z_App, ↓z_Pop, ↓z_VK, ↓z_VKs, ↓z_Eq, ↓z_InL, ↓z_InK, ↓z_InT, ↓z_In1, ↓z_In2, ↓z_In3, ↓z_In4, ↓z_IxS, ↓z_Ix1, ↓z_Ix2, ↓z_Ix3, ↓z_Ix4, ↓z_Ix5, ↓z_put1, ↓z_put2, ↓z_put3, ↓z_Len, ↓z_TupC, ↓z_LstC, ↓z_Repr, ↓z_NewD, ↓z_DisK, ↓z_DisT, ↓z_Get1, ↓z_Get2, ↓z_get2K, ↓z_get2T, ↓z_fin, ↓z_Rng1, ↓z_Rng2, ↓rng1F_i, ↓rng2F_i, ↓z_Enm, ↓z_EnmA, ↓enmAF_l, ↓enmAF_t, ↓enmF_l, ↓z_Zip, ↓zipF_l, ↓zipF_t, ↓z_Par, ↓parF_r, ↓z_Par3, ↓par3F_r, ↓z_Never, ↓z_NevE, ↓z_getK, ↓z_getT, ↓z_AddI, ↓z_AddT, ↓z_AddO, ↓z_AddS, ↓z_MulI, ↓z_MulT, ↓z_LtI, ↓z_LtT, ↓z_IsN, ↓z_IntI, ↓z_SlT, ↓z_SlL, ↓z_SlO, ↓z_SlS, ↓z_Sub, ↓z_Mod, ↓z_Div, ↓z_Pow, ↓z_Le, ↓z_Gt, ↓z_Ge, ↓z_II, ↓varF_v, ↓varF_l, ↓mvF_o, ↓mvF_v, ↓mvF_s, ndF_some, ifB_t, ifB_f, con, sl, frzS, isB, tuO_t, daO, sqO_l, sqO_t, sqO_o, sqO_s, lsO, lenO_K, lenO_T, lenO_o, lenO_l, lenO_t, lenO_s, ngO, consO, argO, varsO, wrB, untag, owL, tyS, tyD_n, tyD_b, tyD_i, tyD_s, tyD_l, tyD_t, tyD_d, entryE, tagA, backA, wipeE, backE, keepS, seqD_l, seqD_t, seqV_l, seqV_t, liD_l, kyS, ksS, keyD_i, keyD_s, keysD, ixS, tupD_t, isDic, isT, eq_self, isNone_n, isNone_i, isNone_t, isNone_l, isNone_b, isNone_s, isNone_o, need_some, atI_0, atI_1, atI_2, atI_3, ixN_30, ixN_31, ixN_32, eqv_int, eqv_str, Int.toNat_natCast, List.getElem?_cons_zero, List.getElem?_cons_succ, List.getElem?_nil, List.set_cons_zero, List.set_cons_succ, List.length_cons, List.length_nil, Option.join_some, Option.join_none, List.replicate_succ, List.replicate_zero, List.cons_append, List.nil_append, Option.map_some, Nat.zero_add, Nat.reduceAdd, Nat.reduceSub, Bool.not_true, Bool.not_false, if_true, if_false, Bool.false_eq_true, true_and, and_true, decide_true, decide_false, Nat.reduceLeDiff, Nat.reduceEqDiff, reduceIte, reduceCtorEq, Bool.or_false, Bool.or_true, Bool.and_true, Bool.and_false, Bool.true_and, Bool.false_and, Bool.true_or, Bool.false_or, List.map_cons, List.map_nil, List.nodup_cons, List.nodup_nil, List.mem_cons, List.not_mem_nil, not_false_eq_true, or_false, false_or, seqV_S, seqV_R]
          exact hN2 _ ⟨_, _, _, _, rfl, hst, hp2⟩
      · rintro e ⟨q2, x5, x6, x7, rfl, hst, hpb⟩
        rw [rngD_length] at hst hpb
        rw [List.drop_eq_nil_of_le (by simp), stepL] at hst
        obtain ⟨r0, er0⟩ := hpb.pre
        exact hN _ ⟨_, _, _, _, _, _, rfl, hst, by rw [er0, List.length_append]; have := (List.length_pos_of_mem hxm); omega⟩
  · rintro e ⟨q, x3, x4, x5, x6, x7, rfl, rfl, hi1⟩
    rw [rngD_length]
    exact fin _ _ _ _ _
end DV

set_option Elab.async false
set_option linter.all false
set_option maxRecDepth 100000
set_option maxHeartbeats 4000000
namespace DV
open PySem PySem.Spec PyProof.Rows L2
theorem sp_access {m : Sk} {Q : Slot → List Slot → Prop} {X : Value → Prop} (hm : Mach m) (h : Q (.val (.tuple ((acc m).map eO))) [.val (eS m)]) : fs_access [.val (eS m)] Q X := by
  refine ⟨rfl, ?_⟩
  unfold w_access
  simp -dsimp only [↓z_K, ↓z_VarO, ↓z_Var, ↓z_Move, ↓z_Of, ↓z_Fz, ↓z_Res, ↓z_VNil, ↓z_VCons, ↓z_Tup, ↓z_Lst, ↓z_Op2, ↓z_Tst, ↓z_Not, ↓z_Chain, ↓z_AndV, ↓z_OrV, ↓z_NotV, ↓z_And, ↓z_Or, ↓z_If, ↓z_Next, ↓z_Seq, ↓z_Break, ↓z_Cont, ↓z_Exp, ↓z_Ret, ↓z_RetN, ↓z_IfS, ↓z_Nm, ↓z_Tp, ↓z_GN, ↓z_GC, ↓z_Asg, ↓z_ONil, ↓z_OCons, ↓z_SetIx, ↓z_Call, ↓z_Sq, ↓z_Rev, ↓z_For, ↓z_Wh, ↓z_Lc, ↓z_Lc2, ↓z_All, ↓z_All2, ↓z_Yes, ↓z_CB, ↓z_Isi, ↓z_Neg, ↓z_NoP, ↓z_Prt, ↓z_Sl, ↓z_App, ↓z_Pop, ↓z_VK, ↓z_VKs, ↓z_Eq, ↓z_InL, ↓z_InK, ↓z_InT, ↓z_In1, ↓z_In2, ↓z_In3, ↓z_In4, ↓z_IxS, ↓z_Ix1, ↓z_Ix2, ↓z_Ix3, ↓z_Ix4, ↓z_Ix5, ↓z_put1, ↓z_put2, ↓z_put3, ↓z_Len, ↓z_TupC, ↓z_LstC, ↓z_Repr, ↓z_NewD, ↓z_DisK, ↓z_DisT, ↓z_Get1, ↓z_Get2, ↓z_get2K, ↓z_get2T, ↓z_fin, ↓z_Rng1, ↓z_Rng2, ↓rng1F_i, ↓rng2F_i, ↓z_Enm, ↓z_EnmA, ↓enmAF_l, ↓enmAF_t, ↓enmF_l, ↓z_Zip, ↓zipF_l, ↓zipF_t, ↓z_Par, ↓parF_r, ↓z_Par3, ↓par3F_r, ↓z_Never, ↓z_NevE, ↓z_getK, ↓z_getT, ↓z_AddI, ↓z_AddT, ↓z_AddO, ↓z_AddS, ↓z_MulI, ↓z_MulT, ↓z_LtI, ↓z_LtT, ↓z_IsN, ↓z_IntI, ↓z_SlT, ↓z_SlL, ↓z_SlO, ↓z_SlS, ↓z_Sub, ↓z_Mod, ↓z_Div, ↓z_Pow, ↓z_Le, ↓z_Gt, ↓z_Ge, ↓z_II, ↓varF_v, ↓varF_l, ↓mvF_o, ↓mvF_v, ↓mvF_s, ndF_some, ifB_t, ifB_f, con, sl, frzS, isB, tuO_t, daO, sqO_l, sqO_t, sqO_o, sqO_s, lsO, lenO_K, lenO_T, lenO_o, lenO_l, lenO_t, lenO_s, ngO, consO, argO, varsO, wrB, untag, owL, tyS, tyD_n, tyD_b, tyD_i, tyD_s, tyD_l, tyD_t, tyD_d, entryE, tagA, backA, wipeE, backE, keepS, seqD_l, seqD_t, seqV_l, seqV_t, liD_l, kyS, ksS, keyD_i, keyD_s, keysD, ixS, tupD_t, isDic, isT, eq_self, isNone_n, isNone_i, isNone_t, isNone_l, isNone_b, isNone_s, isNone_o, need_some, atI_0, atI_1, atI_2, atI_3, ixN_30, ixN_31, ixN_32, eqv_int, eqv_str, Int.toNat_natCast, List.getElem?_cons_zero, List.getElem?_cons_succ, List.getElem?_nil, List.set_cons_zero, List.set_cons_succ, List.length_cons, List.length_nil, Option.join_some, Option.join_none, List.replicate_succ, List.replicate_zero, List.cons_append, List.nil_append, Option.map_some, Nat.zero_add, Nat.reduceAdd, Nat.reduceSub, Bool.not_true, Bool.not_false, if_true, if_false, Bool.false_eq_true, true_and, and_true, decide_true, decide_false, Nat.reduceLeDiff, Nat.reduceEqDiff, reduceIte, reduceCtorEq, Bool.or_false, Bool.or_true, Bool.and_true, Bool.and_false, Bool.true_and, Bool.false_and, Bool.true_or, Bool.false_or, List.map_cons, List.map_nil, List.nodup_cons, List.nodup_nil, List.mem_cons, List.not_mem_nil, not_false_eq_true, or_false, false_or, seqV_S, seqV_R]
  refine sp_need_machine hm ?_
  simp -dsimp only [↓z_K, ↓z_VarO, ↓z_Var, ↓z_Move, ↓z_Of, ↓z_Fz, ↓z_Res, ↓z_VNil, ↓z_VCons, ↓z_Tup, ↓z_Lst, ↓z_Op2, ↓z_Tst, ↓z_Not, ↓z_Chain, ↓z_AndV, ↓z_OrV, ↓z_NotV, ↓z_And, ↓z_Or, ↓z_If, ↓z_Next, ↓z_Seq, ↓z_Break, ↓z_Cont, ↓z_Exp, ↓z_Ret, ↓z_RetN, ↓z_IfS, ↓z_Nm, ↓z_Tp, ↓z_GN, ↓z_GC, ↓z_Asg, ↓z_ONil, ↓z_OCons, ↓z_SetIx, ↓z_Call, ↓z_Sq, ↓z_Rev, ↓z_For, ↓z_Wh, ↓z_Lc, ↓z_Lc2, ↓z_All, ↓z_All2, ↓z_Yes, ↓z_CB, ↓z_Isi, ↓z_Neg, ↓z_NoP, ↓z_Prt, ↓z_Sl, ↓z_App, ↓z_Pop, ↓z_VK, ↓z_VKs, ↓z_Eq, ↓z_InL, ↓z_InK, ↓z_InT, ↓z_In1, ↓z_In2, ↓z_In3, ↓z_In4, ↓z_IxS, ↓z_Ix1, ↓z_Ix2, ↓z_Ix3, ↓z_Ix4, ↓z_Ix5, ↓z_put1, ↓z_put2, ↓z_put3, ↓z_Len, ↓z_TupC, ↓z_LstC, ↓z_Repr, ↓z_NewD, ↓z_DisK, ↓z_DisT, ↓z_Get1, ↓z_Get2, ↓z_get2K, ↓z_get2T, ↓z_fin, ↓z_Rng1, ↓z_Rng2, ↓rng1F_i, ↓rng2F_i, ↓z_Enm, ↓z_EnmA, ↓enmAF_l, ↓enmAF_t, ↓enmF_l, ↓z_Zip, ↓zipF_l, ↓zipF_t, ↓z_Par, ↓parF_r, ↓z_Par3, ↓par3F_r, ↓z_Never, ↓z_NevE, ↓z_getK, ↓z_getT, ↓z_AddI, ↓z_AddT, ↓z_AddO, ↓z_AddS, ↓z_MulI, ↓z_MulT, ↓z_LtI, ↓z_LtT, ↓z_IsN, ↓z_IntI, ↓z_SlT, ↓z_SlL, ↓z_SlO, ↓z_SlS, ↓z_Sub, ↓z_Mod, ↓z_Div, ↓z_Pow, ↓z_Le, ↓z_Gt, ↓z_Ge, ↓z_II, ↓varF_v, ↓varF_l, ↓mvF_o, ↓mvF_v, ↓mvF_s, ndF_some, ifB_t, ifB_f, con, sl, frzS, isB, tuO_t, daO, sqO_l, sqO_t, sqO_o, sqO_s, lsO, lenO_K, lenO_T, lenO_o, lenO_l, lenO_t, lenO_s, ngO, consO, argO, varsO, wrB, untag, owL, tyS, tyD_n, tyD_b, tyD_i, tyD_s, tyD_l, tyD_t, tyD_d, entryE, tagA, backA, wipeE, backE, keepS, seqD_l, seqD_t, seqV_l, seqV_t, liD_l, kyS, ksS, keyD_i, keyD_s, keysD, ixS, tupD_t, isDic, isT, eq_self, isNone_n, isNone_i, isNone_t, isNone_l, isNone_b, isNone_s, isNone_o, need_some, atI_0, atI_1, atI_2, atI_3, ixN_30, ixN_31, ixN_32, eqv_int, eqv_str, Int.toNat_natCast, List.getElem?_cons_zero, List.getElem?_cons_succ, List.getElem?_nil, List.set_cons_zero, List.set_cons_succ, List.length_cons, List.length_nil, Option.join_some, Option.join_none, List.replicate_succ, List.replicate_zero, List.cons_append, List.nil_append, Option.map_some, Nat.zero_add, Nat.reduceAdd, Nat.reduceSub, Bool.not_true, Bool.not_false, if_true, if_false, Bool.false_eq_true, true_and, and_true, decide_true, decide_false, Nat.reduceLeDiff, Nat.reduceEqDiff, reduceIte, reduceCtorEq, Bool.or_false, Bool.or_true, Bool.and_true, Bool.and_false, Bool.true_and, Bool.false_and, Bool.true_or, Bool.false_or, List.map_cons, List.map_nil, List.nodup_cons, List.nodup_nil, List.mem_cons, List.not_mem_nil, not_false_eq_true, or_false, false_or, seqV_S, seqV_R]
  refine sp_access_of hm ?_
  simp -dsimp only [↓z_K, ↓z_VarO, ↓z_Var, ↓z_Move, ↓z_Of, ↓z_Fz, ↓z_Res, ↓z_VNil, ↓z_VCons, ↓z_Tup, ↓z_Lst, ↓z_Op2, ↓z_Tst, ↓z_Not, ↓z_Chain, ↓z_AndV, ↓z_OrV, ↓z_NotV, ↓z_And, ↓z_Or, ↓z_If, ↓z_Next, ↓z_Seq, ↓z_Break, ↓z_Cont, ↓z_Exp, ↓z_Ret, ↓z_RetN, ↓z_IfS, ↓z_Nm, ↓z_Tp, ↓z_GN, ↓z_GC, ↓z_Asg, ↓z_ONil, ↓z_OCons, ↓z_SetIx, ↓z_Call, ↓z_Sq, ↓z_Rev, ↓z_For, ↓z_Wh, ↓z_Lc, ↓z_Lc2, ↓z_All, ↓z_All2, ↓z_Yes, ↓z_CB, ↓z_Isi, ↓z_Neg, ↓z_NoP, ↓z_Prt, ↓z_Sl, ↓z_App, ↓z_Pop, ↓z_VK, ↓z_VKs, ↓z_Eq, ↓z_InL, ↓z_InK, ↓z_InT, ↓z_In1, ↓z_In2, ↓z_In3, ↓z_In4, ↓z_IxS, ↓z_Ix1, ↓z_Ix2, ↓z_Ix3, ↓z_Ix4, ↓z_Ix5, ↓z_put1, ↓z_put2, ↓z_put3, ↓z_Len, ↓z_TupC, ↓z_LstC, ↓z_Repr, ↓z_NewD, ↓z_DisK, ↓z_DisT, ↓z_Get1, ↓z_Get2, ↓z_get2K, ↓z_get2T, ↓z_fin, ↓z_Rng1, ↓z_Rng2, ↓rng1F_i, ↓rng2F_i, ↓z_Enm, ↓z_EnmA, ↓enmAF_l, ↓enmAF_t, ↓enmF_l, ↓z_Zip, ↓zipF_l, ↓zipF_t, ↓z_Par, ↓parF_r, ↓z_Par3, ↓par3F_r, ↓z_Never, ↓z_NevE, ↓z_getK, ↓z_getT, ↓z_AddI, ↓z_AddT, ↓z_AddO, ↓z_AddS, ↓z_MulI, ↓z_MulT, ↓z_LtI, ↓z_LtT, ↓z_IsN, ↓z_IntI, ↓z_SlT, ↓z_SlL, ↓z_SlO, ↓z_SlS, ↓z_Sub, ↓z_Mod, ↓z_Div, ↓z_Pow, ↓z_Le, ↓z_Gt, ↓z_Ge, ↓z_II, ↓varF_v, ↓varF_l, ↓mvF_o, ↓mvF_v, ↓mvF_s, ndF_some, ifB_t, ifB_f, con, sl, frzS, isB, tuO_t, daO, sqO_l, sqO_t, sqO_o, sqO_s, lsO, lenO_K, lenO_T, lenO_o, lenO_l, lenO_t, lenO_s, ngO, consO, argO, varsO, wrB, untag, owL, tyS, tyD_n, tyD_b, tyD_i, tyD_s, tyD_l, tyD_t, tyD_d, entryE, tagA, backA, wipeE, backE, keepS, seqD_l, seqD_t, seqV_l, seqV_t, liD_l, kyS, ksS, keyD_i, keyD_s, keysD, ixS, tupD_t, isDic, isT, eq_self, isNone_n, isNone_i, isNone_t, isNone_l, isNone_b, isNone_s, isNone_o, need_some, atI_0, atI_1, atI_2, atI_3, ixN_30, ixN_31, ixN_32, eqv_int, eqv_str, Int.toNat_natCast, List.getElem?_cons_zero, List.getElem?_cons_succ, List.getElem?_nil, List.set_cons_zero, List.set_cons_succ, List.length_cons, List.length_nil, Option.join_some, Option.join_none, List.replicate_succ, List.replicate_zero, List.cons_append, List.nil_append, Option.map_some, Nat.zero_add, Nat.reduceAdd, Nat.reduceSub, Bool.not_true, Bool.not_false, if_true, if_false, Bool.false_eq_true, true_and, and_true, decide_true, decide_false, Nat.reduceLeDiff, Nat.reduceEqDiff, reduceIte, reduceCtorEq, Bool.or_false, Bool.or_true, Bool.and_true, Bool.and_false, Bool.true_and, Bool.false_and, Bool.true_or, Bool.false_or, List.map_cons, List.map_nil, List.nodup_cons, List.nodup_nil, List.mem_cons, List.not_mem_nil, not_false_eq_true, or_false, false_or, seqV_S, seqV_R]
  exact h
theorem drop_get {α : Type} {xs : List α} {i : Nat} {x : α} (h : xs[i]? = some x) : xs.drop i = x :: xs.drop (i + 1) := by
  obtain ⟨h1, h2⟩ := List.getElem?_eq_some_iff.mp h
  rw [List.drop_eq_getElem_cons h1, h2]
theorem sp_lrun {m : Sk} {w : List Nat} {Q : Slot → List Slot → Prop} {X : Value → Prop} (hm : Mach m) (hw : ∀ a ∈ w, a < m.L) (hl : w.length ≤ 600)
    (h : ∀ as : List D, Q (.own none (.lst [.int (runS m 0 w : Nat), .list as])) [.val (.tuple (m.rows.map eR)), .val (eN w)]) : fs__law_run [.val (.tuple (m.rows.map eR)), .val (eN w)] Q X := by
  have := hm.n1
  refine ⟨rfl, ?_⟩
  unfold w__law_run
  simp -dsimp only [↓z_K, ↓z_VarO, ↓z_Var, ↓z_Move, ↓z_Of, ↓z_Fz, ↓z_Res, ↓z_VNil, ↓z_VCons, ↓z_Tup, ↓z_Lst, ↓z_Op2, ↓z_Tst, ↓z_Not, ↓z_Chain, ↓z_AndV, ↓z_OrV, ↓z_NotV, ↓z_And, ↓z_Or, ↓z_If, ↓z_Next, ↓z_Seq, ↓z_Break, ↓z_Cont, ↓z_Exp, ↓z_Ret, ↓z_RetN, ↓z_IfS, ↓z_Nm, ↓z_Tp, ↓z_GN, ↓z_GC, ↓z_Asg, ↓z_ONil, ↓z_OCons, ↓z_SetIx, ↓z_Call, ↓z_Sq, ↓z_Rev, ↓z_For, ↓z_Wh, ↓z_Lc, ↓z_Lc2, ↓z_All, ↓z_All2, ↓z_Yes, ↓z_CB, ↓z_Isi, ↓z_Neg, ↓z_NoP, ↓z_Prt, ↓z_Sl, ↓z_App, ↓z_Pop, ↓z_VK, ↓z_VKs, ↓z_Eq, ↓z_InL, ↓z_InK, ↓z_InT, ↓z_In1, ↓z_In2, ↓z_In3, ↓z_In4, ↓z_IxS, ↓z_Ix1, ↓z_Ix2, ↓z_Ix3, ↓z_Ix4, ↓z_Ix5, ↓z_put1, ↓z_put2, ↓z_put3, ↓z_Len, ↓z_TupC, ↓z_LstC, ↓z_Repr, ↓z_NewD, ↓z_DisK, ↓z_DisT, ↓z_Get1, ↓z_Get2, ↓z_get2K, ↓z_get2T, ↓z_fin, ↓z_Rng1, ↓z_Rng2, ↓rng1F_i, ↓rng2F_i, ↓z_Enm, ↓z_EnmA, ↓enmAF_l, ↓enmAF_t, ↓enmF_l, ↓z_Zip, ↓zipF_l, ↓zipF_t, ↓z_Par, ↓parF_r, ↓z_Par3, ↓par3F_r, ↓z_Never, ↓z_NevE, ↓z_getK, ↓z_getT, ↓z_AddI, ↓z_AddT, ↓z_AddO, ↓z_AddS, ↓z_MulI, ↓z_MulT, ↓z_LtI, ↓z_LtT, ↓z_IsN, ↓z_IntI, ↓z_SlT, ↓z_SlL, ↓z_SlO, ↓z_SlS, ↓z_Sub, ↓z_Mod, ↓z_Div, ↓z_Pow, ↓z_Le, ↓z_Gt, ↓z_Ge, ↓z_II, ↓varF_v, ↓varF_l, ↓mvF_o, ↓mvF_v, ↓mvF_s, ndF_some, ifB_t, ifB_f, con, sl, frzS, isB, tuO_t, daO, sqO_l, sqO_t, sqO_o, sqO_s, lsO, lenO_K, lenO_T, lenO_o, lenO_l, lenO_t, lenO_s, ngO, consO, argO, varsO, wrB, untag, owL, tyS, tyD_n, tyD_b, tyD_i, tyD_s, tyD_l, tyD_t, tyD_d, entryE, tagA, backA, wipeE, backE, keepS, seqD_l, seqD_t, seqV_l, seqV_t, liD_l, kyS, ksS, keyD_i, keyD_s, keysD, ixS, tupD_t, isDic, isT, eq_self, isNone_n, isNone_i, isNone_t, isNone_l, isNone_b, isNone_s, isNone_o, need_some, atI_0, atI_1, atI_2, atI_3, ixN_30, ixN_31, ixN_32, eqv_int, eqv_str, Int.toNat_natCast, List.getElem?_cons_zero, List.getElem?_cons_succ, List.getElem?_nil, List.set_cons_zero, List.set_cons_succ, List.length_cons, List.length_nil, Option.join_some, Option.join_none, List.replicate_succ, List.replicate_zero, List.cons_append, List.nil_append, Option.map_some, Nat.zero_add, Nat.reduceAdd, Nat.reduceSub, Bool.not_true, Bool.not_false, if_true, if_false, Bool.false_eq_true, true_and, and_true, decide_true, decide_false, Nat.reduceLeDiff, Nat.reduceEqDiff, reduceIte, reduceCtorEq, Bool.or_false, Bool.or_true, Bool.and_true, Bool.and_false, Bool.true_and, Bool.false_and, Bool.true_or, Bool.false_or, List.map_cons, List.map_nil, List.nodup_cons, List.nodup_nil, List.mem_cons, List.not_mem_nil, not_false_eq_true, or_false, false_or, seqV_S, seqV_R, eN]
  refine ⟨Nat.zero_le _, ?_⟩
  refine for_inv (fun i e => ∃ (s : Nat) (as : List D) (x4 x5 : Option Slot), e = [some (.val (.tuple (m.rows.map eR))), some (.val (eN w)), some (.val (.int s)), some (.own none (.lst as)), x4, x5] ∧ runS m s (w.drop i) = runS m 0 w ∧ s < m.rows.length ∧ as.length = i)
    ⟨0, [], _, _, rfl, rfl, by omega, rfl⟩ ?_ ?_
  · rintro i d e N hd ⟨s, as, x4, x5, rfl, hr, hs, ha⟩ hN
    rw [List.getElem?_map, Option.map_eq_some_iff] at hd
    obtain ⟨l, hx, rfl⟩ := hd
    have hi := getElem?_lt' hx
    have hlL := hw l (List.mem_of_getElem? hx)
    obtain ⟨r, t, a, k1, k2, k3, k4, k5⟩ := hm.ent_at hs hlL
    rw [drop_get hx] at hr
    simp only [runS, k3] at hr
    unfold w__law_run_b1
    simp -dsimp only [↓z_K, ↓z_VarO, ↓z_Var, ↓z_Move, ↓z_Of, ↓z_Fz, ↓z_Res, ↓z_VNil, ↓z_VCons, ↓z_Tup, ↓z_Lst, ↓z_Op2, ↓z_Tst, ↓z_Not, ↓z_Chain, ↓z_AndV, ↓z_OrV, ↓z_NotV, ↓z_And, ↓z_Or, ↓z_If, ↓z_Next, ↓z_Seq, ↓z_Break, ↓z_Cont, ↓z_Exp, ↓z_Ret, ↓z_RetN, ↓z_IfS, ↓z_Nm, ↓z_Tp, ↓z_GN, ↓z_GC, ↓z_Asg, ↓z_ONil, ↓z_OCons, ↓z_SetIx, ↓z_Call, ↓z_Sq, ↓z_Rev, ↓z_For, ↓z_Wh, ↓z_Lc, ↓z_Lc2, ↓z_All, ↓z_All2, ↓z_Yes, ↓z_CB, ↓z_Isi, ↓z_Neg, ↓z_NoP, ↓z_Prt, ↓z_Sl, ↓z_App, ↓z_Pop, ↓z_VK, ↓z_VKs, ↓z_Eq, ↓z_InL, ↓z_InK, ↓z_InT, ↓z_In1, ↓z_In2, ↓z_In3, ↓z_In4, ↓z_IxS, ↓z_Ix1, ↓z_Ix2, ↓z_Ix3, ↓z_Ix4, ↓z_Ix5, ↓z_put1, ↓z_put2, ↓z_put3, ↓z_Len, ↓z_TupC, ↓z_LstC, ↓z_Repr, ↓z_NewD, ↓z_DisK, ↓z_DisT, ↓z_Get1, ↓z_Get2, ↓z_get2K, ↓z_get2T, ↓z_fin, ↓z_Rng1, ↓z_Rng2, ↓rng1F_i, ↓rng2F_i, ↓z_Enm, ↓z_EnmA, ↓enmAF_l, ↓enmAF_t, ↓enmF_l, ↓z_Zip, ↓zipF_l, ↓zipF_t, ↓z_Par, ↓parF_r, ↓z_Par3, ↓par3F_r, ↓z_Never, ↓z_NevE, ↓z_getK, ↓z_getT, ↓z_AddI, ↓z_AddT, ↓z_AddO, ↓z_AddS, ↓z_MulI, ↓z_MulT, ↓z_LtI, ↓z_LtT, ↓z_IsN, ↓z_IntI, ↓z_SlT, ↓z_SlL, ↓z_SlO, ↓z_SlS, ↓z_Sub, ↓z_Mod, ↓z_Div, ↓z_Pow, ↓z_Le, ↓z_Gt, ↓z_Ge, ↓z_II, ↓varF_v, ↓varF_l, ↓mvF_o, ↓mvF_v, ↓mvF_s, ndF_some, ifB_t, ifB_f, con, sl, frzS, isB, tuO_t, daO, sqO_l, sqO_t, sqO_o, sqO_s, lsO, lenO_K, lenO_T, lenO_o, lenO_l, lenO_t, lenO_s, ngO, consO, argO, varsO, wrB, untag, owL, tyS, tyD_n, tyD_b, tyD_i, tyD_s, tyD_l, tyD_t, tyD_d, entryE, tagA, backA, wipeE, backE, keepS, seqD_l, seqD_t, seqV_l, seqV_t, liD_l, kyS, ksS, keyD_i, keyD_s, keysD, ixS, tupD_t, isDic, isT, eq_self, isNone_n, isNone_i, isNone_t, isNone_l, isNone_b, isNone_s, isNone_o, need_some, atI_0, atI_1, atI_2, atI_3, ixN_30, ixN_31, ixN_32, eqv_int, eqv_str, Int.toNat_natCast, List.getElem?_cons_zero, List.getElem?_cons_succ, List.getElem?_nil, List.set_cons_zero, List.set_cons_succ, List.length_cons, List.length_nil, Option.join_some, Option.join_none, List.replicate_succ, List.replicate_zero, List.cons_append, List.nil_append, Option.map_some, Nat.zero_add, Nat.reduceAdd, Nat.reduceSub, Bool.not_true, Bool.not_false, if_true, if_false, Bool.false_eq_true, true_and, and_true, decide_true, decide_false, Nat.reduceLeDiff, Nat.reduceEqDiff, reduceIte, reduceCtorEq, Bool.or_false, Bool.or_true, Bool.and_true, Bool.and_false, Bool.true_and, Bool.false_and, Bool.true_or, Bool.false_or, List.map_cons, List.map_nil, List.nodup_cons, List.nodup_nil, List.mem_cons, List.not_mem_nil, not_false_eq_true, or_false, false_or, seqV_S, seqV_R, k1, k2, eR]
    exact ⟨szlt (by omega), hN _ ⟨t, _, _, _, rfl, hr, k4, by simp [ha]⟩⟩
  · rintro e ⟨s, as, x4, x5, rfl, hr, hs, ha⟩
    rw [List.length_map, List.drop_length, runS] at hr
    subst hr
    simp -dsimp only [↓z_K, ↓z_VarO, ↓z_Var, ↓z_Move, ↓z_Of, ↓z_Fz, ↓z_Res, ↓z_VNil, ↓z_VCons, ↓z_Tup, ↓z_Lst, ↓z_Op2, ↓z_Tst, ↓z_Not, ↓z_Chain, ↓z_AndV, ↓z_OrV, ↓z_NotV, ↓z_And, ↓z_Or, ↓z_If, ↓z_Next, ↓z_Seq, ↓z_Break, ↓z_Cont, ↓z_Exp, ↓z_Ret, ↓z_RetN, ↓z_IfS, ↓z_Nm, ↓z_Tp, ↓z_GN, ↓z_GC, ↓z_Asg, ↓z_ONil, ↓z_OCons, ↓z_SetIx, ↓z_Call, ↓z_Sq, ↓z_Rev, ↓z_For, ↓z_Wh, ↓z_Lc, ↓z_Lc2, ↓z_All, ↓z_All2, ↓z_Yes, ↓z_CB, ↓z_Isi, ↓z_Neg, ↓z_NoP, ↓z_Prt, ↓z_Sl, ↓z_App, ↓z_Pop, ↓z_VK, ↓z_VKs, ↓z_Eq, ↓z_InL, ↓z_InK, ↓z_InT, ↓z_In1, ↓z_In2, ↓z_In3, ↓z_In4, ↓z_IxS, ↓z_Ix1, ↓z_Ix2, ↓z_Ix3, ↓z_Ix4, ↓z_Ix5, ↓z_put1, ↓z_put2, ↓z_put3, ↓z_Len, ↓z_TupC, ↓z_LstC, ↓z_Repr, ↓z_NewD, ↓z_DisK, ↓z_DisT, ↓z_Get1, ↓z_Get2, ↓z_get2K, ↓z_get2T, ↓z_fin, ↓z_Rng1, ↓z_Rng2, ↓rng1F_i, ↓rng2F_i, ↓z_Enm, ↓z_EnmA, ↓enmAF_l, ↓enmAF_t, ↓enmF_l, ↓z_Zip, ↓zipF_l, ↓zipF_t, ↓z_Par, ↓parF_r, ↓z_Par3, ↓par3F_r, ↓z_Never, ↓z_NevE, ↓z_getK, ↓z_getT, ↓z_AddI, ↓z_AddT, ↓z_AddO, ↓z_AddS, ↓z_MulI, ↓z_MulT, ↓z_LtI, ↓z_LtT, ↓z_IsN, ↓z_IntI, ↓z_SlT, ↓z_SlL, ↓z_SlO, ↓z_SlS, ↓z_Sub, ↓z_Mod, ↓z_Div, ↓z_Pow, ↓z_Le, ↓z_Gt, ↓z_Ge, ↓z_II, ↓varF_v, ↓varF_l, ↓mvF_o, ↓mvF_v, ↓mvF_s, ndF_some, ifB_t, ifB_f, con, sl, frzS, isB, tuO_t, daO, sqO_l, sqO_t, sqO_o, sqO_s, lsO, lenO_K, lenO_T, lenO_o, lenO_l, lenO_t, lenO_s, ngO, consO, argO, varsO, wrB, untag, owL, tyS, tyD_n, tyD_b, tyD_i, tyD_s, tyD_l, tyD_t, tyD_d, entryE, tagA, backA, wipeE, backE, keepS, seqD_l, seqD_t, seqV_l, seqV_t, liD_l, kyS, ksS, keyD_i, keyD_s, keysD, ixS, tupD_t, isDic, isT, eq_self, isNone_n, isNone_i, isNone_t, isNone_l, isNone_b, isNone_s, isNone_o, need_some, atI_0, atI_1, atI_2, atI_3, ixN_30, ixN_31, ixN_32, eqv_int, eqv_str, Int.toNat_natCast, List.getElem?_cons_zero, List.getElem?_cons_succ, List.getElem?_nil, List.set_cons_zero, List.set_cons_succ, List.length_cons, List.length_nil, Option.join_some, Option.join_none, List.replicate_succ, List.replicate_zero, List.cons_append, List.nil_append, Option.map_some, Nat.zero_add, Nat.reduceAdd, Nat.reduceSub, Bool.not_true, Bool.not_false, if_true, if_false, Bool.false_eq_true, true_and, and_true, decide_true, decide_false, Nat.reduceLeDiff, Nat.reduceEqDiff, reduceIte, reduceCtorEq, Bool.or_false, Bool.or_true, Bool.and_true, Bool.and_false, Bool.true_and, Bool.false_and, Bool.true_or, Bool.false_or, List.map_cons, List.map_nil, List.nodup_cons, List.nodup_nil, List.mem_cons, List.not_mem_nil, not_false_eq_true, or_false, false_or, seqV_S, seqV_R]
    exact ⟨sz2, h as⟩
theorem sp_run_from {m : Sk} {w : List Nat} {Q : Slot → List Slot → Prop} {X : Value → Prop} (hm : Mach m) (hw : ∀ a ∈ w, a < m.L) (hl : w.length ≤ 600)
    (h : ∀ as : List D, Q (.val (.tuple [.tuple as, .int (runS m 0 w : Nat)])) [.val (eS m), .val (.int 0), .val (eN w)]) : fs_run_from [.val (eS m), .val (.int 0), .val (eN w)] Q X := by
  have := hm.n1
  refine ⟨rfl, ?_⟩
  unfold w_run_from
  simp -dsimp only [↓z_K, ↓z_VarO, ↓z_Var, ↓z_Move, ↓z_Of, ↓z_Fz, ↓z_Res, ↓z_VNil, ↓z_VCons, ↓z_Tup, ↓z_Lst, ↓z_Op2, ↓z_Tst, ↓z_Not, ↓z_Chain, ↓z_AndV, ↓z_OrV, ↓z_NotV, ↓z_And, ↓z_Or, ↓z_If, ↓z_Next, ↓z_Seq, ↓z_Break, ↓z_Cont, ↓z_Exp, ↓z_Ret, ↓z_RetN, ↓z_IfS, ↓z_Nm, ↓z_Tp, ↓z_GN, ↓z_GC, ↓z_Asg, ↓z_ONil, ↓z_OCons, ↓z_SetIx, ↓z_Call, ↓z_Sq, ↓z_Rev, ↓z_For, ↓z_Wh, ↓z_Lc, ↓z_Lc2, ↓z_All, ↓z_All2, ↓z_Yes, ↓z_CB, ↓z_Isi, ↓z_Neg, ↓z_NoP, ↓z_Prt, ↓z_Sl, ↓z_App, ↓z_Pop, ↓z_VK, ↓z_VKs, ↓z_Eq, ↓z_InL, ↓z_InK, ↓z_InT, ↓z_In1, ↓z_In2, ↓z_In3, ↓z_In4, ↓z_IxS, ↓z_Ix1, ↓z_Ix2, ↓z_Ix3, ↓z_Ix4, ↓z_Ix5, ↓z_put1, ↓z_put2, ↓z_put3, ↓z_Len, ↓z_TupC, ↓z_LstC, ↓z_Repr, ↓z_NewD, ↓z_DisK, ↓z_DisT, ↓z_Get1, ↓z_Get2, ↓z_get2K, ↓z_get2T, ↓z_fin, ↓z_Rng1, ↓z_Rng2, ↓rng1F_i, ↓rng2F_i, ↓z_Enm, ↓z_EnmA, ↓enmAF_l, ↓enmAF_t, ↓enmF_l, ↓z_Zip, ↓zipF_l, ↓zipF_t, ↓z_Par, ↓parF_r, ↓z_Par3, ↓par3F_r, ↓z_Never, ↓z_NevE, ↓z_getK, ↓z_getT, ↓z_AddI, ↓z_AddT, ↓z_AddO, ↓z_AddS, ↓z_MulI, ↓z_MulT, ↓z_LtI, ↓z_LtT, ↓z_IsN, ↓z_IntI, ↓z_SlT, ↓z_SlL, ↓z_SlO, ↓z_SlS, ↓z_Sub, ↓z_Mod, ↓z_Div, ↓z_Pow, ↓z_Le, ↓z_Gt, ↓z_Ge, ↓z_II, ↓varF_v, ↓varF_l, ↓mvF_o, ↓mvF_v, ↓mvF_s, ndF_some, ifB_t, ifB_f, con, sl, frzS, isB, tuO_t, daO, sqO_l, sqO_t, sqO_o, sqO_s, lsO, lenO_K, lenO_T, lenO_o, lenO_l, lenO_t, lenO_s, ngO, consO, argO, varsO, wrB, untag, owL, tyS, tyD_n, tyD_b, tyD_i, tyD_s, tyD_l, tyD_t, tyD_d, entryE, tagA, backA, wipeE, backE, keepS, seqD_l, seqD_t, seqV_l, seqV_t, liD_l, kyS, ksS, keyD_i, keyD_s, keysD, ixS, tupD_t, isDic, isT, eq_self, isNone_n, isNone_i, isNone_t, isNone_l, isNone_b, isNone_s, isNone_o, need_some, atI_0, atI_1, atI_2, atI_3, ixN_30, ixN_31, ixN_32, eqv_int, eqv_str, Int.toNat_natCast, List.getElem?_cons_zero, List.getElem?_cons_succ, List.getElem?_nil, List.set_cons_zero, List.set_cons_succ, List.length_cons, List.length_nil, Option.join_some, Option.join_none, List.replicate_succ, List.replicate_zero, List.cons_append, List.nil_append, Option.map_some, Nat.zero_add, Nat.reduceAdd, Nat.reduceSub, Bool.not_true, Bool.not_false, if_true, if_false, Bool.false_eq_true, true_and, and_true, decide_true, decide_false, Nat.reduceLeDiff, Nat.reduceEqDiff, reduceIte, reduceCtorEq, Bool.or_false, Bool.or_true, Bool.and_true, Bool.and_false, Bool.true_and, Bool.false_and, Bool.true_or, Bool.false_or, List.map_cons, List.map_nil, List.nodup_cons, List.nodup_nil, List.mem_cons, List.not_mem_nil, not_false_eq_true, or_false, false_or, seqV_S, seqV_R, eN]
  refine ⟨Nat.zero_le _, ?_⟩
  refine for_inv (fun i e => ∃ (s : Nat) (as : List D) (x4 x5 : Option Slot), e = [some (.val (eS m)), some (.val (.int s)), some (.val (eN w)), some (.own none (.lst as)), some (.val (.tuple (m.rows.map eR))), x4, x5] ∧ runS m s (w.drop i) = runS m 0 w ∧ s < m.rows.length ∧ as.length = i)
    ⟨0, [], _, _, rfl, rfl, by omega, rfl⟩ ?_ ?_
  · rintro i d e N hd ⟨s, as, x4, x5, rfl, hr, hs, ha⟩ hN
    rw [List.getElem?_map, Option.map_eq_some_iff] at hd
    obtain ⟨l, hx, rfl⟩ := hd
    have hi := getElem?_lt' hx
    have hlL := hw l (List.mem_of_getElem? hx)
    obtain ⟨r, t, a, k1, k2, k3, k4, k5⟩ := hm.ent_at hs hlL
    rw [drop_get hx] at hr
    simp only [runS, k3] at hr
    unfold w_run_from_b1
    simp -dsimp only [↓z_K, ↓z_VarO, ↓z_Var, ↓z_Move, ↓z_Of, ↓z_Fz, ↓z_Res, ↓z_VNil, ↓z_VCons, ↓z_Tup, ↓z_Lst, ↓z_Op2, ↓z_Tst, ↓z_Not, ↓z_Chain, ↓z_AndV, ↓z_OrV, ↓z_NotV, ↓z_And, ↓z_Or, ↓z_If, ↓z_Next, ↓z_Seq, ↓z_Break, ↓z_Cont, ↓z_Exp, ↓z_Ret, ↓z_RetN, ↓z_IfS, ↓z_Nm, ↓z_Tp, ↓z_GN, ↓z_GC, ↓z_Asg, ↓z_ONil, ↓z_OCons, ↓z_SetIx, ↓z_Call, ↓z_Sq, ↓z_Rev, ↓z_For, ↓z_Wh, ↓z_Lc, ↓z_Lc2, ↓z_All, ↓z_All2, ↓z_Yes, ↓z_CB, ↓z_Isi, ↓z_Neg, ↓z_NoP, ↓z_Prt, ↓z_Sl, ↓z_App, ↓z_Pop, ↓z_VK, ↓z_VKs, ↓z_Eq, ↓z_InL, ↓z_InK, ↓z_InT, ↓z_In1, ↓z_In2, ↓z_In3, ↓z_In4, ↓z_IxS, ↓z_Ix1, ↓z_Ix2, ↓z_Ix3, ↓z_Ix4, ↓z_Ix5, ↓z_put1, ↓z_put2, ↓z_put3, ↓z_Len, ↓z_TupC, ↓z_LstC, ↓z_Repr, ↓z_NewD, ↓z_DisK, ↓z_DisT, ↓z_Get1, ↓z_Get2, ↓z_get2K, ↓z_get2T, ↓z_fin, ↓z_Rng1, ↓z_Rng2, ↓rng1F_i, ↓rng2F_i, ↓z_Enm, ↓z_EnmA, ↓enmAF_l, ↓enmAF_t, ↓enmF_l, ↓z_Zip, ↓zipF_l, ↓zipF_t, ↓z_Par, ↓parF_r, ↓z_Par3, ↓par3F_r, ↓z_Never, ↓z_NevE, ↓z_getK, ↓z_getT, ↓z_AddI, ↓z_AddT, ↓z_AddO, ↓z_AddS, ↓z_MulI, ↓z_MulT, ↓z_LtI, ↓z_LtT, ↓z_IsN, ↓z_IntI, ↓z_SlT, ↓z_SlL, ↓z_SlO, ↓z_SlS, ↓z_Sub, ↓z_Mod, ↓z_Div, ↓z_Pow, ↓z_Le, ↓z_Gt, ↓z_Ge, ↓z_II, ↓varF_v, ↓varF_l, ↓mvF_o, ↓mvF_v, ↓mvF_s, ndF_some, ifB_t, ifB_f, con, sl, frzS, isB, tuO_t, daO, sqO_l, sqO_t, sqO_o, sqO_s, lsO, lenO_K, lenO_T, lenO_o, lenO_l, lenO_t, lenO_s, ngO, consO, argO, varsO, wrB, untag, owL, tyS, tyD_n, tyD_b, tyD_i, tyD_s, tyD_l, tyD_t, tyD_d, entryE, tagA, backA, wipeE, backE, keepS, seqD_l, seqD_t, seqV_l, seqV_t, liD_l, kyS, ksS, keyD_i, keyD_s, keysD, ixS, tupD_t, isDic, isT, eq_self, isNone_n, isNone_i, isNone_t, isNone_l, isNone_b, isNone_s, isNone_o, need_some, atI_0, atI_1, atI_2, atI_3, ixN_30, ixN_31, ixN_32, eqv_int, eqv_str, Int.toNat_natCast, List.getElem?_cons_zero, List.getElem?_cons_succ, List.getElem?_nil, List.set_cons_zero, List.set_cons_succ, List.length_cons, List.length_nil, Option.join_some, Option.join_none, List.replicate_succ, List.replicate_zero, List.cons_append, List.nil_append, Option.map_some, Nat.zero_add, Nat.reduceAdd, Nat.reduceSub, Bool.not_true, Bool.not_false, if_true, if_false, Bool.false_eq_true, true_and, and_true, decide_true, decide_false, Nat.reduceLeDiff, Nat.reduceEqDiff, reduceIte, reduceCtorEq, Bool.or_false, Bool.or_true, Bool.and_true, Bool.and_false, Bool.true_and, Bool.false_and, Bool.true_or, Bool.false_or, List.map_cons, List.map_nil, List.nodup_cons, List.nodup_nil, List.mem_cons, List.not_mem_nil, not_false_eq_true, or_false, false_or, seqV_S, seqV_R, k1, k2, eR]
    exact ⟨szlt (by omega), hN _ ⟨t, _, _, _, rfl, hr, k4, by simp [ha]⟩⟩
  · rintro e ⟨s, as, x4, x5, rfl, hr, hs, ha⟩
    rw [List.length_map, List.drop_length, runS] at hr
    subst hr
    simp -dsimp only [↓z_K, ↓z_VarO, ↓z_Var, ↓z_Move, ↓z_Of, ↓z_Fz, ↓z_Res, ↓z_VNil, ↓z_VCons, ↓z_Tup, ↓z_Lst, ↓z_Op2, ↓z_Tst, ↓z_Not, ↓z_Chain, ↓z_AndV, ↓z_OrV, ↓z_NotV, ↓z_And, ↓z_Or, ↓z_If, ↓z_Next, ↓z_Seq, ↓z_Break, ↓z_Cont, ↓z_Exp, ↓z_Ret, ↓z_RetN, ↓z_IfS, ↓z_Nm, ↓z_Tp, ↓z_GN, ↓z_GC, ↓z_Asg, ↓z_ONil, ↓z_OCons, ↓z_SetIx, ↓z_Call, ↓z_Sq, ↓z_Rev, ↓z_For, ↓z_Wh, ↓z_Lc, ↓z_Lc2, ↓z_All, ↓z_All2, ↓z_Yes, ↓z_CB, ↓z_Isi, ↓z_Neg, ↓z_NoP, ↓z_Prt, ↓z_Sl, ↓z_App, ↓z_Pop, ↓z_VK, ↓z_VKs, ↓z_Eq, ↓z_InL, ↓z_InK, ↓z_InT, ↓z_In1, ↓z_In2, ↓z_In3, ↓z_In4, ↓z_IxS, ↓z_Ix1, ↓z_Ix2, ↓z_Ix3, ↓z_Ix4, ↓z_Ix5, ↓z_put1, ↓z_put2, ↓z_put3, ↓z_Len, ↓z_TupC, ↓z_LstC, ↓z_Repr, ↓z_NewD, ↓z_DisK, ↓z_DisT, ↓z_Get1, ↓z_Get2, ↓z_get2K, ↓z_get2T, ↓z_fin, ↓z_Rng1, ↓z_Rng2, ↓rng1F_i, ↓rng2F_i, ↓z_Enm, ↓z_EnmA, ↓enmAF_l, ↓enmAF_t, ↓enmF_l, ↓z_Zip, ↓zipF_l, ↓zipF_t, ↓z_Par, ↓parF_r, ↓z_Par3, ↓par3F_r, ↓z_Never, ↓z_NevE, ↓z_getK, ↓z_getT, ↓z_AddI, ↓z_AddT, ↓z_AddO, ↓z_AddS, ↓z_MulI, ↓z_MulT, ↓z_LtI, ↓z_LtT, ↓z_IsN, ↓z_IntI, ↓z_SlT, ↓z_SlL, ↓z_SlO, ↓z_SlS, ↓z_Sub, ↓z_Mod, ↓z_Div, ↓z_Pow, ↓z_Le, ↓z_Gt, ↓z_Ge, ↓z_II, ↓varF_v, ↓varF_l, ↓mvF_o, ↓mvF_v, ↓mvF_s, ndF_some, ifB_t, ifB_f, con, sl, frzS, isB, tuO_t, daO, sqO_l, sqO_t, sqO_o, sqO_s, lsO, lenO_K, lenO_T, lenO_o, lenO_l, lenO_t, lenO_s, ngO, consO, argO, varsO, wrB, untag, owL, tyS, tyD_n, tyD_b, tyD_i, tyD_s, tyD_l, tyD_t, tyD_d, entryE, tagA, backA, wipeE, backE, keepS, seqD_l, seqD_t, seqV_l, seqV_t, liD_l, kyS, ksS, keyD_i, keyD_s, keysD, ixS, tupD_t, isDic, isT, eq_self, isNone_n, isNone_i, isNone_t, isNone_l, isNone_b, isNone_s, isNone_o, need_some, atI_0, atI_1, atI_2, atI_3, ixN_30, ixN_31, ixN_32, eqv_int, eqv_str, Int.toNat_natCast, List.getElem?_cons_zero, List.getElem?_cons_succ, List.getElem?_nil, List.set_cons_zero, List.set_cons_succ, List.length_cons, List.length_nil, Option.join_some, Option.join_none, List.replicate_succ, List.replicate_zero, List.cons_append, List.nil_append, Option.map_some, Nat.zero_add, Nat.reduceAdd, Nat.reduceSub, Bool.not_true, Bool.not_false, if_true, if_false, Bool.false_eq_true, true_and, and_true, decide_true, decide_false, Nat.reduceLeDiff, Nat.reduceEqDiff, reduceIte, reduceCtorEq, Bool.or_false, Bool.or_true, Bool.and_true, Bool.and_false, Bool.true_and, Bool.false_and, Bool.true_or, Bool.false_or, List.map_cons, List.map_nil, List.nodup_cons, List.nodup_nil, List.mem_cons, List.not_mem_nil, not_false_eq_true, or_false, false_or, seqV_S, seqV_R]
    exact ⟨sz2, h as⟩
theorem sp_state_from {m : Sk} {w : List Nat} {Q : Slot → List Slot → Prop} {X : Value → Prop} (hm : Mach m) (hw : ∀ a ∈ w, a < m.L) (hl : w.length ≤ 600)
    (h : Q (.val (.int (runS m 0 w : Nat))) [.val (eS m), .val (.int 0), .val (eN w)]) : fs_state_from [.val (eS m), .val (.int 0), .val (eN w)] Q X := by
  refine ⟨rfl, ?_⟩
  unfold w_state_from
  simp -dsimp only [↓z_K, ↓z_VarO, ↓z_Var, ↓z_Move, ↓z_Of, ↓z_Fz, ↓z_Res, ↓z_VNil, ↓z_VCons, ↓z_Tup, ↓z_Lst, ↓z_Op2, ↓z_Tst, ↓z_Not, ↓z_Chain, ↓z_AndV, ↓z_OrV, ↓z_NotV, ↓z_And, ↓z_Or, ↓z_If, ↓z_Next, ↓z_Seq, ↓z_Break, ↓z_Cont, ↓z_Exp, ↓z_Ret, ↓z_RetN, ↓z_IfS, ↓z_Nm, ↓z_Tp, ↓z_GN, ↓z_GC, ↓z_Asg, ↓z_ONil, ↓z_OCons, ↓z_SetIx, ↓z_Call, ↓z_Sq, ↓z_Rev, ↓z_For, ↓z_Wh, ↓z_Lc, ↓z_Lc2, ↓z_All, ↓z_All2, ↓z_Yes, ↓z_CB, ↓z_Isi, ↓z_Neg, ↓z_NoP, ↓z_Prt, ↓z_Sl, ↓z_App, ↓z_Pop, ↓z_VK, ↓z_VKs, ↓z_Eq, ↓z_InL, ↓z_InK, ↓z_InT, ↓z_In1, ↓z_In2, ↓z_In3, ↓z_In4, ↓z_IxS, ↓z_Ix1, ↓z_Ix2, ↓z_Ix3, ↓z_Ix4, ↓z_Ix5, ↓z_put1, ↓z_put2, ↓z_put3, ↓z_Len, ↓z_TupC, ↓z_LstC, ↓z_Repr, ↓z_NewD, ↓z_DisK, ↓z_DisT, ↓z_Get1, ↓z_Get2, ↓z_get2K, ↓z_get2T, ↓z_fin, ↓z_Rng1, ↓z_Rng2, ↓rng1F_i, ↓rng2F_i, ↓z_Enm, ↓z_EnmA, ↓enmAF_l, ↓enmAF_t, ↓enmF_l, ↓z_Zip, ↓zipF_l, ↓zipF_t, ↓z_Par, ↓parF_r, ↓z_Par3, ↓par3F_r, ↓z_Never, ↓z_NevE, ↓z_getK, ↓z_getT, ↓z_AddI, ↓z_AddT, ↓z_AddO, ↓z_AddS, ↓z_MulI, ↓z_MulT, ↓z_LtI, ↓z_LtT, ↓z_IsN, ↓z_IntI, ↓z_SlT, ↓z_SlL, ↓z_SlO, ↓z_SlS, ↓z_Sub, ↓z_Mod, ↓z_Div, ↓z_Pow, ↓z_Le, ↓z_Gt, ↓z_Ge, ↓z_II, ↓varF_v, ↓varF_l, ↓mvF_o, ↓mvF_v, ↓mvF_s, ndF_some, ifB_t, ifB_f, con, sl, frzS, isB, tuO_t, daO, sqO_l, sqO_t, sqO_o, sqO_s, lsO, lenO_K, lenO_T, lenO_o, lenO_l, lenO_t, lenO_s, ngO, consO, argO, varsO, wrB, untag, owL, tyS, tyD_n, tyD_b, tyD_i, tyD_s, tyD_l, tyD_t, tyD_d, entryE, tagA, backA, wipeE, backE, keepS, seqD_l, seqD_t, seqV_l, seqV_t, liD_l, kyS, ksS, keyD_i, keyD_s, keysD, ixS, tupD_t, isDic, isT, eq_self, isNone_n, isNone_i, isNone_t, isNone_l, isNone_b, isNone_s, isNone_o, need_some, atI_0, atI_1, atI_2, atI_3, ixN_30, ixN_31, ixN_32, eqv_int, eqv_str, Int.toNat_natCast, List.getElem?_cons_zero, List.getElem?_cons_succ, List.getElem?_nil, List.set_cons_zero, List.set_cons_succ, List.length_cons, List.length_nil, Option.join_some, Option.join_none, List.replicate_succ, List.replicate_zero, List.cons_append, List.nil_append, Option.map_some, Nat.zero_add, Nat.reduceAdd, Nat.reduceSub, Bool.not_true, Bool.not_false, if_true, if_false, Bool.false_eq_true, true_and, and_true, decide_true, decide_false, Nat.reduceLeDiff, Nat.reduceEqDiff, reduceIte, reduceCtorEq, Bool.or_false, Bool.or_true, Bool.and_true, Bool.and_false, Bool.true_and, Bool.false_and, Bool.true_or, Bool.false_or, List.map_cons, List.map_nil, List.nodup_cons, List.nodup_nil, List.mem_cons, List.not_mem_nil, not_false_eq_true, or_false, false_or, seqV_S, seqV_R]
  refine sp_run_from hm hw hl fun as => ?_
  simp -dsimp only [↓z_K, ↓z_VarO, ↓z_Var, ↓z_Move, ↓z_Of, ↓z_Fz, ↓z_Res, ↓z_VNil, ↓z_VCons, ↓z_Tup, ↓z_Lst, ↓z_Op2, ↓z_Tst, ↓z_Not, ↓z_Chain, ↓z_AndV, ↓z_OrV, ↓z_NotV, ↓z_And, ↓z_Or, ↓z_If, ↓z_Next, ↓z_Seq, ↓z_Break, ↓z_Cont, ↓z_Exp, ↓z_Ret, ↓z_RetN, ↓z_IfS, ↓z_Nm, ↓z_Tp, ↓z_GN, ↓z_GC, ↓z_Asg, ↓z_ONil, ↓z_OCons, ↓z_SetIx, ↓z_Call, ↓z_Sq, ↓z_Rev, ↓z_For, ↓z_Wh, ↓z_Lc, ↓z_Lc2, ↓z_All, ↓z_All2, ↓z_Yes, ↓z_CB, ↓z_Isi, ↓z_Neg, ↓z_NoP, ↓z_Prt, ↓z_Sl, ↓z_App, ↓z_Pop, ↓z_VK, ↓z_VKs, ↓z_Eq, ↓z_InL, ↓z_InK, ↓z_InT, ↓z_In1, ↓z_In2, ↓z_In3, ↓z_In4, ↓z_IxS, ↓z_Ix1, ↓z_Ix2, ↓z_Ix3, ↓z_Ix4, ↓z_Ix5, ↓z_put1, ↓z_put2, ↓z_put3, ↓z_Len, ↓z_TupC, ↓z_LstC, ↓z_Repr, ↓z_NewD, ↓z_DisK, ↓z_DisT, ↓z_Get1, ↓z_Get2, ↓z_get2K, ↓z_get2T, ↓z_fin, ↓z_Rng1, ↓z_Rng2, ↓rng1F_i, ↓rng2F_i, ↓z_Enm, ↓z_EnmA, ↓enmAF_l, ↓enmAF_t, ↓enmF_l, ↓z_Zip, ↓zipF_l, ↓zipF_t, ↓z_Par, ↓parF_r, ↓z_Par3, ↓par3F_r, ↓z_Never, ↓z_NevE, ↓z_getK, ↓z_getT, ↓z_AddI, ↓z_AddT, ↓z_AddO, ↓z_AddS, ↓z_MulI, ↓z_MulT, ↓z_LtI, ↓z_LtT, ↓z_IsN, ↓z_IntI, ↓z_SlT, ↓z_SlL, ↓z_SlO, ↓z_SlS, ↓z_Sub, ↓z_Mod, ↓z_Div, ↓z_Pow, ↓z_Le, ↓z_Gt, ↓z_Ge, ↓z_II, ↓varF_v, ↓varF_l, ↓mvF_o, ↓mvF_v, ↓mvF_s, ndF_some, ifB_t, ifB_f, con, sl, frzS, isB, tuO_t, daO, sqO_l, sqO_t, sqO_o, sqO_s, lsO, lenO_K, lenO_T, lenO_o, lenO_l, lenO_t, lenO_s, ngO, consO, argO, varsO, wrB, untag, owL, tyS, tyD_n, tyD_b, tyD_i, tyD_s, tyD_l, tyD_t, tyD_d, entryE, tagA, backA, wipeE, backE, keepS, seqD_l, seqD_t, seqV_l, seqV_t, liD_l, kyS, ksS, keyD_i, keyD_s, keysD, ixS, tupD_t, isDic, isT, eq_self, isNone_n, isNone_i, isNone_t, isNone_l, isNone_b, isNone_s, isNone_o, need_some, atI_0, atI_1, atI_2, atI_3, ixN_30, ixN_31, ixN_32, eqv_int, eqv_str, Int.toNat_natCast, List.getElem?_cons_zero, List.getElem?_cons_succ, List.getElem?_nil, List.set_cons_zero, List.set_cons_succ, List.length_cons, List.length_nil, Option.join_some, Option.join_none, List.replicate_succ, List.replicate_zero, List.cons_append, List.nil_append, Option.map_some, Nat.zero_add, Nat.reduceAdd, Nat.reduceSub, Bool.not_true, Bool.not_false, if_true, if_false, Bool.false_eq_true, true_and, and_true, decide_true, decide_false, Nat.reduceLeDiff, Nat.reduceEqDiff, reduceIte, reduceCtorEq, Bool.or_false, Bool.or_true, Bool.and_true, Bool.and_false, Bool.true_and, Bool.false_and, Bool.true_or, Bool.false_or, List.map_cons, List.map_nil, List.nodup_cons, List.nodup_nil, List.mem_cons, List.not_mem_nil, not_false_eq_true, or_false, false_or, seqV_S, seqV_R]
  exact h
theorem sp_word_form {L : Nat} {w : List Nat} {Q : Slot → List Slot → Prop} {X : Value → Prop} (hw : ∀ a ∈ w, a < L) (hl : w.length ≤ 600)
    (h : Q (.val (.bool true)) [.val (.int L), .val (eN w)]) : fs_is_word_form [.val (.int L), .val (eN w)] Q X := by
  refine ⟨rfl, ?_⟩
  unfold w_is_word_form
  simp -dsimp only [↓z_K, ↓z_VarO, ↓z_Var, ↓z_Move, ↓z_Of, ↓z_Fz, ↓z_Res, ↓z_VNil, ↓z_VCons, ↓z_Tup, ↓z_Lst, ↓z_Op2, ↓z_Tst, ↓z_Not, ↓z_Chain, ↓z_AndV, ↓z_OrV, ↓z_NotV, ↓z_And, ↓z_Or, ↓z_If, ↓z_Next, ↓z_Seq, ↓z_Break, ↓z_Cont, ↓z_Exp, ↓z_Ret, ↓z_RetN, ↓z_IfS, ↓z_Nm, ↓z_Tp, ↓z_GN, ↓z_GC, ↓z_Asg, ↓z_ONil, ↓z_OCons, ↓z_SetIx, ↓z_Call, ↓z_Sq, ↓z_Rev, ↓z_For, ↓z_Wh, ↓z_Lc, ↓z_Lc2, ↓z_All, ↓z_All2, ↓z_Yes, ↓z_CB, ↓z_Isi, ↓z_Neg, ↓z_NoP, ↓z_Prt, ↓z_Sl, ↓z_App, ↓z_Pop, ↓z_VK, ↓z_VKs, ↓z_Eq, ↓z_InL, ↓z_InK, ↓z_InT, ↓z_In1, ↓z_In2, ↓z_In3, ↓z_In4, ↓z_IxS, ↓z_Ix1, ↓z_Ix2, ↓z_Ix3, ↓z_Ix4, ↓z_Ix5, ↓z_put1, ↓z_put2, ↓z_put3, ↓z_Len, ↓z_TupC, ↓z_LstC, ↓z_Repr, ↓z_NewD, ↓z_DisK, ↓z_DisT, ↓z_Get1, ↓z_Get2, ↓z_get2K, ↓z_get2T, ↓z_fin, ↓z_Rng1, ↓z_Rng2, ↓rng1F_i, ↓rng2F_i, ↓z_Enm, ↓z_EnmA, ↓enmAF_l, ↓enmAF_t, ↓enmF_l, ↓z_Zip, ↓zipF_l, ↓zipF_t, ↓z_Par, ↓parF_r, ↓z_Par3, ↓par3F_r, ↓z_Never, ↓z_NevE, ↓z_getK, ↓z_getT, ↓z_AddI, ↓z_AddT, ↓z_AddO, ↓z_AddS, ↓z_MulI, ↓z_MulT, ↓z_LtI, ↓z_LtT, ↓z_IsN, ↓z_IntI, ↓z_SlT, ↓z_SlL, ↓z_SlO, ↓z_SlS, ↓z_Sub, ↓z_Mod, ↓z_Div, ↓z_Pow, ↓z_Le, ↓z_Gt, ↓z_Ge, ↓z_II, ↓varF_v, ↓varF_l, ↓mvF_o, ↓mvF_v, ↓mvF_s, ndF_some, ifB_t, ifB_f, con, sl, frzS, isB, tuO_t, daO, sqO_l, sqO_t, sqO_o, sqO_s, lsO, lenO_K, lenO_T, lenO_o, lenO_l, lenO_t, lenO_s, ngO, consO, argO, varsO, wrB, untag, owL, tyS, tyD_n, tyD_b, tyD_i, tyD_s, tyD_l, tyD_t, tyD_d, entryE, tagA, backA, wipeE, backE, keepS, seqD_l, seqD_t, seqV_l, seqV_t, liD_l, kyS, ksS, keyD_i, keyD_s, keysD, ixS, tupD_t, isDic, isT, eq_self, isNone_n, isNone_i, isNone_t, isNone_l, isNone_b, isNone_s, isNone_o, need_some, atI_0, atI_1, atI_2, atI_3, ixN_30, ixN_31, ixN_32, eqv_int, eqv_str, Int.toNat_natCast, List.getElem?_cons_zero, List.getElem?_cons_succ, List.getElem?_nil, List.set_cons_zero, List.set_cons_succ, List.length_cons, List.length_nil, Option.join_some, Option.join_none, List.replicate_succ, List.replicate_zero, List.cons_append, List.nil_append, Option.map_some, Nat.zero_add, Nat.reduceAdd, Nat.reduceSub, Bool.not_true, Bool.not_false, if_true, if_false, Bool.false_eq_true, true_and, and_true, decide_true, decide_false, Nat.reduceLeDiff, Nat.reduceEqDiff, reduceIte, reduceCtorEq, Bool.or_false, Bool.or_true, Bool.and_true, Bool.and_false, Bool.true_and, Bool.false_and, Bool.true_or, Bool.false_or, List.map_cons, List.map_nil, List.nodup_cons, List.nodup_nil, List.mem_cons, List.not_mem_nil, not_false_eq_true, or_false, false_or, seqV_S, seqV_R]
  refine sp_tuple_of ?_
  have e1 : tupB (.tuple (w.map fun n => PyData.int (n : Nat))) 0 600 = true := by simp [tupB]; omega
  simp -dsimp only [↓z_K, ↓z_VarO, ↓z_Var, ↓z_Move, ↓z_Of, ↓z_Fz, ↓z_Res, ↓z_VNil, ↓z_VCons, ↓z_Tup, ↓z_Lst, ↓z_Op2, ↓z_Tst, ↓z_Not, ↓z_Chain, ↓z_AndV, ↓z_OrV, ↓z_NotV, ↓z_And, ↓z_Or, ↓z_If, ↓z_Next, ↓z_Seq, ↓z_Break, ↓z_Cont, ↓z_Exp, ↓z_Ret, ↓z_RetN, ↓z_IfS, ↓z_Nm, ↓z_Tp, ↓z_GN, ↓z_GC, ↓z_Asg, ↓z_ONil, ↓z_OCons, ↓z_SetIx, ↓z_Call, ↓z_Sq, ↓z_Rev, ↓z_For, ↓z_Wh, ↓z_Lc, ↓z_Lc2, ↓z_All, ↓z_All2, ↓z_Yes, ↓z_CB, ↓z_Isi, ↓z_Neg, ↓z_NoP, ↓z_Prt, ↓z_Sl, ↓z_App, ↓z_Pop, ↓z_VK, ↓z_VKs, ↓z_Eq, ↓z_InL, ↓z_InK, ↓z_InT, ↓z_In1, ↓z_In2, ↓z_In3, ↓z_In4, ↓z_IxS, ↓z_Ix1, ↓z_Ix2, ↓z_Ix3, ↓z_Ix4, ↓z_Ix5, ↓z_put1, ↓z_put2, ↓z_put3, ↓z_Len, ↓z_TupC, ↓z_LstC, ↓z_Repr, ↓z_NewD, ↓z_DisK, ↓z_DisT, ↓z_Get1, ↓z_Get2, ↓z_get2K, ↓z_get2T, ↓z_fin, ↓z_Rng1, ↓z_Rng2, ↓rng1F_i, ↓rng2F_i, ↓z_Enm, ↓z_EnmA, ↓enmAF_l, ↓enmAF_t, ↓enmF_l, ↓z_Zip, ↓zipF_l, ↓zipF_t, ↓z_Par, ↓parF_r, ↓z_Par3, ↓par3F_r, ↓z_Never, ↓z_NevE, ↓z_getK, ↓z_getT, ↓z_AddI, ↓z_AddT, ↓z_AddO, ↓z_AddS, ↓z_MulI, ↓z_MulT, ↓z_LtI, ↓z_LtT, ↓z_IsN, ↓z_IntI, ↓z_SlT, ↓z_SlL, ↓z_SlO, ↓z_SlS, ↓z_Sub, ↓z_Mod, ↓z_Div, ↓z_Pow, ↓z_Le, ↓z_Gt, ↓z_Ge, ↓z_II, ↓varF_v, ↓varF_l, ↓mvF_o, ↓mvF_v, ↓mvF_s, ndF_some, ifB_t, ifB_f, con, sl, frzS, isB, tuO_t, daO, sqO_l, sqO_t, sqO_o, sqO_s, lsO, lenO_K, lenO_T, lenO_o, lenO_l, lenO_t, lenO_s, ngO, consO, argO, varsO, wrB, untag, owL, tyS, tyD_n, tyD_b, tyD_i, tyD_s, tyD_l, tyD_t, tyD_d, entryE, tagA, backA, wipeE, backE, keepS, seqD_l, seqD_t, seqV_l, seqV_t, liD_l, kyS, ksS, keyD_i, keyD_s, keysD, ixS, tupD_t, isDic, isT, eq_self, isNone_n, isNone_i, isNone_t, isNone_l, isNone_b, isNone_s, isNone_o, need_some, atI_0, atI_1, atI_2, atI_3, ixN_30, ixN_31, ixN_32, eqv_int, eqv_str, Int.toNat_natCast, List.getElem?_cons_zero, List.getElem?_cons_succ, List.getElem?_nil, List.set_cons_zero, List.set_cons_succ, List.length_cons, List.length_nil, Option.join_some, Option.join_none, List.replicate_succ, List.replicate_zero, List.cons_append, List.nil_append, Option.map_some, Nat.zero_add, Nat.reduceAdd, Nat.reduceSub, Bool.not_true, Bool.not_false, if_true, if_false, Bool.false_eq_true, true_and, and_true, decide_true, decide_false, Nat.reduceLeDiff, Nat.reduceEqDiff, reduceIte, reduceCtorEq, Bool.or_false, Bool.or_true, Bool.and_true, Bool.and_false, Bool.true_and, Bool.false_and, Bool.true_or, Bool.false_or, List.map_cons, List.map_nil, List.nodup_cons, List.nodup_nil, List.mem_cons, List.not_mem_nil, not_false_eq_true, or_false, false_or, seqV_S, seqV_R, eN, e1]
  refine al_inv (fun j e => ∃ x2, e = [some (.val (.int L)), some (.val (eN w)), x2]) ⟨_, rfl⟩ ?_ ?_
  · rintro j d e N2 hd2 ⟨x2, rfl⟩ hN2
    rw [List.getElem?_map, Option.map_eq_some_iff] at hd2
    obtain ⟨l, hx, rfl⟩ := hd2
    have hlL := hw l (List.mem_of_getElem? hx)
    unfold w_is_word_form_g1
    simp -dsimp only [↓z_K, ↓z_VarO, ↓z_Var, ↓z_Move, ↓z_Of, ↓z_Fz, ↓z_Res, ↓z_VNil, ↓z_VCons, ↓z_Tup, ↓z_Lst, ↓z_Op2, ↓z_Tst, ↓z_Not, ↓z_Chain, ↓z_AndV, ↓z_OrV, ↓z_NotV, ↓z_And, ↓z_Or, ↓z_If, ↓z_Next, ↓z_Seq, ↓z_Break, ↓z_Cont, ↓z_Exp, ↓z_Ret, ↓z_RetN, ↓z_IfS, ↓z_Nm, ↓z_Tp, ↓z_GN, ↓z_GC, ↓z_Asg, ↓z_ONil, ↓z_OCons, ↓z_SetIx, ↓z_Call, ↓z_Sq, ↓z_Rev, ↓z_For, ↓z_Wh, ↓z_Lc, ↓z_Lc2, ↓z_All, ↓z_All2, ↓z_Yes, ↓z_CB, ↓z_Isi, ↓z_Neg, ↓z_NoP, ↓z_Prt, ↓z_Sl, ↓z_App, ↓z_Pop, ↓z_VK, ↓z_VKs, ↓z_Eq, ↓z_InL, ↓z_InK, ↓z_InT, ↓z_In1, ↓z_In2, ↓z_In3, ↓z_In4, ↓z_IxS, ↓z_Ix1, ↓z_Ix2, ↓z_Ix3, ↓z_Ix4, ↓z_Ix5, ↓z_put1, ↓z_put2, ↓z_put3, ↓z_Len, ↓z_TupC, ↓z_LstC, ↓z_Repr, ↓z_NewD, ↓z_DisK, ↓z_DisT, ↓z_Get1, ↓z_Get2, ↓z_get2K, ↓z_get2T, ↓z_fin, ↓z_Rng1, ↓z_Rng2, ↓rng1F_i, ↓rng2F_i, ↓z_Enm, ↓z_EnmA, ↓enmAF_l, ↓enmAF_t, ↓enmF_l, ↓z_Zip, ↓zipF_l, ↓zipF_t, ↓z_Par, ↓parF_r, ↓z_Par3, ↓par3F_r, ↓z_Never, ↓z_NevE, ↓z_getK, ↓z_getT, ↓z_AddI, ↓z_AddT, ↓z_AddO, ↓z_AddS, ↓z_MulI, ↓z_MulT, ↓z_LtI, ↓z_LtT, ↓z_IsN, ↓z_IntI, ↓z_SlT, ↓z_SlL, ↓z_SlO, ↓z_SlS, ↓z_Sub, ↓z_Mod, ↓z_Div, ↓z_Pow, ↓z_Le, ↓z_Gt, ↓z_Ge, ↓z_II, ↓varF_v, ↓varF_l, ↓mvF_o, ↓mvF_v, ↓mvF_s, ndF_some, ifB_t, ifB_f, con, sl, frzS, isB, tuO_t, daO, sqO_l, sqO_t, sqO_o, sqO_s, lsO, lenO_K, lenO_T, lenO_o, lenO_l, lenO_t, lenO_s, ngO, consO, argO, varsO, wrB, untag, owL, tyS, tyD_n, tyD_b, tyD_i, tyD_s, tyD_l, tyD_t, tyD_d, entryE, tagA, backA, wipeE, backE, keepS, seqD_l, seqD_t, seqV_l, seqV_t, liD_l, kyS, ksS, keyD_i, keyD_s, keysD, ixS, tupD_t, isDic, isT, eq_self, isNone_n, isNone_i, isNone_t, isNone_l, isNone_b, isNone_s, isNone_o, need_some, atI_0, atI_1, atI_2, atI_3, ixN_30, ixN_31, ixN_32, eqv_int, eqv_str, Int.toNat_natCast, List.getElem?_cons_zero, List.getElem?_cons_succ, List.getElem?_nil, List.set_cons_zero, List.set_cons_succ, List.length_cons, List.length_nil, Option.join_some, Option.join_none, List.replicate_succ, List.replicate_zero, List.cons_append, List.nil_append, Option.map_some, Nat.zero_add, Nat.reduceAdd, Nat.reduceSub, Bool.not_true, Bool.not_false, if_true, if_false, Bool.false_eq_true, true_and, and_true, decide_true, decide_false, Nat.reduceLeDiff, Nat.reduceEqDiff, reduceIte, reduceCtorEq, Bool.or_false, Bool.or_true, Bool.and_true, Bool.and_false, Bool.true_and, Bool.false_and, Bool.true_or, Bool.false_or, List.map_cons, List.map_nil, List.nodup_cons, List.nodup_nil, List.mem_cons, List.not_mem_nil, not_false_eq_true, or_false, false_or, seqV_S, seqV_R]
    refine sp_within ?_
    simp -dsimp only [↓z_K, ↓z_VarO, ↓z_Var, ↓z_Move, ↓z_Of, ↓z_Fz, ↓z_Res, ↓z_VNil, ↓z_VCons, ↓z_Tup, ↓z_Lst, ↓z_Op2, ↓z_Tst, ↓z_Not, ↓z_Chain, ↓z_AndV, ↓z_OrV, ↓z_NotV, ↓z_And, ↓z_Or, ↓z_If, ↓z_Next, ↓z_Seq, ↓z_Break, ↓z_Cont, ↓z_Exp, ↓z_Ret, ↓z_RetN, ↓z_IfS, ↓z_Nm, ↓z_Tp, ↓z_GN, ↓z_GC, ↓z_Asg, ↓z_ONil, ↓z_OCons, ↓z_SetIx, ↓z_Call, ↓z_Sq, ↓z_Rev, ↓z_For, ↓z_Wh, ↓z_Lc, ↓z_Lc2, ↓z_All, ↓z_All2, ↓z_Yes, ↓z_CB, ↓z_Isi, ↓z_Neg, ↓z_NoP, ↓z_Prt, ↓z_Sl, ↓z_App, ↓z_Pop, ↓z_VK, ↓z_VKs, ↓z_Eq, ↓z_InL, ↓z_InK, ↓z_InT, ↓z_In1, ↓z_In2, ↓z_In3, ↓z_In4, ↓z_IxS, ↓z_Ix1, ↓z_Ix2, ↓z_Ix3, ↓z_Ix4, ↓z_Ix5, ↓z_put1, ↓z_put2, ↓z_put3, ↓z_Len, ↓z_TupC, ↓z_LstC, ↓z_Repr, ↓z_NewD, ↓z_DisK, ↓z_DisT, ↓z_Get1, ↓z_Get2, ↓z_get2K, ↓z_get2T, ↓z_fin, ↓z_Rng1, ↓z_Rng2, ↓rng1F_i, ↓rng2F_i, ↓z_Enm, ↓z_EnmA, ↓enmAF_l, ↓enmAF_t, ↓enmF_l, ↓z_Zip, ↓zipF_l, ↓zipF_t, ↓z_Par, ↓parF_r, ↓z_Par3, ↓par3F_r, ↓z_Never, ↓z_NevE, ↓z_getK, ↓z_getT, ↓z_AddI, ↓z_AddT, ↓z_AddO, ↓z_AddS, ↓z_MulI, ↓z_MulT, ↓z_LtI, ↓z_LtT, ↓z_IsN, ↓z_IntI, ↓z_SlT, ↓z_SlL, ↓z_SlO, ↓z_SlS, ↓z_Sub, ↓z_Mod, ↓z_Div, ↓z_Pow, ↓z_Le, ↓z_Gt, ↓z_Ge, ↓z_II, ↓varF_v, ↓varF_l, ↓mvF_o, ↓mvF_v, ↓mvF_s, ndF_some, ifB_t, ifB_f, con, sl, frzS, isB, tuO_t, daO, sqO_l, sqO_t, sqO_o, sqO_s, lsO, lenO_K, lenO_T, lenO_o, lenO_l, lenO_t, lenO_s, ngO, consO, argO, varsO, wrB, untag, owL, tyS, tyD_n, tyD_b, tyD_i, tyD_s, tyD_l, tyD_t, tyD_d, entryE, tagA, backA, wipeE, backE, keepS, seqD_l, seqD_t, seqV_l, seqV_t, liD_l, kyS, ksS, keyD_i, keyD_s, keysD, ixS, tupD_t, isDic, isT, eq_self, isNone_n, isNone_i, isNone_t, isNone_l, isNone_b, isNone_s, isNone_o, need_some, atI_0, atI_1, atI_2, atI_3, ixN_30, ixN_31, ixN_32, eqv_int, eqv_str, Int.toNat_natCast, List.getElem?_cons_zero, List.getElem?_cons_succ, List.getElem?_nil, List.set_cons_zero, List.set_cons_succ, List.length_cons, List.length_nil, Option.join_some, Option.join_none, List.replicate_succ, List.replicate_zero, List.cons_append, List.nil_append, Option.map_some, Nat.zero_add, Nat.reduceAdd, Nat.reduceSub, Bool.not_true, Bool.not_false, if_true, if_false, Bool.false_eq_true, true_and, and_true, decide_true, decide_false, Nat.reduceLeDiff, Nat.reduceEqDiff, reduceIte, reduceCtorEq, Bool.or_false, Bool.or_true, Bool.and_true, Bool.and_false, Bool.true_and, Bool.false_and, Bool.true_or, Bool.false_or, List.map_cons, List.map_nil, List.nodup_cons, List.nodup_nil, List.mem_cons, List.not_mem_nil, not_false_eq_true, or_false, false_or, seqV_S, seqV_R, within_nat (i := l) (lo := 0) (hi := (L : Int) - 1) (by omega) (by omega)]
    exact hN2 _ ⟨_, rfl⟩
  · rintro e ⟨x2, rfl⟩
    simp -dsimp only [↓z_K, ↓z_VarO, ↓z_Var, ↓z_Move, ↓z_Of, ↓z_Fz, ↓z_Res, ↓z_VNil, ↓z_VCons, ↓z_Tup, ↓z_Lst, ↓z_Op2, ↓z_Tst, ↓z_Not, ↓z_Chain, ↓z_AndV, ↓z_OrV, ↓z_NotV, ↓z_And, ↓z_Or, ↓z_If, ↓z_Next, ↓z_Seq, ↓z_Break, ↓z_Cont, ↓z_Exp, ↓z_Ret, ↓z_RetN, ↓z_IfS, ↓z_Nm, ↓z_Tp, ↓z_GN, ↓z_GC, ↓z_Asg, ↓z_ONil, ↓z_OCons, ↓z_SetIx, ↓z_Call, ↓z_Sq, ↓z_Rev, ↓z_For, ↓z_Wh, ↓z_Lc, ↓z_Lc2, ↓z_All, ↓z_All2, ↓z_Yes, ↓z_CB, ↓z_Isi, ↓z_Neg, ↓z_NoP, ↓z_Prt, ↓z_Sl, ↓z_App, ↓z_Pop, ↓z_VK, ↓z_VKs, ↓z_Eq, ↓z_InL, ↓z_InK, ↓z_InT, ↓z_In1, ↓z_In2, ↓z_In3, ↓z_In4, ↓z_IxS, ↓z_Ix1, ↓z_Ix2, ↓z_Ix3, ↓z_Ix4, ↓z_Ix5, ↓z_put1, ↓z_put2, ↓z_put3, ↓z_Len, ↓z_TupC, ↓z_LstC, ↓z_Repr, ↓z_NewD, ↓z_DisK, ↓z_DisT, ↓z_Get1, ↓z_Get2, ↓z_get2K, ↓z_get2T, ↓z_fin, ↓z_Rng1, ↓z_Rng2, ↓rng1F_i, ↓rng2F_i, ↓z_Enm, ↓z_EnmA, ↓enmAF_l, ↓enmAF_t, ↓enmF_l, ↓z_Zip, ↓zipF_l, ↓zipF_t, ↓z_Par, ↓parF_r, ↓z_Par3, ↓par3F_r, ↓z_Never, ↓z_NevE, ↓z_getK, ↓z_getT, ↓z_AddI, ↓z_AddT, ↓z_AddO, ↓z_AddS, ↓z_MulI, ↓z_MulT, ↓z_LtI, ↓z_LtT, ↓z_IsN, ↓z_IntI, ↓z_SlT, ↓z_SlL, ↓z_SlO, ↓z_SlS, ↓z_Sub, ↓z_Mod, ↓z_Div, ↓z_Pow, ↓z_Le, ↓z_Gt, ↓z_Ge, ↓z_II, ↓varF_v, ↓varF_l, ↓mvF_o, ↓mvF_v, ↓mvF_s, ndF_some, ifB_t, ifB_f, con, sl, frzS, isB, tuO_t, daO, sqO_l, sqO_t, sqO_o, sqO_s, lsO, lenO_K, lenO_T, lenO_o, lenO_l, lenO_t, lenO_s, ngO, consO, argO, varsO, wrB, untag, owL, tyS, tyD_n, tyD_b, tyD_i, tyD_s, tyD_l, tyD_t, tyD_d, entryE, tagA, backA, wipeE, backE, keepS, seqD_l, seqD_t, seqV_l, seqV_t, liD_l, kyS, ksS, keyD_i, keyD_s, keysD, ixS, tupD_t, isDic, isT, eq_self, isNone_n, isNone_i, isNone_t, isNone_l, isNone_b, isNone_s, isNone_o, need_some, atI_0, atI_1, atI_2, atI_3, ixN_30, ixN_31, ixN_32, eqv_int, eqv_str, Int.toNat_natCast, List.getElem?_cons_zero, List.getElem?_cons_succ, List.getElem?_nil, List.set_cons_zero, List.set_cons_succ, List.length_cons, List.length_nil, Option.join_some, Option.join_none, List.replicate_succ, List.replicate_zero, List.cons_append, List.nil_append, Option.map_some, Nat.zero_add, Nat.reduceAdd, Nat.reduceSub, Bool.not_true, Bool.not_false, if_true, if_false, Bool.false_eq_true, true_and, and_true, decide_true, decide_false, Nat.reduceLeDiff, Nat.reduceEqDiff, reduceIte, reduceCtorEq, Bool.or_false, Bool.or_true, Bool.and_true, Bool.and_false, Bool.true_and, Bool.false_and, Bool.true_or, Bool.false_or, List.map_cons, List.map_nil, List.nodup_cons, List.nodup_nil, List.mem_cons, List.not_mem_nil, not_false_eq_true, or_false, false_or, seqV_S, seqV_R]
    exact h
theorem sp_need_word {L : Nat} {w : List Nat} {Q : Slot → List Slot → Prop} {X : Value → Prop} (hw : ∀ a ∈ w, a < L) (hl : w.length ≤ 600)
    (h : Q (.val .none) [.val (.int L), .val (eN w)]) : fs_need_word [.val (.int L), .val (eN w)] Q X := by
  refine ⟨rfl, ?_⟩
  unfold w_need_word
  simp -dsimp only [↓z_K, ↓z_VarO, ↓z_Var, ↓z_Move, ↓z_Of, ↓z_Fz, ↓z_Res, ↓z_VNil, ↓z_VCons, ↓z_Tup, ↓z_Lst, ↓z_Op2, ↓z_Tst, ↓z_Not, ↓z_Chain, ↓z_AndV, ↓z_OrV, ↓z_NotV, ↓z_And, ↓z_Or, ↓z_If, ↓z_Next, ↓z_Seq, ↓z_Break, ↓z_Cont, ↓z_Exp, ↓z_Ret, ↓z_RetN, ↓z_IfS, ↓z_Nm, ↓z_Tp, ↓z_GN, ↓z_GC, ↓z_Asg, ↓z_ONil, ↓z_OCons, ↓z_SetIx, ↓z_Call, ↓z_Sq, ↓z_Rev, ↓z_For, ↓z_Wh, ↓z_Lc, ↓z_Lc2, ↓z_All, ↓z_All2, ↓z_Yes, ↓z_CB, ↓z_Isi, ↓z_Neg, ↓z_NoP, ↓z_Prt, ↓z_Sl, ↓z_App, ↓z_Pop, ↓z_VK, ↓z_VKs, ↓z_Eq, ↓z_InL, ↓z_InK, ↓z_InT, ↓z_In1, ↓z_In2, ↓z_In3, ↓z_In4, ↓z_IxS, ↓z_Ix1, ↓z_Ix2, ↓z_Ix3, ↓z_Ix4, ↓z_Ix5, ↓z_put1, ↓z_put2, ↓z_put3, ↓z_Len, ↓z_TupC, ↓z_LstC, ↓z_Repr, ↓z_NewD, ↓z_DisK, ↓z_DisT, ↓z_Get1, ↓z_Get2, ↓z_get2K, ↓z_get2T, ↓z_fin, ↓z_Rng1, ↓z_Rng2, ↓rng1F_i, ↓rng2F_i, ↓z_Enm, ↓z_EnmA, ↓enmAF_l, ↓enmAF_t, ↓enmF_l, ↓z_Zip, ↓zipF_l, ↓zipF_t, ↓z_Par, ↓parF_r, ↓z_Par3, ↓par3F_r, ↓z_Never, ↓z_NevE, ↓z_getK, ↓z_getT, ↓z_AddI, ↓z_AddT, ↓z_AddO, ↓z_AddS, ↓z_MulI, ↓z_MulT, ↓z_LtI, ↓z_LtT, ↓z_IsN, ↓z_IntI, ↓z_SlT, ↓z_SlL, ↓z_SlO, ↓z_SlS, ↓z_Sub, ↓z_Mod, ↓z_Div, ↓z_Pow, ↓z_Le, ↓z_Gt, ↓z_Ge, ↓z_II, ↓varF_v, ↓varF_l, ↓mvF_o, ↓mvF_v, ↓mvF_s, ndF_some, ifB_t, ifB_f, con, sl, frzS, isB, tuO_t, daO, sqO_l, sqO_t, sqO_o, sqO_s, lsO, lenO_K, lenO_T, lenO_o, lenO_l, lenO_t, lenO_s, ngO, consO, argO, varsO, wrB, untag, owL, tyS, tyD_n, tyD_b, tyD_i, tyD_s, tyD_l, tyD_t, tyD_d, entryE, tagA, backA, wipeE, backE, keepS, seqD_l, seqD_t, seqV_l, seqV_t, liD_l, kyS, ksS, keyD_i, keyD_s, keysD, ixS, tupD_t, isDic, isT, eq_self, isNone_n, isNone_i, isNone_t, isNone_l, isNone_b, isNone_s, isNone_o, need_some, atI_0, atI_1, atI_2, atI_3, ixN_30, ixN_31, ixN_32, eqv_int, eqv_str, Int.toNat_natCast, List.getElem?_cons_zero, List.getElem?_cons_succ, List.getElem?_nil, List.set_cons_zero, List.set_cons_succ, List.length_cons, List.length_nil, Option.join_some, Option.join_none, List.replicate_succ, List.replicate_zero, List.cons_append, List.nil_append, Option.map_some, Nat.zero_add, Nat.reduceAdd, Nat.reduceSub, Bool.not_true, Bool.not_false, if_true, if_false, Bool.false_eq_true, true_and, and_true, decide_true, decide_false, Nat.reduceLeDiff, Nat.reduceEqDiff, reduceIte, reduceCtorEq, Bool.or_false, Bool.or_true, Bool.and_true, Bool.and_false, Bool.true_and, Bool.false_and, Bool.true_or, Bool.false_or, List.map_cons, List.map_nil, List.nodup_cons, List.nodup_nil, List.mem_cons, List.not_mem_nil, not_false_eq_true, or_false, false_or, seqV_S, seqV_R]
  refine sp_word_form hw hl ?_
  simp -dsimp only [↓z_K, ↓z_VarO, ↓z_Var, ↓z_Move, ↓z_Of, ↓z_Fz, ↓z_Res, ↓z_VNil, ↓z_VCons, ↓z_Tup, ↓z_Lst, ↓z_Op2, ↓z_Tst, ↓z_Not, ↓z_Chain, ↓z_AndV, ↓z_OrV, ↓z_NotV, ↓z_And, ↓z_Or, ↓z_If, ↓z_Next, ↓z_Seq, ↓z_Break, ↓z_Cont, ↓z_Exp, ↓z_Ret, ↓z_RetN, ↓z_IfS, ↓z_Nm, ↓z_Tp, ↓z_GN, ↓z_GC, ↓z_Asg, ↓z_ONil, ↓z_OCons, ↓z_SetIx, ↓z_Call, ↓z_Sq, ↓z_Rev, ↓z_For, ↓z_Wh, ↓z_Lc, ↓z_Lc2, ↓z_All, ↓z_All2, ↓z_Yes, ↓z_CB, ↓z_Isi, ↓z_Neg, ↓z_NoP, ↓z_Prt, ↓z_Sl, ↓z_App, ↓z_Pop, ↓z_VK, ↓z_VKs, ↓z_Eq, ↓z_InL, ↓z_InK, ↓z_InT, ↓z_In1, ↓z_In2, ↓z_In3, ↓z_In4, ↓z_IxS, ↓z_Ix1, ↓z_Ix2, ↓z_Ix3, ↓z_Ix4, ↓z_Ix5, ↓z_put1, ↓z_put2, ↓z_put3, ↓z_Len, ↓z_TupC, ↓z_LstC, ↓z_Repr, ↓z_NewD, ↓z_DisK, ↓z_DisT, ↓z_Get1, ↓z_Get2, ↓z_get2K, ↓z_get2T, ↓z_fin, ↓z_Rng1, ↓z_Rng2, ↓rng1F_i, ↓rng2F_i, ↓z_Enm, ↓z_EnmA, ↓enmAF_l, ↓enmAF_t, ↓enmF_l, ↓z_Zip, ↓zipF_l, ↓zipF_t, ↓z_Par, ↓parF_r, ↓z_Par3, ↓par3F_r, ↓z_Never, ↓z_NevE, ↓z_getK, ↓z_getT, ↓z_AddI, ↓z_AddT, ↓z_AddO, ↓z_AddS, ↓z_MulI, ↓z_MulT, ↓z_LtI, ↓z_LtT, ↓z_IsN, ↓z_IntI, ↓z_SlT, ↓z_SlL, ↓z_SlO, ↓z_SlS, ↓z_Sub, ↓z_Mod, ↓z_Div, ↓z_Pow, ↓z_Le, ↓z_Gt, ↓z_Ge, ↓z_II, ↓varF_v, ↓varF_l, ↓mvF_o, ↓mvF_v, ↓mvF_s, ndF_some, ifB_t, ifB_f, con, sl, frzS, isB, tuO_t, daO, sqO_l, sqO_t, sqO_o, sqO_s, lsO, lenO_K, lenO_T, lenO_o, lenO_l, lenO_t, lenO_s, ngO, consO, argO, varsO, wrB, untag, owL, tyS, tyD_n, tyD_b, tyD_i, tyD_s, tyD_l, tyD_t, tyD_d, entryE, tagA, backA, wipeE, backE, keepS, seqD_l, seqD_t, seqV_l, seqV_t, liD_l, kyS, ksS, keyD_i, keyD_s, keysD, ixS, tupD_t, isDic, isT, eq_self, isNone_n, isNone_i, isNone_t, isNone_l, isNone_b, isNone_s, isNone_o, need_some, atI_0, atI_1, atI_2, atI_3, ixN_30, ixN_31, ixN_32, eqv_int, eqv_str, Int.toNat_natCast, List.getElem?_cons_zero, List.getElem?_cons_succ, List.getElem?_nil, List.set_cons_zero, List.set_cons_succ, List.length_cons, List.length_nil, Option.join_some, Option.join_none, List.replicate_succ, List.replicate_zero, List.cons_append, List.nil_append, Option.map_some, Nat.zero_add, Nat.reduceAdd, Nat.reduceSub, Bool.not_true, Bool.not_false, if_true, if_false, Bool.false_eq_true, true_and, and_true, decide_true, decide_false, Nat.reduceLeDiff, Nat.reduceEqDiff, reduceIte, reduceCtorEq, Bool.or_false, Bool.or_true, Bool.and_true, Bool.and_false, Bool.true_and, Bool.false_and, Bool.true_or, Bool.false_or, List.map_cons, List.map_nil, List.nodup_cons, List.nodup_nil, List.mem_cons, List.not_mem_nil, not_false_eq_true, or_false, false_or, seqV_S, seqV_R]
  exact h
theorem sp_behind {m : Sk} {w : List Nat} {Q : Slot → List Slot → Prop} {X : Value → Prop} (hm : Mach m) (hw : ∀ a ∈ w, a < m.L) (hl : w.length ≤ 600)
    (h : Q (.val (.int (runS m 0 w : Nat))) [.val (eS m), .val (eN w)]) : fs_behind [.val (eS m), .val (eN w)] Q X := by
  refine ⟨rfl, ?_⟩
  unfold w_behind
  simp -dsimp only [↓z_K, ↓z_VarO, ↓z_Var, ↓z_Move, ↓z_Of, ↓z_Fz, ↓z_Res, ↓z_VNil, ↓z_VCons, ↓z_Tup, ↓z_Lst, ↓z_Op2, ↓z_Tst, ↓z_Not, ↓z_Chain, ↓z_AndV, ↓z_OrV, ↓z_NotV, ↓z_And, ↓z_Or, ↓z_If, ↓z_Next, ↓z_Seq, ↓z_Break, ↓z_Cont, ↓z_Exp, ↓z_Ret, ↓z_RetN, ↓z_IfS, ↓z_Nm, ↓z_Tp, ↓z_GN, ↓z_GC, ↓z_Asg, ↓z_ONil, ↓z_OCons, ↓z_SetIx, ↓z_Call, ↓z_Sq, ↓z_Rev, ↓z_For, ↓z_Wh, ↓z_Lc, ↓z_Lc2, ↓z_All, ↓z_All2, ↓z_Yes, ↓z_CB, ↓z_Isi, ↓z_Neg, ↓z_NoP, ↓z_Prt, ↓z_Sl, ↓z_App, ↓z_Pop, ↓z_VK, ↓z_VKs, ↓z_Eq, ↓z_InL, ↓z_InK, ↓z_InT, ↓z_In1, ↓z_In2, ↓z_In3, ↓z_In4, ↓z_IxS, ↓z_Ix1, ↓z_Ix2, ↓z_Ix3, ↓z_Ix4, ↓z_Ix5, ↓z_put1, ↓z_put2, ↓z_put3, ↓z_Len, ↓z_TupC, ↓z_LstC, ↓z_Repr, ↓z_NewD, ↓z_DisK, ↓z_DisT, ↓z_Get1, ↓z_Get2, ↓z_get2K, ↓z_get2T, ↓z_fin, ↓z_Rng1, ↓z_Rng2, ↓rng1F_i, ↓rng2F_i, ↓z_Enm, ↓z_EnmA, ↓enmAF_l, ↓enmAF_t, ↓enmF_l, ↓z_Zip, ↓zipF_l, ↓zipF_t, ↓z_Par, ↓parF_r, ↓z_Par3, ↓par3F_r, ↓z_Never, ↓z_NevE, ↓z_getK, ↓z_getT, ↓z_AddI, ↓z_AddT, ↓z_AddO, ↓z_AddS, ↓z_MulI, ↓z_MulT, ↓z_LtI, ↓z_LtT, ↓z_IsN, ↓z_IntI, ↓z_SlT, ↓z_SlL, ↓z_SlO, ↓z_SlS, ↓z_Sub, ↓z_Mod, ↓z_Div, ↓z_Pow, ↓z_Le, ↓z_Gt, ↓z_Ge, ↓z_II, ↓varF_v, ↓varF_l, ↓mvF_o, ↓mvF_v, ↓mvF_s, ndF_some, ifB_t, ifB_f, con, sl, frzS, isB, tuO_t, daO, sqO_l, sqO_t, sqO_o, sqO_s, lsO, lenO_K, lenO_T, lenO_o, lenO_l, lenO_t, lenO_s, ngO, consO, argO, varsO, wrB, untag, owL, tyS, tyD_n, tyD_b, tyD_i, tyD_s, tyD_l, tyD_t, tyD_d, entryE, tagA, backA, wipeE, backE, keepS, seqD_l, seqD_t, seqV_l, seqV_t, liD_l, kyS, ksS, keyD_i, keyD_s, keysD, ixS, tupD_t, isDic, isT, eq_self, isNone_n, isNone_i, isNone_t, isNone_l, isNone_b, isNone_s, isNone_o, need_some, atI_0, atI_1, atI_2, atI_3, ixN_30, ixN_31, ixN_32, eqv_int, eqv_str, Int.toNat_natCast, List.getElem?_cons_zero, List.getElem?_cons_succ, List.getElem?_nil, List.set_cons_zero, List.set_cons_succ, List.length_cons, List.length_nil, Option.join_some, Option.join_none, List.replicate_succ, List.replicate_zero, List.cons_append, List.nil_append, Option.map_some, Nat.zero_add, Nat.reduceAdd, Nat.reduceSub, Bool.not_true, Bool.not_false, if_true, if_false, Bool.false_eq_true, true_and, and_true, decide_true, decide_false, Nat.reduceLeDiff, Nat.reduceEqDiff, reduceIte, reduceCtorEq, Bool.or_false, Bool.or_true, Bool.and_true, Bool.and_false, Bool.true_and, Bool.false_and, Bool.true_or, Bool.false_or, List.map_cons, List.map_nil, List.nodup_cons, List.nodup_nil, List.mem_cons, List.not_mem_nil, not_false_eq_true, or_false, false_or, seqV_S, seqV_R]
  refine sp_need_sketch hm.small ?_
  simp -dsimp only [↓z_K, ↓z_VarO, ↓z_Var, ↓z_Move, ↓z_Of, ↓z_Fz, ↓z_Res, ↓z_VNil, ↓z_VCons, ↓z_Tup, ↓z_Lst, ↓z_Op2, ↓z_Tst, ↓z_Not, ↓z_Chain, ↓z_AndV, ↓z_OrV, ↓z_NotV, ↓z_And, ↓z_Or, ↓z_If, ↓z_Next, ↓z_Seq, ↓z_Break, ↓z_Cont, ↓z_Exp, ↓z_Ret, ↓z_RetN, ↓z_IfS, ↓z_Nm, ↓z_Tp, ↓z_GN, ↓z_GC, ↓z_Asg, ↓z_ONil, ↓z_OCons, ↓z_SetIx, ↓z_Call, ↓z_Sq, ↓z_Rev, ↓z_For, ↓z_Wh, ↓z_Lc, ↓z_Lc2, ↓z_All, ↓z_All2, ↓z_Yes, ↓z_CB, ↓z_Isi, ↓z_Neg, ↓z_NoP, ↓z_Prt, ↓z_Sl, ↓z_App, ↓z_Pop, ↓z_VK, ↓z_VKs, ↓z_Eq, ↓z_InL, ↓z_InK, ↓z_InT, ↓z_In1, ↓z_In2, ↓z_In3, ↓z_In4, ↓z_IxS, ↓z_Ix1, ↓z_Ix2, ↓z_Ix3, ↓z_Ix4, ↓z_Ix5, ↓z_put1, ↓z_put2, ↓z_put3, ↓z_Len, ↓z_TupC, ↓z_LstC, ↓z_Repr, ↓z_NewD, ↓z_DisK, ↓z_DisT, ↓z_Get1, ↓z_Get2, ↓z_get2K, ↓z_get2T, ↓z_fin, ↓z_Rng1, ↓z_Rng2, ↓rng1F_i, ↓rng2F_i, ↓z_Enm, ↓z_EnmA, ↓enmAF_l, ↓enmAF_t, ↓enmF_l, ↓z_Zip, ↓zipF_l, ↓zipF_t, ↓z_Par, ↓parF_r, ↓z_Par3, ↓par3F_r, ↓z_Never, ↓z_NevE, ↓z_getK, ↓z_getT, ↓z_AddI, ↓z_AddT, ↓z_AddO, ↓z_AddS, ↓z_MulI, ↓z_MulT, ↓z_LtI, ↓z_LtT, ↓z_IsN, ↓z_IntI, ↓z_SlT, ↓z_SlL, ↓z_SlO, ↓z_SlS, ↓z_Sub, ↓z_Mod, ↓z_Div, ↓z_Pow, ↓z_Le, ↓z_Gt, ↓z_Ge, ↓z_II, ↓varF_v, ↓varF_l, ↓mvF_o, ↓mvF_v, ↓mvF_s, ndF_some, ifB_t, ifB_f, con, sl, frzS, isB, tuO_t, daO, sqO_l, sqO_t, sqO_o, sqO_s, lsO, lenO_K, lenO_T, lenO_o, lenO_l, lenO_t, lenO_s, ngO, consO, argO, varsO, wrB, untag, owL, tyS, tyD_n, tyD_b, tyD_i, tyD_s, tyD_l, tyD_t, tyD_d, entryE, tagA, backA, wipeE, backE, keepS, seqD_l, seqD_t, seqV_l, seqV_t, liD_l, kyS, ksS, keyD_i, keyD_s, keysD, ixS, tupD_t, isDic, isT, eq_self, isNone_n, isNone_i, isNone_t, isNone_l, isNone_b, isNone_s, isNone_o, need_some, atI_0, atI_1, atI_2, atI_3, ixN_30, ixN_31, ixN_32, eqv_int, eqv_str, Int.toNat_natCast, List.getElem?_cons_zero, List.getElem?_cons_succ, List.getElem?_nil, List.set_cons_zero, List.set_cons_succ, List.length_cons, List.length_nil, Option.join_some, Option.join_none, List.replicate_succ, List.replicate_zero, List.cons_append, List.nil_append, Option.map_some, Nat.zero_add, Nat.reduceAdd, Nat.reduceSub, Bool.not_true, Bool.not_false, if_true, if_false, Bool.false_eq_true, true_and, and_true, decide_true, decide_false, Nat.reduceLeDiff, Nat.reduceEqDiff, reduceIte, reduceCtorEq, Bool.or_false, Bool.or_true, Bool.and_true, Bool.and_false, Bool.true_and, Bool.false_and, Bool.true_or, Bool.false_or, List.map_cons, List.map_nil, List.nodup_cons, List.nodup_nil, List.mem_cons, List.not_mem_nil, not_false_eq_true, or_false, false_or, seqV_S, seqV_R, eS]
  refine sp_need_word hw hl ?_
  simp -dsimp only [↓z_K, ↓z_VarO, ↓z_Var, ↓z_Move, ↓z_Of, ↓z_Fz, ↓z_Res, ↓z_VNil, ↓z_VCons, ↓z_Tup, ↓z_Lst, ↓z_Op2, ↓z_Tst, ↓z_Not, ↓z_Chain, ↓z_AndV, ↓z_OrV, ↓z_NotV, ↓z_And, ↓z_Or, ↓z_If, ↓z_Next, ↓z_Seq, ↓z_Break, ↓z_Cont, ↓z_Exp, ↓z_Ret, ↓z_RetN, ↓z_IfS, ↓z_Nm, ↓z_Tp, ↓z_GN, ↓z_GC, ↓z_Asg, ↓z_ONil, ↓z_OCons, ↓z_SetIx, ↓z_Call, ↓z_Sq, ↓z_Rev, ↓z_For, ↓z_Wh, ↓z_Lc, ↓z_Lc2, ↓z_All, ↓z_All2, ↓z_Yes, ↓z_CB, ↓z_Isi, ↓z_Neg, ↓z_NoP, ↓z_Prt, ↓z_Sl, ↓z_App, ↓z_Pop, ↓z_VK, ↓z_VKs, ↓z_Eq, ↓z_InL, ↓z_InK, ↓z_InT, ↓z_In1, ↓z_In2, ↓z_In3, ↓z_In4, ↓z_IxS, ↓z_Ix1, ↓z_Ix2, ↓z_Ix3, ↓z_Ix4, ↓z_Ix5, ↓z_put1, ↓z_put2, ↓z_put3, ↓z_Len, ↓z_TupC, ↓z_LstC, ↓z_Repr, ↓z_NewD, ↓z_DisK, ↓z_DisT, ↓z_Get1, ↓z_Get2, ↓z_get2K, ↓z_get2T, ↓z_fin, ↓z_Rng1, ↓z_Rng2, ↓rng1F_i, ↓rng2F_i, ↓z_Enm, ↓z_EnmA, ↓enmAF_l, ↓enmAF_t, ↓enmF_l, ↓z_Zip, ↓zipF_l, ↓zipF_t, ↓z_Par, ↓parF_r, ↓z_Par3, ↓par3F_r, ↓z_Never, ↓z_NevE, ↓z_getK, ↓z_getT, ↓z_AddI, ↓z_AddT, ↓z_AddO, ↓z_AddS, ↓z_MulI, ↓z_MulT, ↓z_LtI, ↓z_LtT, ↓z_IsN, ↓z_IntI, ↓z_SlT, ↓z_SlL, ↓z_SlO, ↓z_SlS, ↓z_Sub, ↓z_Mod, ↓z_Div, ↓z_Pow, ↓z_Le, ↓z_Gt, ↓z_Ge, ↓z_II, ↓varF_v, ↓varF_l, ↓mvF_o, ↓mvF_v, ↓mvF_s, ndF_some, ifB_t, ifB_f, con, sl, frzS, isB, tuO_t, daO, sqO_l, sqO_t, sqO_o, sqO_s, lsO, lenO_K, lenO_T, lenO_o, lenO_l, lenO_t, lenO_s, ngO, consO, argO, varsO, wrB, untag, owL, tyS, tyD_n, tyD_b, tyD_i, tyD_s, tyD_l, tyD_t, tyD_d, entryE, tagA, backA, wipeE, backE, keepS, seqD_l, seqD_t, seqV_l, seqV_t, liD_l, kyS, ksS, keyD_i, keyD_s, keysD, ixS, tupD_t, isDic, isT, eq_self, isNone_n, isNone_i, isNone_t, isNone_l, isNone_b, isNone_s, isNone_o, need_some, atI_0, atI_1, atI_2, atI_3, ixN_30, ixN_31, ixN_32, eqv_int, eqv_str, Int.toNat_natCast, List.getElem?_cons_zero, List.getElem?_cons_succ, List.getElem?_nil, List.set_cons_zero, List.set_cons_succ, List.length_cons, List.length_nil, Option.join_some, Option.join_none, List.replicate_succ, List.replicate_zero, List.cons_append, List.nil_append, Option.map_some, Nat.zero_add, Nat.reduceAdd, Nat.reduceSub, Bool.not_true, Bool.not_false, if_true, if_false, Bool.false_eq_true, true_and, and_true, decide_true, decide_false, Nat.reduceLeDiff, Nat.reduceEqDiff, reduceIte, reduceCtorEq, Bool.or_false, Bool.or_true, Bool.and_true, Bool.and_false, Bool.true_and, Bool.false_and, Bool.true_or, Bool.false_or, List.map_cons, List.map_nil, List.nodup_cons, List.nodup_nil, List.mem_cons, List.not_mem_nil, not_false_eq_true, or_false, false_or, seqV_S, seqV_R]
  refine sp_state_from hm hw hl ?_
  simp -dsimp only [↓z_K, ↓z_VarO, ↓z_Var, ↓z_Move, ↓z_Of, ↓z_Fz, ↓z_Res, ↓z_VNil, ↓z_VCons, ↓z_Tup, ↓z_Lst, ↓z_Op2, ↓z_Tst, ↓z_Not, ↓z_Chain, ↓z_AndV, ↓z_OrV, ↓z_NotV, ↓z_And, ↓z_Or, ↓z_If, ↓z_Next, ↓z_Seq, ↓z_Break, ↓z_Cont, ↓z_Exp, ↓z_Ret, ↓z_RetN, ↓z_IfS, ↓z_Nm, ↓z_Tp, ↓z_GN, ↓z_GC, ↓z_Asg, ↓z_ONil, ↓z_OCons, ↓z_SetIx, ↓z_Call, ↓z_Sq, ↓z_Rev, ↓z_For, ↓z_Wh, ↓z_Lc, ↓z_Lc2, ↓z_All, ↓z_All2, ↓z_Yes, ↓z_CB, ↓z_Isi, ↓z_Neg, ↓z_NoP, ↓z_Prt, ↓z_Sl, ↓z_App, ↓z_Pop, ↓z_VK, ↓z_VKs, ↓z_Eq, ↓z_InL, ↓z_InK, ↓z_InT, ↓z_In1, ↓z_In2, ↓z_In3, ↓z_In4, ↓z_IxS, ↓z_Ix1, ↓z_Ix2, ↓z_Ix3, ↓z_Ix4, ↓z_Ix5, ↓z_put1, ↓z_put2, ↓z_put3, ↓z_Len, ↓z_TupC, ↓z_LstC, ↓z_Repr, ↓z_NewD, ↓z_DisK, ↓z_DisT, ↓z_Get1, ↓z_Get2, ↓z_get2K, ↓z_get2T, ↓z_fin, ↓z_Rng1, ↓z_Rng2, ↓rng1F_i, ↓rng2F_i, ↓z_Enm, ↓z_EnmA, ↓enmAF_l, ↓enmAF_t, ↓enmF_l, ↓z_Zip, ↓zipF_l, ↓zipF_t, ↓z_Par, ↓parF_r, ↓z_Par3, ↓par3F_r, ↓z_Never, ↓z_NevE, ↓z_getK, ↓z_getT, ↓z_AddI, ↓z_AddT, ↓z_AddO, ↓z_AddS, ↓z_MulI, ↓z_MulT, ↓z_LtI, ↓z_LtT, ↓z_IsN, ↓z_IntI, ↓z_SlT, ↓z_SlL, ↓z_SlO, ↓z_SlS, ↓z_Sub, ↓z_Mod, ↓z_Div, ↓z_Pow, ↓z_Le, ↓z_Gt, ↓z_Ge, ↓z_II, ↓varF_v, ↓varF_l, ↓mvF_o, ↓mvF_v, ↓mvF_s, ndF_some, ifB_t, ifB_f, con, sl, frzS, isB, tuO_t, daO, sqO_l, sqO_t, sqO_o, sqO_s, lsO, lenO_K, lenO_T, lenO_o, lenO_l, lenO_t, lenO_s, ngO, consO, argO, varsO, wrB, untag, owL, tyS, tyD_n, tyD_b, tyD_i, tyD_s, tyD_l, tyD_t, tyD_d, entryE, tagA, backA, wipeE, backE, keepS, seqD_l, seqD_t, seqV_l, seqV_t, liD_l, kyS, ksS, keyD_i, keyD_s, keysD, ixS, tupD_t, isDic, isT, eq_self, isNone_n, isNone_i, isNone_t, isNone_l, isNone_b, isNone_s, isNone_o, need_some, atI_0, atI_1, atI_2, atI_3, ixN_30, ixN_31, ixN_32, eqv_int, eqv_str, Int.toNat_natCast, List.getElem?_cons_zero, List.getElem?_cons_succ, List.getElem?_nil, List.set_cons_zero, List.set_cons_succ, List.length_cons, List.length_nil, Option.join_some, Option.join_none, List.replicate_succ, List.replicate_zero, List.cons_append, List.nil_append, Option.map_some, Nat.zero_add, Nat.reduceAdd, Nat.reduceSub, Bool.not_true, Bool.not_false, if_true, if_false, Bool.false_eq_true, true_and, and_true, decide_true, decide_false, Nat.reduceLeDiff, Nat.reduceEqDiff, reduceIte, reduceCtorEq, Bool.or_false, Bool.or_true, Bool.and_true, Bool.and_false, Bool.true_and, Bool.false_and, Bool.true_or, Bool.false_or, List.map_cons, List.map_nil, List.nodup_cons, List.nodup_nil, List.mem_cons, List.not_mem_nil, not_false_eq_true, or_false, false_or, seqV_S, seqV_R]
  exact h
abbrev LWw (ws : List (List Nat)) : Option Slot := some (.own none (.lst (ws.map eN)))
abbrev FWw (ws : List (List Nat)) : Option Slot := some (.val (.list (ws.map eN)))
theorem sp_laccess {m : Sk} {Q : Slot → List Slot → Prop} {X : Value → Prop} (hm : Mach m) (h : Q (.val (.tuple ((acc m).map eO))) [.val (eS m)]) : fs__law_access [.val (eS m)] Q X := by
  have := hm.l3; have := hm.n1; have := hm.n12
  refine ⟨rfl, ?_⟩
  unfold w__law_access
  simp -dsimp only [↓z_K, ↓z_VarO, ↓z_Var, ↓z_Move, ↓z_Of, ↓z_Fz, ↓z_Res, ↓z_VNil, ↓z_VCons, ↓z_Tup, ↓z_Lst, ↓z_Op2, ↓z_Tst, ↓z_Not, ↓z_Chain, ↓z_AndV, ↓z_OrV, ↓z_NotV, ↓z_And, ↓z_Or, ↓z_If, ↓z_Next, ↓z_Seq, ↓z_Break, ↓z_Cont, ↓z_Exp, ↓z_Ret, ↓z_RetN, ↓z_IfS, ↓z_Nm, ↓z_Tp, ↓z_GN, ↓z_GC, ↓z_Asg, ↓z_ONil, ↓z_OCons, ↓z_SetIx, ↓z_Call, ↓z_Sq, ↓z_Rev, ↓z_For, ↓z_Wh, ↓z_Lc, ↓z_Lc2, ↓z_All, ↓z_All2, ↓z_Yes, ↓z_CB, ↓z_Isi, ↓z_Neg, ↓z_NoP, ↓z_Prt, ↓z_Sl, ↓z_App, ↓z_Pop, ↓z_VK, ↓z_VKs, ↓z_Eq, ↓z_InL, ↓z_InK, ↓z_InT, ↓z_In1, ↓z_In2, ↓z_In3, ↓z_In4, ↓z_IxS, ↓z_Ix1, ↓z_Ix2, ↓z_Ix3, ↓z_Ix4, ↓z_Ix5, ↓z_put1, ↓z_put2, ↓z_put3, ↓z_Len, ↓z_TupC, ↓z_LstC, ↓z_Repr, ↓z_NewD, ↓z_DisK, ↓z_DisT, ↓z_Get1, ↓z_Get2, ↓z_get2K, ↓z_get2T, ↓z_fin, ↓z_Rng1, ↓z_Rng2, ↓rng1F_i, ↓rng2F_i, ↓z_Enm, ↓z_EnmA, ↓enmAF_l, ↓enmAF_t, ↓enmF_l, ↓z_Zip, ↓zipF_l, ↓zipF_t, ↓z_Par, ↓parF_r, ↓z_Par3, ↓par3F_r, ↓z_Never, ↓z_NevE, ↓z_getK, ↓z_getT, ↓z_AddI, ↓z_AddT, ↓z_AddO, ↓z_AddS, ↓z_MulI, ↓z_MulT, ↓z_LtI, ↓z_LtT, ↓z_IsN, ↓z_IntI, ↓z_SlT, ↓z_SlL, ↓z_SlO, ↓z_SlS, ↓z_Sub, ↓z_Mod, ↓z_Div, ↓z_Pow, ↓z_Le, ↓z_Gt, ↓z_Ge, ↓z_II, ↓varF_v, ↓varF_l, ↓mvF_o, ↓mvF_v, ↓mvF_s, ndF_some, ifB_t, ifB_f, con, sl, frzS, isB, tuO_t, daO, sqO_l, sqO_t, sqO_o, sqO_s, lsO, lenO_K, lenO_T, lenO_o, lenO_l, lenO_t, lenO_s, ngO, consO, argO, varsO, wrB, untag, owL, tyS, tyD_n, tyD_b, tyD_i, tyD_s, tyD_l, tyD_t, tyD_d, entryE, tagA, backA, wipeE, backE, keepS, seqD_l, seqD_t, seqV_l, seqV_t, liD_l, kyS, ksS, keyD_i, keyD_s, keysD, ixS, tupD_t, isDic, isT, eq_self, isNone_n, isNone_i, isNone_t, isNone_l, isNone_b, isNone_s, isNone_o, need_some, atI_0, atI_1, atI_2, atI_3, ixN_30, ixN_31, ixN_32, eqv_int, eqv_str, Int.toNat_natCast, List.getElem?_cons_zero, List.getElem?_cons_succ, List.getElem?_nil, List.set_cons_zero, List.set_cons_succ, List.length_cons, List.length_nil, Option.join_some, Option.join_none, List.replicate_succ, List.replicate_zero, List.cons_append, List.nil_append, Option.map_some, Nat.zero_add, Nat.reduceAdd, Nat.reduceSub, Bool.not_true, Bool.not_false, if_true, if_false, Bool.false_eq_true, true_and, and_true, decide_true, decide_false, Nat.reduceLeDiff, Nat.reduceEqDiff, reduceIte, reduceCtorEq, Bool.or_false, Bool.or_true, Bool.and_true, Bool.and_false, Bool.true_and, Bool.false_and, Bool.true_or, Bool.false_or, List.map_cons, List.map_nil, List.nodup_cons, List.nodup_nil, List.mem_cons, List.not_mem_nil, not_false_eq_true, or_false, false_or, seqV_S, seqV_R, List.length_map]
  refine ⟨sz1, by omega, ?_⟩
  refine for_inv (fun i e => ∃ a q x3 x4 x5 x6 x7, e = [some (.val (eS m)), DKq q, LWw ((q.drop a).map (·.2)), x3, x4, x5, x6, x7] ∧ q = G m a ∧ a ≤ q.length ∧ (i ≤ a ∨ q.length = a)) ⟨0, [(0, [])], _, _, _, _, _, rfl, rfl, by simp, .inl (Nat.le_refl _)⟩ ?_ ?_
  · rintro i d e N hd ⟨a, q, x3, x4, x5, x6, x7, rfl, rfl, ha, hia⟩ hN
    obtain ⟨hi, rfl⟩ := rng0_get hd
    have hi : i < m.rows.length := by simpa using hi
    have ob := OB.G hm a
    have hlen := ob.toQB.len
    unfold w__law_access_b3
    simp -dsimp only [↓z_K, ↓z_VarO, ↓z_Var, ↓z_Move, ↓z_Of, ↓z_Fz, ↓z_Res, ↓z_VNil, ↓z_VCons, ↓z_Tup, ↓z_Lst, ↓z_Op2, ↓z_Tst, ↓z_Not, ↓z_Chain, ↓z_AndV, ↓z_OrV, ↓z_NotV, ↓z_And, ↓z_Or, ↓z_If, ↓z_Next, ↓z_Seq, ↓z_Break, ↓z_Cont, ↓z_Exp, ↓z_Ret, ↓z_RetN, ↓z_IfS, ↓z_Nm, ↓z_Tp, ↓z_GN, ↓z_GC, ↓z_Asg, ↓z_ONil, ↓z_OCons, ↓z_SetIx, ↓z_Call, ↓z_Sq, ↓z_Rev, ↓z_For, ↓z_Wh, ↓z_Lc, ↓z_Lc2, ↓z_All, ↓z_All2, ↓z_Yes, ↓z_CB, ↓z_Isi, ↓z_Neg, ↓z_NoP, ↓z_Prt, ↓z_Sl, ↓z_App, ↓z_Pop, ↓z_VK, ↓z_VKs, ↓z_Eq, ↓z_InL, ↓z_InK, ↓z_InT, ↓z_In1, ↓z_In2, ↓z_In3, ↓z_In4, ↓z_IxS, ↓z_Ix1, ↓z_Ix2, ↓z_Ix3, ↓z_Ix4, ↓z_Ix5, ↓z_put1, ↓z_put2, ↓z_put3, ↓z_Len, ↓z_TupC, ↓z_LstC, ↓z_Repr, ↓z_NewD, ↓z_DisK, ↓z_DisT, ↓z_Get1, ↓z_Get2, ↓z_get2K, ↓z_get2T, ↓z_fin, ↓z_Rng1, ↓z_Rng2, ↓rng1F_i, ↓rng2F_i, ↓z_Enm, ↓z_EnmA, ↓enmAF_l, ↓enmAF_t, ↓enmF_l, ↓z_Zip, ↓zipF_l, ↓zipF_t, ↓z_Par, ↓parF_r, ↓z_Par3, ↓par3F_r, ↓z_Never, ↓z_NevE, ↓z_getK, ↓z_getT, ↓z_AddI, ↓z_AddT, ↓z_AddO, ↓z_AddS, ↓z_MulI, ↓z_MulT, ↓z_LtI, ↓z_LtT, ↓z_IsN, ↓z_IntI, ↓z_SlT, ↓z_SlL, ↓z_SlO, ↓z_SlS, ↓z_Sub, ↓z_Mod, ↓z_Div, ↓z_Pow, ↓z_Le, ↓z_Gt, ↓z_Ge, ↓z_II, ↓varF_v, ↓varF_l, ↓mvF_o, ↓mvF_v, ↓mvF_s, ndF_some, ifB_t, ifB_f, con, sl, frzS, isB, tuO_t, daO, sqO_l, sqO_t, sqO_o, sqO_s, lsO, lenO_K, lenO_T, lenO_o, lenO_l, lenO_t, lenO_s, ngO, consO, argO, varsO, wrB, untag, owL, tyS, tyD_n, tyD_b, tyD_i, tyD_s, tyD_l, tyD_t, tyD_d, entryE, tagA, backA, wipeE, backE, keepS, seqD_l, seqD_t, seqV_l, seqV_t, liD_l, kyS, ksS, keyD_i, keyD_s, keysD, ixS, tupD_t, isDic, isT, eq_self, isNone_n, isNone_i, isNone_t, isNone_l, isNone_b, isNone_s, isNone_o, need_some, atI_0, atI_1, atI_2, atI_3, ixN_30, ixN_31, ixN_32, eqv_int, eqv_str, Int.toNat_natCast, List.getElem?_cons_zero, List.getElem?_cons_succ, List.getElem?_nil, List.set_cons_zero, List.set_cons_succ, List.length_cons, List.length_nil, Option.join_some, Option.join_none, List.replicate_succ, List.replicate_zero, List.cons_append, List.nil_append, Option.map_some, Nat.zero_add, Nat.reduceAdd, Nat.reduceSub, Bool.not_true, Bool.not_false, if_true, if_false, Bool.false_eq_true, true_and, and_true, decide_true, decide_false, Nat.reduceLeDiff, Nat.reduceEqDiff, reduceIte, reduceCtorEq, Bool.or_false, Bool.or_true, Bool.and_true, Bool.and_false, Bool.true_and, Bool.false_and, Bool.true_or, Bool.false_or, List.map_cons, List.map_nil, List.nodup_cons, List.nodup_nil, List.mem_cons, List.not_mem_nil, not_false_eq_true, or_false, false_or, seqV_S, seqV_R]
    refine ⟨Nat.zero_le _, ?_⟩
    refine for_inv (fun j e => ∃ q2 x5 x6 x7, e = [some (.val (eS m)), DKq q2, FWw (((G m a).drop a).map (·.2)), some (.val (.int i)), LWw ((q2.drop (G m a).length).map (·.2)), x5, x6, x7] ∧ q2 = G m (a + j) ∧ ∃ r, q2 = G m a ++ r)
      ⟨G m a, _, _, _, by rw [List.drop_length]; rfl, rfl, [], by simp⟩ ?_ ?_
    · rintro j d e N2 hd2 ⟨q2, x5, x6, x7, rfl, rfl, r0, er0⟩ hN2
      rw [List.getElem?_map, Option.map_eq_some_iff] at hd2
      obtain ⟨w, hx, rfl⟩ := hd2
      rw [List.getElem?_map, Option.map_eq_some_iff] at hx
      obtain ⟨⟨s, w'⟩, hx, rfl⟩ := hx
      rw [List.getElem?_drop] at hx
      have hxj : (G m (a + j))[a + j]? = some (s, w') := by rw [er0, List.getElem?_append_left (getElem?_lt' hx)]; exact hx
      have ob2 := OB.G hm (a + j)
      have hxm := List.mem_of_getElem? hxj
      have hs := ob2.st _ hxm
      have hwe := ob2.le _ hxm
      have hr := ob2.run _ hxm
      have hwl := ob2.wl _ hxm
      have hjl := getElem?_lt' hxj
      have hlen2 := ob2.toQB.len
      simp only at hs hwe hr hwl
      have eG : G m (a + j + 1) = stepL m s w' (List.range m.L) (G m (a + j)) := by rw [G, hxj]
      unfold w__law_access_b2
      simp -dsimp only [↓z_K, ↓z_VarO, ↓z_Var, ↓z_Move, ↓z_Of, ↓z_Fz, ↓z_Res, ↓z_VNil, ↓z_VCons, ↓z_Tup, ↓z_Lst, ↓z_Op2, ↓z_Tst, ↓z_Not, ↓z_Chain, ↓z_AndV, ↓z_OrV, ↓z_NotV, ↓z_And, ↓z_Or, ↓z_If, ↓z_Next, ↓z_Seq, ↓z_Break, ↓z_Cont, ↓z_Exp, ↓z_Ret, ↓z_RetN, ↓z_IfS, ↓z_Nm, ↓z_Tp, ↓z_GN, ↓z_GC, ↓z_Asg, ↓z_ONil, ↓z_OCons, ↓z_SetIx, ↓z_Call, ↓z_Sq, ↓z_Rev, ↓z_For, ↓z_Wh, ↓z_Lc, ↓z_Lc2, ↓z_All, ↓z_All2, ↓z_Yes, ↓z_CB, ↓z_Isi, ↓z_Neg, ↓z_NoP, ↓z_Prt, ↓z_Sl, ↓z_App, ↓z_Pop, ↓z_VK, ↓z_VKs, ↓z_Eq, ↓z_InL, ↓z_InK, ↓z_InT, ↓z_In1, ↓z_In2, ↓z_In3, ↓z_In4, ↓z_IxS, ↓z_Ix1, ↓z_Ix2, ↓z_Ix3, ↓z_Ix4, ↓z_Ix5, ↓z_put1, ↓z_put2, ↓z_put3, ↓z_Len, ↓z_TupC, ↓z_LstC, ↓z_Repr, ↓z_NewD, ↓z_DisK, ↓z_DisT, ↓z_Get1, ↓z_Get2, ↓z_get2K, ↓z_get2T, ↓z_fin, ↓z_Rng1, ↓z_Rng2, ↓rng1F_i, ↓rng2F_i, ↓z_Enm, ↓z_EnmA, ↓enmAF_l, ↓enmAF_t, ↓enmF_l, ↓z_Zip, ↓zipF_l, ↓zipF_t, ↓z_Par, ↓parF_r, ↓z_Par3, ↓par3F_r, ↓z_Never, ↓z_NevE, ↓z_getK, ↓z_getT, ↓z_AddI, ↓z_AddT, ↓z_AddO, ↓z_AddS, ↓z_MulI, ↓z_MulT, ↓z_LtI, ↓z_LtT, ↓z_IsN, ↓z_IntI, ↓z_SlT, ↓z_SlL, ↓z_SlO, ↓z_SlS, ↓z_Sub, ↓z_Mod, ↓z_Div, ↓z_Pow, ↓z_Le, ↓z_Gt, ↓z_Ge, ↓z_II, ↓varF_v, ↓varF_l, ↓mvF_o, ↓mvF_v, ↓mvF_s, ndF_some, ifB_t, ifB_f, con, sl, frzS, isB, tuO_t, daO, sqO_l, sqO_t, sqO_o, sqO_s, lsO, lenO_K, lenO_T, lenO_o, lenO_l, lenO_t, lenO_s, ngO, consO, argO, varsO, wrB, untag, owL, tyS, tyD_n, tyD_b, tyD_i, tyD_s, tyD_l, tyD_t, tyD_d, entryE, tagA, backA, wipeE, backE, keepS, seqD_l, seqD_t, seqV_l, seqV_t, liD_l, kyS, ksS, keyD_i, keyD_s, keysD, ixS, tupD_t, isDic, isT, eq_self, isNone_n, isNone_i, isNone_t, isNone_l, isNone_b, isNone_s, isNone_o, need_some, atI_0, atI_1, atI_2, atI_3, ixN_30, ixN_31, ixN_32, eqv_int, eqv_str, Int.toNat_natCast, List.getElem?_cons_zero, List.getElem?_cons_succ, List.getElem?_nil, List.set_cons_zero, List.set_cons_succ, List.length_cons, List.length_nil, Option.join_some, Option.join_none, List.replicate_succ, List.replicate_zero, List.cons_append, List.nil_append, Option.map_some, Nat.zero_add, Nat.reduceAdd, Nat.reduceSub, Bool.not_true, Bool.not_false, if_true, if_false, Bool.false_eq_true, true_and, and_true, decide_true, decide_false, Nat.reduceLeDiff, Nat.reduceEqDiff, reduceIte, reduceCtorEq, Bool.or_false, Bool.or_true, Bool.and_true, Bool.and_false, Bool.true_and, Bool.false_and, Bool.true_or, Bool.false_or, List.map_cons, List.map_nil, List.nodup_cons, List.nodup_nil, List.mem_cons, List.not_mem_nil, not_false_eq_true, or_false, false_or, seqV_S, seqV_R]
      refine ⟨by omega, ?_⟩
      refine for_inv (fun l e => ∃ q2 x6 x7, e = [some (.val (eS m)), DKq q2, FWw (((G m a).drop a).map (·.2)), some (.val (.int i)), LWw ((q2.drop (G m a).length).map (·.2)), some (.val (eN w')), x6, x7] ∧ stepL m s w' ((List.range m.L).drop l) q2 = G m (a + j + 1) ∧ PB m (a + j) s w' (G m (a + j)) l q2)
        ⟨G m (a + j), _, _, rfl, by rw [eG]; simp, ob2.pb hxj⟩ ?_ ?_
      · rintro l d e N3 hd3 ⟨q2, x6, x7, rfl, hst, hpb⟩ hN3
        obtain ⟨hl, rfl⟩ := rng0_get hd3
        have hl : l < m.L := by simpa using hl
        obtain ⟨r, t, a1, k1, k2, k3, k4, k5⟩ := hm.ent_at hs hl
        rw [range_drop hl, stepL] at hst
        have hp2 := hpb.step hm hs hwe hr hwl hl
        have hl2 := hpb.toQB.len
        obtain ⟨r1, er1⟩ := hpb.pre
        have hrun : runS m 0 (w' ++ [l]) = t := runS_snoc hm (by omega) hwe (by rw [hr]; exact k3)
        unfold w__law_access_b1
        simp -dsimp only [↓z_K, ↓z_VarO, ↓z_Var, ↓z_Move, ↓z_Of, ↓z_Fz, ↓z_Res, ↓z_VNil, ↓z_VCons, ↓z_Tup, ↓z_Lst, ↓z_Op2, ↓z_Tst, ↓z_Not, ↓z_Chain, ↓z_AndV, ↓z_OrV, ↓z_NotV, ↓z_And, ↓z_Or, ↓z_If, ↓z_Next, ↓z_Seq, ↓z_Break, ↓z_Cont, ↓z_Exp, ↓z_Ret, ↓z_RetN, ↓z_IfS, ↓z_Nm, ↓z_Tp, ↓z_GN, ↓z_GC, ↓z_Asg, ↓z_ONil, ↓z_OCons, ↓z_SetIx, ↓z_Call, ↓z_Sq, ↓z_Rev, ↓z_For, ↓z_Wh, ↓z_Lc, ↓z_Lc2, ↓z_All, ↓z_All2, ↓z_Yes, ↓z_CB, ↓z_Isi, ↓z_Neg, ↓z_NoP, ↓z_Prt, ↓z_Sl, ↓z_App, ↓z_Pop, ↓z_VK, ↓z_VKs, ↓z_Eq, ↓z_InL, ↓z_InK, ↓z_InT, ↓z_In1, ↓z_In2, ↓z_In3, ↓z_In4, ↓z_IxS, ↓z_Ix1, ↓z_Ix2, ↓z_Ix3, ↓z_Ix4, ↓z_Ix5, ↓z_put1, ↓z_put2, ↓z_put3, ↓z_Len, ↓z_TupC, ↓z_LstC, ↓z_Repr, ↓z_NewD, ↓z_DisK, ↓z_DisT, ↓z_Get1, ↓z_Get2, ↓z_get2K, ↓z_get2T, ↓z_fin, ↓z_Rng1, ↓z_Rng2, ↓rng1F_i, ↓rng2F_i, ↓z_Enm, ↓z_EnmA, ↓enmAF_l, ↓enmAF_t, ↓enmF_l, ↓z_Zip, ↓zipF_l, ↓zipF_t, ↓z_Par, ↓parF_r, ↓z_Par3, ↓par3F_r, ↓z_Never, ↓z_NevE, ↓z_getK, ↓z_getT, ↓z_AddI, ↓z_AddT, ↓z_AddO, ↓z_AddS, ↓z_MulI, ↓z_MulT, ↓z_LtI, ↓z_LtT, ↓z_IsN, ↓z_IntI, ↓z_SlT, ↓z_SlL, ↓z_SlO, ↓z_SlS, ↓z_Sub, ↓z_Mod, ↓z_Div, ↓z_Pow, ↓z_Le, ↓z_Gt, ↓z_Ge, ↓z_II, ↓varF_v, ↓varF_l, ↓mvF_o, ↓mvF_v, ↓mvF_s, ndF_some, ifB_t, ifB_f, con, sl, frzS, isB, tuO_t, daO, sqO_l, sqO_t, sqO_o, sqO_s, lsO, lenO_K, lenO_T, lenO_o, lenO_l, lenO_t, lenO_s, ngO, consO, argO, varsO, wrB, untag, owL, tyS, tyD_n, tyD_b, tyD_i, tyD_s, tyD_l, tyD_t, tyD_d, entryE, tagA, backA, wipeE, backE, keepS, seqD_l, seqD_t, seqV_l, seqV_t, liD_l, kyS, ksS, keyD_i, keyD_s, keysD, ixS, tupD_t, isDic, isT, eq_self, isNone_n, isNone_i, isNone_t, isNone_l, isNone_b, isNone_s, isNone_o, need_some, atI_0, atI_1, atI_2, atI_3, ixN_30, ixN_31, ixN_32, eqv_int, eqv_str, Int.toNat_natCast, List.getElem?_cons_zero, List.getElem?_cons_succ, List.getElem?_nil, List.set_cons_zero, List.set_cons_succ, List.length_cons, List.length_nil, Option.join_some, Option.join_none, List.replicate_succ, List.replicate_zero, List.cons_append, List.nil_append, Option.map_some, Nat.zero_add, Nat.reduceAdd, Nat.reduceSub, Bool.not_true, Bool.not_false, if_true, if_false, Bool.false_eq_true, true_and, and_true, decide_true, decide_false, Nat.reduceLeDiff, Nat.reduceEqDiff, reduceIte, reduceCtorEq, Bool.or_false, Bool.or_true, Bool.and_true, Bool.and_false, Bool.true_and, Bool.false_and, Bool.true_or, Bool.false_or, List.map_cons, List.map_nil, List.nodup_cons, List.nodup_nil, List.mem_cons, List.not_mem_nil, not_false_eq_true, or_false, false_or, seqV_S, seqV_R, eN, List.length_map]
        refine ⟨sz1, Nat.le_of_lt (szlt (by omega)), ?_⟩
        rw [eN_snoc]
        refine sp_lrun hm (mem_ls hwe hl) (by simp; omega) fun as => ?_
        rw [hrun]
        simp -dsimp only [↓z_K, ↓z_VarO, ↓z_Var, ↓z_Move, ↓z_Of, ↓z_Fz, ↓z_Res, ↓z_VNil, ↓z_VCons, ↓z_Tup, ↓z_Lst, ↓z_Op2, ↓z_Tst, ↓z_Not, ↓z_Chain, ↓z_AndV, ↓z_OrV, ↓z_NotV, ↓z_And, ↓z_Or, ↓z_If, ↓z_Next, ↓z_Seq, ↓z_Break, ↓z_Cont, ↓z_Exp, ↓z_Ret, ↓z_RetN, ↓z_IfS, ↓z_Nm, ↓z_Tp, ↓z_GN, ↓z_GC, ↓z_Asg, ↓z_ONil, ↓z_OCons, ↓z_SetIx, ↓z_Call, ↓z_Sq, ↓z_Rev, ↓z_For, ↓z_Wh, ↓z_Lc, ↓z_Lc2, ↓z_All, ↓z_All2, ↓z_Yes, ↓z_CB, ↓z_Isi, ↓z_Neg, ↓z_NoP, ↓z_Prt, ↓z_Sl, ↓z_App, ↓z_Pop, ↓z_VK, ↓z_VKs, ↓z_Eq, ↓z_InL, ↓z_InK, ↓z_InT, ↓z_In1, ↓z_In2, ↓z_In3, ↓z_In4, ↓z_IxS, ↓z_Ix1, ↓z_Ix2, ↓z_Ix3, ↓z_Ix4, ↓z_Ix5, ↓z_put1, ↓z_put2, ↓z_put3, ↓z_Len, ↓z_TupC, ↓z_LstC, ↓z_Repr, ↓z_NewD, ↓z_DisK, ↓z_DisT, ↓z_Get1, ↓z_Get2, ↓z_get2K, ↓z_get2T, ↓z_fin, ↓z_Rng1, ↓z_Rng2, ↓rng1F_i, ↓rng2F_i, ↓z_Enm, ↓z_EnmA, ↓enmAF_l, ↓enmAF_t, ↓enmF_l, ↓z_Zip, ↓zipF_l, ↓zipF_t, ↓z_Par, ↓parF_r, ↓z_Par3, ↓par3F_r, ↓z_Never, ↓z_NevE, ↓z_getK, ↓z_getT, ↓z_AddI, ↓z_AddT, ↓z_AddO, ↓z_AddS, ↓z_MulI, ↓z_MulT, ↓z_LtI, ↓z_LtT, ↓z_IsN, ↓z_IntI, ↓z_SlT, ↓z_SlL, ↓z_SlO, ↓z_SlS, ↓z_Sub, ↓z_Mod, ↓z_Div, ↓z_Pow, ↓z_Le, ↓z_Gt, ↓z_Ge, ↓z_II, ↓varF_v, ↓varF_l, ↓mvF_o, ↓mvF_v, ↓mvF_s, ndF_some, ifB_t, ifB_f, con, sl, frzS, isB, tuO_t, daO, sqO_l, sqO_t, sqO_o, sqO_s, lsO, lenO_K, lenO_T, lenO_o, lenO_l, lenO_t, lenO_s, ngO, consO, argO, varsO, wrB, untag, owL, tyS, tyD_n, tyD_b, tyD_i, tyD_s, tyD_l, tyD_t, tyD_d, entryE, tagA, backA, wipeE, backE, keepS, seqD_l, seqD_t, seqV_l, seqV_t, liD_l, kyS, ksS, keyD_i, keyD_s, keysD, ixS, tupD_t, isDic, isT, eq_self, isNone_n, isNone_i, isNone_t, isNone_l, isNone_b, isNone_s, isNone_o, need_some, atI_0, atI_1, atI_2, atI_3, ixN_30, ixN_31, ixN_32, eqv_int, eqv_str, Int.toNat_natCast, List.getElem?_cons_zero, List.getElem?_cons_succ, List.getElem?_nil, List.set_cons_zero, List.set_cons_succ, List.length_cons, List.length_nil, Option.join_some, Option.join_none, List.replicate_succ, List.replicate_zero, List.cons_append, List.nil_append, Option.map_some, Nat.zero_add, Nat.reduceAdd, Nat.reduceSub, Bool.not_true, Bool.not_false, if_true, if_false, Bool.false_eq_true, true_and, and_true, decide_true, decide_false, Nat.reduceLeDiff, Nat.reduceEqDiff, reduceIte, reduceCtorEq, Bool.or_false, Bool.or_true, Bool.and_true, Bool.and_false, Bool.true_and, Bool.false_and, Bool.true_or, Bool.false_or, List.map_cons, List.map_nil, List.nodup_cons, List.nodup_nil, List.mem_cons, List.not_mem_nil, not_false_eq_true, or_false, false_or, seqV_S, seqV_R, valK_has]
        refine brB (fun e2 => ?_) fun e2 => ?_
        · have e2 : hasS q2 t = false := by simpa using e2
          have es : step1 m s w' l q2 = q2 ++ [(t, w' ++ [l])] := by simp [step1, k3, e2]
          simp -dsimp only [↓z_K, ↓z_VarO, ↓z_Var, ↓z_Move, ↓z_Of, ↓z_Fz, ↓z_Res, ↓z_VNil, ↓z_VCons, ↓z_Tup, ↓z_Lst, ↓z_Op2, ↓z_Tst, ↓z_Not, ↓z_Chain, ↓z_AndV, ↓z_OrV, ↓z_NotV, ↓z_And, ↓z_Or, ↓z_If, ↓z_Next, ↓z_Seq, ↓z_Break, ↓z_Cont, ↓z_Exp, ↓z_Ret, ↓z_RetN, ↓z_IfS, ↓z_Nm, ↓z_Tp, ↓z_GN, ↓z_GC, ↓z_Asg, ↓z_ONil, ↓z_OCons, ↓z_SetIx, ↓z_Call, ↓z_Sq, ↓z_Rev, ↓z_For, ↓z_Wh, ↓z_Lc, ↓z_Lc2, ↓z_All, ↓z_All2, ↓z_Yes, ↓z_CB, ↓z_Isi, ↓z_Neg, ↓z_NoP, ↓z_Prt, ↓z_Sl, ↓z_App, ↓z_Pop, ↓z_VK, ↓z_VKs, ↓z_Eq, ↓z_InL, ↓z_InK, ↓z_InT, ↓z_In1, ↓z_In2, ↓z_In3, ↓z_In4, ↓z_IxS, ↓z_Ix1, ↓z_Ix2, ↓z_Ix3, ↓z_Ix4, ↓z_Ix5, ↓z_put1, ↓z_put2, ↓z_put3, ↓z_Len, ↓z_TupC, ↓z_LstC, ↓z_Repr, ↓z_NewD, ↓z_DisK, ↓z_DisT, ↓z_Get1, ↓z_Get2, ↓z_get2K, ↓z_get2T, ↓z_fin, ↓z_Rng1, ↓z_Rng2, ↓rng1F_i, ↓rng2F_i, ↓z_Enm, ↓z_EnmA, ↓enmAF_l, ↓enmAF_t, ↓enmF_l, ↓z_Zip, ↓zipF_l, ↓zipF_t, ↓z_Par, ↓parF_r, ↓z_Par3, ↓par3F_r, ↓z_Never, ↓z_NevE, ↓z_getK, ↓z_getT, ↓z_AddI, ↓z_AddT, ↓z_AddO, ↓z_AddS, ↓z_MulI, ↓z_MulT, ↓z_LtI, ↓z_LtT, ↓z_IsN, ↓z_IntI, ↓z_SlT, ↓z_SlL, ↓z_SlO, ↓z_SlS, ↓z_Sub, ↓z_Mod, ↓z_Div, ↓z_Pow, ↓z_Le, ↓z_Gt, ↓z_Ge, ↓z_II, ↓varF_v, ↓varF_l, ↓mvF_o, ↓mvF_v, ↓mvF_s, ndF_some, ifB_t, ifB_f, con, sl, frzS, isB, tuO_t, daO, sqO_l, sqO_t, sqO_o, sqO_s, lsO, lenO_K, lenO_T, lenO_o, lenO_l, lenO_t, lenO_s, ngO, consO, argO, varsO, wrB, untag, owL, tyS, tyD_n, tyD_b, tyD_i, tyD_s, tyD_l, tyD_t, tyD_d, entryE, tagA, backA, wipeE, backE, keepS, seqD_l, seqD_t, seqV_l, seqV_t, liD_l, kyS, ksS, keyD_i, keyD_s, keysD, ixS, tupD_t, isDic, isT, eq_self, isNone_n, isNone_i, isNone_t, isNone_l, isNone_b, isNone_s, isNone_o, need_some, atI_0, atI_1, atI_2, atI_3, ixN_30, ixN_31, ixN_32, eqv_int, eqv_str, Int.toNat_natCast, List.getElem?_cons_zero, List.getElem?_cons_succ, List.getElem?_nil, List.set_cons_zero, List.set_cons_succ, List.length_cons, List.length_nil, Option.join_some, Option.join_none, List.replicate_succ, List.replicate_zero, List.cons_append, List.nil_append, Option.map_some, Nat.zero_add, Nat.reduceAdd, Nat.reduceSub, Bool.not_true, Bool.not_false, if_true, if_false, Bool.false_eq_true, true_and, and_true, decide_true, decide_false, Nat.reduceLeDiff, Nat.reduceEqDiff, reduceIte, reduceCtorEq, Bool.or_false, Bool.or_true, Bool.and_true, Bool.and_false, Bool.true_and, Bool.false_and, Bool.true_or, Bool.false_or, List.map_cons, List.map_nil, List.nodup_cons, List.nodup_nil, List.mem_cons, List.not_mem_nil, not_false_eq_true, or_false, false_or, seqV_S, seqV_R, List.length_map, eN]
          refine ⟨sz1, Nat.le_of_lt (szlt (by omega)), szlt (by omega), sz1, Nat.le_of_lt (szlt (by omega)), by rw [List.length_drop]; exact szlt (by omega), ?_⟩
          rw [eN_snoc, put_newS _ e2, map_snoc, ← es, show ((q2.drop (G m a).length).map (·.2)) ++ [w' ++ [l]] = ((step1 m s w' l q2).drop (G m a).length).map (·.2) by
            rw [es, List.drop_append_of_le_length (by rw [er1, er0]; simp)]; simp]
          exact hN3 _ ⟨_, _, _, rfl, hst, hp2⟩
        · have e2 : hasS q2 t = true := by simpa using e2
          have es : step1 m s w' l q2 = q2 := by simp [step1, k3, e2]
          rw [es] at hst hp2
          simp -dsimp only [↓z_K, ↓z_VarO, ↓z_Var, ↓z_Move, ↓z_Of, ↓z_Fz, ↓z_Res, ↓z_VNil, ↓z_VCons, ↓z_Tup, ↓z_Lst, ↓z_Op2, ↓z_Tst, ↓z_Not, ↓z_Chain, ↓z_AndV, ↓z_OrV, ↓z_NotV, ↓z_And, ↓z_Or, ↓z_If, ↓z_Next, ↓z_Seq, ↓z_Break, ↓z_Cont, ↓z_Exp, ↓z_Ret, ↓z_RetN, ↓z_IfS, ↓z_Nm, ↓z_Tp, ↓z_GN, ↓z_GC, ↓z_Asg, ↓z_ONil, ↓z_OCons, ↓z_SetIx, ↓z_Call, ↓z_Sq, ↓z_Rev, ↓z_For, ↓z_Wh, ↓z_Lc, ↓z_Lc2, ↓z_All, ↓z_All2, ↓z_Yes, ↓z_CB, ↓z_Isi, ↓z_Neg, ↓z_NoP, ↓z_Prt, ↓z_Sl, ↓z_App, ↓z_Pop, ↓z_VK, ↓z_VKs, ↓z_Eq, ↓z_InL, ↓z_InK, ↓z_InT, ↓z_In1, ↓z_In2, ↓z_In3, ↓z_In4, ↓z_IxS, ↓z_Ix1, ↓z_Ix2, ↓z_Ix3, ↓z_Ix4, ↓z_Ix5, ↓z_put1, ↓z_put2, ↓z_put3, ↓z_Len, ↓z_TupC, ↓z_LstC, ↓z_Repr, ↓z_NewD, ↓z_DisK, ↓z_DisT, ↓z_Get1, ↓z_Get2, ↓z_get2K, ↓z_get2T, ↓z_fin, ↓z_Rng1, ↓z_Rng2, ↓rng1F_i, ↓rng2F_i, ↓z_Enm, ↓z_EnmA, ↓enmAF_l, ↓enmAF_t, ↓enmF_l, ↓z_Zip, ↓zipF_l, ↓zipF_t, ↓z_Par, ↓parF_r, ↓z_Par3, ↓par3F_r, ↓z_Never, ↓z_NevE, ↓z_getK, ↓z_getT, ↓z_AddI, ↓z_AddT, ↓z_AddO, ↓z_AddS, ↓z_MulI, ↓z_MulT, ↓z_LtI, ↓z_LtT, ↓z_IsN, ↓z_IntI, ↓z_SlT, ↓z_SlL, ↓z_SlO, ↓z_SlS, ↓z_Sub, ↓z_Mod, ↓z_Div, ↓z_Pow, ↓z_Le, ↓z_Gt, ↓z_Ge, ↓z_II, ↓varF_v, ↓varF_l, ↓mvF_o, ↓mvF_v, ↓mvF_s, ndF_some, ifB_t, ifB_f, con, sl, frzS, isB, tuO_t, daO, sqO_l, sqO_t, sqO_o, sqO_s, lsO, lenO_K, lenO_T, lenO_o, lenO_l, lenO_t, lenO_s, ngO, consO, argO, varsO, wrB, untag, owL, tyS, tyD_n, tyD_b, tyD_i, tyD_s, tyD_l, tyD_t, tyD_d, entryE, tagA, backA, wipeE, backE, keepS, seqD_l, seqD_t, seqV_l, seqV_t, liD_l, kyS, ksS, keyD_i, keyD_s, keysD, ixS, tupD_t, isDic, isT, eq_self, isNone_n, isNone_i, isNone_t, isNone_l, isNone_b, isNone_s, isNone_o, need_some, atI_0, atI_1, atI_2, atI_3, ixN_30, ixN_31, ixN_32, eqv_int, eqv_str, Int.toNat_natCast, List.getElem?_cons_zero, List.getElem?_cons_succ, List.getElem?_nil, List.set_cons_zero, List.set_cons_succ, List.length_cons, List.length_nil, Option.join_some, Option.join_none, List.replicate_succ, List.replicate_zero, List.cons_append, List.nil_append, Option.map_some, Nat.zero_add, Nat.reduceAdd, Nat.reduceSub, Bool.not_true, Bool.not_false, if_true, if_false, Bool.false_eq_true, true_and, and_true, decide_true, decide_false, Nat.reduceLeDiff, Nat.reduceEqDiff, reduceIte, reduceCtorEq, Bool.or_false, Bool.or_true, Bool.and_true, Bool.and_false, Bool.true_and, Bool.false_and, Bool.true_or, Bool.false_or, List.map_cons, List.map_nil, List.nodup_cons, List.nodup_nil, List.mem_cons, List.not_mem_nil, not_false_eq_true, or_false, false_or, seqV_S, seqV_R]
          exact hN3 _ ⟨_, _, _, rfl, hst, hp2⟩
      · rintro e ⟨q2, x6, x7, rfl, hst, hpb⟩
        rw [rngD_length] at hst hpb
        rw [List.drop_eq_nil_of_le (by simp), stepL] at hst
        obtain ⟨r1, er1⟩ := hpb.pre
        exact hN2 _ ⟨_, _, _, _, rfl, hst, r0 ++ r1, by rw [er1, er0, List.append_assoc]⟩
    · rintro e ⟨q2, x5, x6, x7, rfl, hq2, r0, er0⟩
      rw [List.length_map, List.length_map, List.length_drop] at hq2
      rw [show a + ((G m a).length - a) = (G m a).length by omega] at hq2
      simp -dsimp only [↓z_K, ↓z_VarO, ↓z_Var, ↓z_Move, ↓z_Of, ↓z_Fz, ↓z_Res, ↓z_VNil, ↓z_VCons, ↓z_Tup, ↓z_Lst, ↓z_Op2, ↓z_Tst, ↓z_Not, ↓z_Chain, ↓z_AndV, ↓z_OrV, ↓z_NotV, ↓z_And, ↓z_Or, ↓z_If, ↓z_Next, ↓z_Seq, ↓z_Break, ↓z_Cont, ↓z_Exp, ↓z_Ret, ↓z_RetN, ↓z_IfS, ↓z_Nm, ↓z_Tp, ↓z_GN, ↓z_GC, ↓z_Asg, ↓z_ONil, ↓z_OCons, ↓z_SetIx, ↓z_Call, ↓z_Sq, ↓z_Rev, ↓z_For, ↓z_Wh, ↓z_Lc, ↓z_Lc2, ↓z_All, ↓z_All2, ↓z_Yes, ↓z_CB, ↓z_Isi, ↓z_Neg, ↓z_NoP, ↓z_Prt, ↓z_Sl, ↓z_App, ↓z_Pop, ↓z_VK, ↓z_VKs, ↓z_Eq, ↓z_InL, ↓z_InK, ↓z_InT, ↓z_In1, ↓z_In2, ↓z_In3, ↓z_In4, ↓z_IxS, ↓z_Ix1, ↓z_Ix2, ↓z_Ix3, ↓z_Ix4, ↓z_Ix5, ↓z_put1, ↓z_put2, ↓z_put3, ↓z_Len, ↓z_TupC, ↓z_LstC, ↓z_Repr, ↓z_NewD, ↓z_DisK, ↓z_DisT, ↓z_Get1, ↓z_Get2, ↓z_get2K, ↓z_get2T, ↓z_fin, ↓z_Rng1, ↓z_Rng2, ↓rng1F_i, ↓rng2F_i, ↓z_Enm, ↓z_EnmA, ↓enmAF_l, ↓enmAF_t, ↓enmF_l, ↓z_Zip, ↓zipF_l, ↓zipF_t, ↓z_Par, ↓parF_r, ↓z_Par3, ↓par3F_r, ↓z_Never, ↓z_NevE, ↓z_getK, ↓z_getT, ↓z_AddI, ↓z_AddT, ↓z_AddO, ↓z_AddS, ↓z_MulI, ↓z_MulT, ↓z_LtI, ↓z_LtT, ↓z_IsN, ↓z_IntI, ↓z_SlT, ↓z_SlL, ↓z_SlO, ↓z_SlS, ↓z_Sub, ↓z_Mod, ↓z_Div, ↓z_Pow, ↓z_Le, ↓z_Gt, ↓z_Ge, ↓z_II, ↓varF_v, ↓varF_l, ↓mvF_o, ↓mvF_v, ↓mvF_s, ndF_some, ifB_t, ifB_f, con, sl, frzS, isB, tuO_t, daO, sqO_l, sqO_t, sqO_o, sqO_s, lsO, lenO_K, lenO_T, lenO_o, lenO_l, lenO_t, lenO_s, ngO, consO, argO, varsO, wrB, untag, owL, tyS, tyD_n, tyD_b, tyD_i, tyD_s, tyD_l, tyD_t, tyD_d, entryE, tagA, backA, wipeE, backE, keepS, seqD_l, seqD_t, seqV_l, seqV_t, liD_l, kyS, ksS, keyD_i, keyD_s, keysD, ixS, tupD_t, isDic, isT, eq_self, isNone_n, isNone_i, isNone_t, isNone_l, isNone_b, isNone_s, isNone_o, need_some, atI_0, atI_1, atI_2, atI_3, ixN_30, ixN_31, ixN_32, eqv_int, eqv_str, Int.toNat_natCast, List.getElem?_cons_zero, List.getElem?_cons_succ, List.getElem?_nil, List.set_cons_zero, List.set_cons_succ, List.length_cons, List.length_nil, Option.join_some, Option.join_none, List.replicate_succ, List.replicate_zero, List.cons_append, List.nil_append, Option.map_some, Nat.zero_add, Nat.reduceAdd, Nat.reduceSub, Bool.not_true, Bool.not_false, if_true, if_false, Bool.false_eq_true, true_and, and_true, decide_true, decide_false, Nat.reduceLeDiff, Nat.reduceEqDiff, reduceIte, reduceCtorEq, Bool.or_false, Bool.or_true, Bool.and_true, Bool.and_false, Bool.true_and, Bool.false_and, Bool.true_or, Bool.false_or, List.map_cons, List.map_nil, List.nodup_cons, List.nodup_nil, List.mem_cons, List.not_mem_nil, not_false_eq_true, or_false, false_or, seqV_S, seqV_R]
      refine hN _ ⟨(G m a).length, _, _, _, _, _, _, rfl, hq2, by rw [er0]; simp, ?_⟩
      rcases hia with q | q
      · rcases Nat.lt_or_ge a (G m a).length with q1 | q1
        · exact .inl (by omega)
        · refine .inr ?_
          have : (G m a).length = a := by omega
          rw [hq2, this, this]
      · refine .inr ?_
        rw [hq2, q, q]
  · rintro e ⟨a, q, x3, x4, x5, x6, x7, rfl, rfl, ha, hia⟩
    rw [rngD_length] at hia
    have eG : G m a = F m := G_end hm hia
    simp -dsimp only [↓z_K, ↓z_VarO, ↓z_Var, ↓z_Move, ↓z_Of, ↓z_Fz, ↓z_Res, ↓z_VNil, ↓z_VCons, ↓z_Tup, ↓z_Lst, ↓z_Op2, ↓z_Tst, ↓z_Not, ↓z_Chain, ↓z_AndV, ↓z_OrV, ↓z_NotV, ↓z_And, ↓z_Or, ↓z_If, ↓z_Next, ↓z_Seq, ↓z_Break, ↓z_Cont, ↓z_Exp, ↓z_Ret, ↓z_RetN, ↓z_IfS, ↓z_Nm, ↓z_Tp, ↓z_GN, ↓z_GC, ↓z_Asg, ↓z_ONil, ↓z_OCons, ↓z_SetIx, ↓z_Call, ↓z_Sq, ↓z_Rev, ↓z_For, ↓z_Wh, ↓z_Lc, ↓z_Lc2, ↓z_All, ↓z_All2, ↓z_Yes, ↓z_CB, ↓z_Isi, ↓z_Neg, ↓z_NoP, ↓z_Prt, ↓z_Sl, ↓z_App, ↓z_Pop, ↓z_VK, ↓z_VKs, ↓z_Eq, ↓z_InL, ↓z_InK, ↓z_InT, ↓z_In1, ↓z_In2, ↓z_In3, ↓z_In4, ↓z_IxS, ↓z_Ix1, ↓z_Ix2, ↓z_Ix3, ↓z_Ix4, ↓z_Ix5, ↓z_put1, ↓z_put2, ↓z_put3, ↓z_Len, ↓z_TupC, ↓z_LstC, ↓z_Repr, ↓z_NewD, ↓z_DisK, ↓z_DisT, ↓z_Get1, ↓z_Get2, ↓z_get2K, ↓z_get2T, ↓z_fin, ↓z_Rng1, ↓z_Rng2, ↓rng1F_i, ↓rng2F_i, ↓z_Enm, ↓z_EnmA, ↓enmAF_l, ↓enmAF_t, ↓enmF_l, ↓z_Zip, ↓zipF_l, ↓zipF_t, ↓z_Par, ↓parF_r, ↓z_Par3, ↓par3F_r, ↓z_Never, ↓z_NevE, ↓z_getK, ↓z_getT, ↓z_AddI, ↓z_AddT, ↓z_AddO, ↓z_AddS, ↓z_MulI, ↓z_MulT, ↓z_LtI, ↓z_LtT, ↓z_IsN, ↓z_IntI, ↓z_SlT, ↓z_SlL, ↓z_SlO, ↓z_SlS, ↓z_Sub, ↓z_Mod, ↓z_Div, ↓z_Pow, ↓z_Le, ↓z_Gt, ↓z_Ge, ↓z_II, ↓varF_v, ↓varF_l, ↓mvF_o, ↓mvF_v, ↓mvF_s, ndF_some, ifB_t, ifB_f, con, sl, frzS, isB, tuO_t, daO, sqO_l, sqO_t, sqO_o, sqO_s, lsO, lenO_K, lenO_T, lenO_o, lenO_l, lenO_t, lenO_s, ngO, consO, argO, varsO, wrB, untag, owL, tyS, tyD_n, tyD_b, tyD_i, tyD_s, tyD_l, tyD_t, tyD_d, entryE, tagA, backA, wipeE, backE, keepS, seqD_l, seqD_t, seqV_l, seqV_t, liD_l, kyS, ksS, keyD_i, keyD_s, keysD, ixS, tupD_t, isDic, isT, eq_self, isNone_n, isNone_i, isNone_t, isNone_l, isNone_b, isNone_s, isNone_o, need_some, atI_0, atI_1, atI_2, atI_3, ixN_30, ixN_31, ixN_32, eqv_int, eqv_str, Int.toNat_natCast, List.getElem?_cons_zero, List.getElem?_cons_succ, List.getElem?_nil, List.set_cons_zero, List.set_cons_succ, List.length_cons, List.length_nil, Option.join_some, Option.join_none, List.replicate_succ, List.replicate_zero, List.cons_append, List.nil_append, Option.map_some, Nat.zero_add, Nat.reduceAdd, Nat.reduceSub, Bool.not_true, Bool.not_false, if_true, if_false, Bool.false_eq_true, true_and, and_true, decide_true, decide_false, Nat.reduceLeDiff, Nat.reduceEqDiff, reduceIte, reduceCtorEq, Bool.or_false, Bool.or_true, Bool.and_true, Bool.and_false, Bool.true_and, Bool.false_and, Bool.true_or, Bool.false_or, List.map_cons, List.map_nil, List.nodup_cons, List.nodup_nil, List.mem_cons, List.not_mem_nil, not_false_eq_true, or_false, false_or, seqV_S, seqV_R, List.length_map]
    refine ⟨by omega, by rw [rngD_length]; exact Nat.le_of_lt (szlt (by omega)), ?_⟩
    refine lc_inv (fun j ys e => ∃ x7, e = [some (.val (eS m)), DKq (G m a), LWw (((G m a).drop a).map (·.2)), x3, x4, x5, x6, x7] ∧ ys = ((List.range j).map (lk (F m))).map eO) ⟨_, rfl, rfl⟩ ?_ ?_
    · rintro j d ys e N1 N0 hd2 ⟨x7, rfl, rfl⟩ hN1 hN0
      obtain ⟨hj, rfl⟩ := rng0_get hd2
      unfold w__law_access_e1
      simp -dsimp only [↓z_K, ↓z_VarO, ↓z_Var, ↓z_Move, ↓z_Of, ↓z_Fz, ↓z_Res, ↓z_VNil, ↓z_VCons, ↓z_Tup, ↓z_Lst, ↓z_Op2, ↓z_Tst, ↓z_Not, ↓z_Chain, ↓z_AndV, ↓z_OrV, ↓z_NotV, ↓z_And, ↓z_Or, ↓z_If, ↓z_Next, ↓z_Seq, ↓z_Break, ↓z_Cont, ↓z_Exp, ↓z_Ret, ↓z_RetN, ↓z_IfS, ↓z_Nm, ↓z_Tp, ↓z_GN, ↓z_GC, ↓z_Asg, ↓z_ONil, ↓z_OCons, ↓z_SetIx, ↓z_Call, ↓z_Sq, ↓z_Rev, ↓z_For, ↓z_Wh, ↓z_Lc, ↓z_Lc2, ↓z_All, ↓z_All2, ↓z_Yes, ↓z_CB, ↓z_Isi, ↓z_Neg, ↓z_NoP, ↓z_Prt, ↓z_Sl, ↓z_App, ↓z_Pop, ↓z_VK, ↓z_VKs, ↓z_Eq, ↓z_InL, ↓z_InK, ↓z_InT, ↓z_In1, ↓z_In2, ↓z_In3, ↓z_In4, ↓z_IxS, ↓z_Ix1, ↓z_Ix2, ↓z_Ix3, ↓z_Ix4, ↓z_Ix5, ↓z_put1, ↓z_put2, ↓z_put3, ↓z_Len, ↓z_TupC, ↓z_LstC, ↓z_Repr, ↓z_NewD, ↓z_DisK, ↓z_DisT, ↓z_Get1, ↓z_Get2, ↓z_get2K, ↓z_get2T, ↓z_fin, ↓z_Rng1, ↓z_Rng2, ↓rng1F_i, ↓rng2F_i, ↓z_Enm, ↓z_EnmA, ↓enmAF_l, ↓enmAF_t, ↓enmF_l, ↓z_Zip, ↓zipF_l, ↓zipF_t, ↓z_Par, ↓parF_r, ↓z_Par3, ↓par3F_r, ↓z_Never, ↓z_NevE, ↓z_getK, ↓z_getT, ↓z_AddI, ↓z_AddT, ↓z_AddO, ↓z_AddS, ↓z_MulI, ↓z_MulT, ↓z_LtI, ↓z_LtT, ↓z_IsN, ↓z_IntI, ↓z_SlT, ↓z_SlL, ↓z_SlO, ↓z_SlS, ↓z_Sub, ↓z_Mod, ↓z_Div, ↓z_Pow, ↓z_Le, ↓z_Gt, ↓z_Ge, ↓z_II, ↓varF_v, ↓varF_l, ↓mvF_o, ↓mvF_v, ↓mvF_s, ndF_some, ifB_t, ifB_f, con, sl, frzS, isB, tuO_t, daO, sqO_l, sqO_t, sqO_o, sqO_s, lsO, lenO_K, lenO_T, lenO_o, lenO_l, lenO_t, lenO_s, ngO, consO, argO, varsO, wrB, untag, owL, tyS, tyD_n, tyD_b, tyD_i, tyD_s, tyD_l, tyD_t, tyD_d, entryE, tagA, backA, wipeE, backE, keepS, seqD_l, seqD_t, seqV_l, seqV_t, liD_l, kyS, ksS, keyD_i, keyD_s, keysD, ixS, tupD_t, isDic, isT, eq_self, isNone_n, isNone_i, isNone_t, isNone_l, isNone_b, isNone_s, isNone_o, need_some, atI_0, atI_1, atI_2, atI_3, ixN_30, ixN_31, ixN_32, eqv_int, eqv_str, Int.toNat_natCast, List.getElem?_cons_zero, List.getElem?_cons_succ, List.getElem?_nil, List.set_cons_zero, List.set_cons_succ, List.length_cons, List.length_nil, Option.join_some, Option.join_none, List.replicate_succ, List.replicate_zero, List.cons_append, List.nil_append, Option.map_some, Nat.zero_add, Nat.reduceAdd, Nat.reduceSub, Bool.not_true, Bool.not_false, if_true, if_false, Bool.false_eq_true, true_and, and_true, decide_true, decide_false, Nat.reduceLeDiff, Nat.reduceEqDiff, reduceIte, reduceCtorEq, Bool.or_false, Bool.or_true, Bool.and_true, Bool.and_false, Bool.true_and, Bool.false_and, Bool.true_or, Bool.false_or, List.map_cons, List.map_nil, List.nodup_cons, List.nodup_nil, List.mem_cons, List.not_mem_nil, not_false_eq_true, or_false, false_or, seqV_S, seqV_R, valK, getD_eO]
      exact hN1 _ _ ⟨_, rfl, by rw [eG]; exact acc_succ m j⟩
    · rintro ys e ⟨x7, rfl, rfl⟩
      rw [rngD_length]
      simp -dsimp only [↓z_K, ↓z_VarO, ↓z_Var, ↓z_Move, ↓z_Of, ↓z_Fz, ↓z_Res, ↓z_VNil, ↓z_VCons, ↓z_Tup, ↓z_Lst, ↓z_Op2, ↓z_Tst, ↓z_Not, ↓z_Chain, ↓z_AndV, ↓z_OrV, ↓z_NotV, ↓z_And, ↓z_Or, ↓z_If, ↓z_Next, ↓z_Seq, ↓z_Break, ↓z_Cont, ↓z_Exp, ↓z_Ret, ↓z_RetN, ↓z_IfS, ↓z_Nm, ↓z_Tp, ↓z_GN, ↓z_GC, ↓z_Asg, ↓z_ONil, ↓z_OCons, ↓z_SetIx, ↓z_Call, ↓z_Sq, ↓z_Rev, ↓z_For, ↓z_Wh, ↓z_Lc, ↓z_Lc2, ↓z_All, ↓z_All2, ↓z_Yes, ↓z_CB, ↓z_Isi, ↓z_Neg, ↓z_NoP, ↓z_Prt, ↓z_Sl, ↓z_App, ↓z_Pop, ↓z_VK, ↓z_VKs, ↓z_Eq, ↓z_InL, ↓z_InK, ↓z_InT, ↓z_In1, ↓z_In2, ↓z_In3, ↓z_In4, ↓z_IxS, ↓z_Ix1, ↓z_Ix2, ↓z_Ix3, ↓z_Ix4, ↓z_Ix5, ↓z_put1, ↓z_put2, ↓z_put3, ↓z_Len, ↓z_TupC, ↓z_LstC, ↓z_Repr, ↓z_NewD, ↓z_DisK, ↓z_DisT, ↓z_Get1, ↓z_Get2, ↓z_get2K, ↓z_get2T, ↓z_fin, ↓z_Rng1, ↓z_Rng2, ↓rng1F_i, ↓rng2F_i, ↓z_Enm, ↓z_EnmA, ↓enmAF_l, ↓enmAF_t, ↓enmF_l, ↓z_Zip, ↓zipF_l, ↓zipF_t, ↓z_Par, ↓parF_r, ↓z_Par3, ↓par3F_r, ↓z_Never, ↓z_NevE, ↓z_getK, ↓z_getT, ↓z_AddI, ↓z_AddT, ↓z_AddO, ↓z_AddS, ↓z_MulI, ↓z_MulT, ↓z_LtI, ↓z_LtT, ↓z_IsN, ↓z_IntI, ↓z_SlT, ↓z_SlL, ↓z_SlO, ↓z_SlS, ↓z_Sub, ↓z_Mod, ↓z_Div, ↓z_Pow, ↓z_Le, ↓z_Gt, ↓z_Ge, ↓z_II, ↓varF_v, ↓varF_l, ↓mvF_o, ↓mvF_v, ↓mvF_s, ndF_some, ifB_t, ifB_f, con, sl, frzS, isB, tuO_t, daO, sqO_l, sqO_t, sqO_o, sqO_s, lsO, lenO_K, lenO_T, lenO_o, lenO_l, lenO_t, lenO_s, ngO, consO, argO, varsO, wrB, untag, owL, tyS, tyD_n, tyD_b, tyD_i, tyD_s, tyD_l, tyD_t, tyD_d, entryE, tagA, backA, wipeE, backE, keepS, seqD_l, seqD_t, seqV_l, seqV_t, liD_l, kyS, ksS, keyD_i, keyD_s, keysD, ixS, tupD_t, isDic, isT, eq_self, isNone_n, isNone_i, isNone_t, isNone_l, isNone_b, isNone_s, isNone_o, need_some, atI_0, atI_1, atI_2, atI_3, ixN_30, ixN_31, ixN_32, eqv_int, eqv_str, Int.toNat_natCast, List.getElem?_cons_zero, List.getElem?_cons_succ, List.getElem?_nil, List.set_cons_zero, List.set_cons_succ, List.length_cons, List.length_nil, Option.join_some, Option.join_none, List.replicate_succ, List.replicate_zero, List.cons_append, List.nil_append, Option.map_some, Nat.zero_add, Nat.reduceAdd, Nat.reduceSub, Bool.not_true, Bool.not_false, if_true, if_false, Bool.false_eq_true, true_and, and_true, decide_true, decide_false, Nat.reduceLeDiff, Nat.reduceEqDiff, reduceIte, reduceCtorEq, Bool.or_false, Bool.or_true, Bool.and_true, Bool.and_false, Bool.true_and, Bool.false_and, Bool.true_or, Bool.false_or, List.map_cons, List.map_nil, List.nodup_cons, List.nodup_nil, List.mem_cons, List.not_mem_nil, not_false_eq_true, or_false, false_or, seqV_S, seqV_R]
      exact h
end DV

set_option Elab.async false
set_option linter.all false
set_option maxRecDepth 100000
set_option maxHeartbeats 4000000
namespace DV
open PySem PySem.Spec PyProof.Rows L2
theorem ints_eN (w : List Nat) : intsD (w.map fun n => PyData.int (n : Nat)) = some (w.map fun n : Nat => (n : Int)) := by
  induction w with
  | nil => rfl
  | cons a w ih => simp only [List.map_cons, intsD, ih, Option.map_some]
theorem lt_eN {u w : List Nat} {R : Slot → Prop} : gLt (.val (eN u)) (.val (eN w)) R = R (.val (.bool (HT.lexLt (u.map fun n : Nat => (n : Int)) (w.map fun n : Nat => (n : Int))))) := by
  show need (intsD _) _ = _
  rw [ints_eN]
  show need (intsD _) _ = _
  rw [ints_eN]
  rfl
/-- a word of the letters, not longer than five -/
def Wd (L : Nat) (w : List Nat) : Prop := (∀ a ∈ w, a < L) ∧ w.length ≤ 5
theorem mem_app {α : Type} {P : α → Prop} {xs ys : List α} (h : ∀ e ∈ xs, P e) (hy : ∀ e ∈ ys, P e) : ∀ e ∈ xs ++ ys, P e := fun e he => by
  rcases List.mem_append.mp he with he | he
  · exact h e he
  · exact hy e he
theorem sp_shorter {L : Nat} {w : List Nat} {Q : Slot → List Slot → Prop} {X : Value → Prop} (hL : L ≤ 3) (hl : w.length ≤ 600)
    (h : ∀ ws : List (List Nat), ws.length ≤ 3000 → (∀ u ∈ ws, Wd L u ∧ llt u w) → Q (.own none (.lst (ws.map eN))) [.val (.int L), .val (eN w)]) : fs__law_shorter [.val (.int L), .val (eN w)] Q X := by
  refine ⟨rfl, ?_⟩
  unfold w__law_shorter
  have e1 : ((w.length : Int) + 1) = ((w.length + 1 : Nat) : Int) := by omega
  have e2 : (if (6 : Int) < ((w.length + 1 : Nat) : Int) then (6 : Int) else ((w.length + 1 : Nat) : Int)) = ((min (w.length + 1) 6 : Nat) : Int) := by
    rcases Nat.lt_or_ge 6 (w.length + 1) with q | q
    · rw [if_pos (by omega)]; omega
    · rw [if_neg (by omega)]; omega
  simp -dsimp only [↓z_K, ↓z_VarO, ↓z_Var, ↓z_Move, ↓z_Of, ↓z_Fz, ↓z_Res, ↓z_VNil, ↓z_VCons, ↓z_Tup, ↓z_Lst, ↓z_Op2, ↓z_Tst, ↓z_Not, ↓z_Chain, ↓z_AndV, ↓z_OrV, ↓z_NotV, ↓z_And, ↓z_Or, ↓z_If, ↓z_Next, ↓z_Seq, ↓z_Break, ↓z_Cont, ↓z_Exp, ↓z_Ret, ↓z_RetN, ↓z_IfS, ↓z_Nm, ↓z_Tp, ↓z_GN, ↓z_GC, ↓z_Asg, ↓z_ONil, ↓z_OCons, ↓z_SetIx, ↓z_Call, ↓z_Sq, ↓z_Rev, ↓z_For, ↓z_Wh, ↓z_Lc, ↓z_Lc2, ↓z_All, ↓z_All2, ↓z_Yes, ↓z_CB, ↓z_Isi, ↓z_Neg, ↓z_NoP, ↓z_Prt, ↓z_Sl, ↓z_App, ↓z_Pop, ↓z_VK, ↓z_VKs, ↓z_Eq, ↓z_InL, ↓z_InK, ↓z_InT, ↓z_In1, ↓z_In2, ↓z_In3, ↓z_In4, ↓z_IxS, ↓z_Ix1, ↓z_Ix2, ↓z_Ix3, ↓z_Ix4, ↓z_Ix5, ↓z_put1, ↓z_put2, ↓z_put3, ↓z_Len, ↓z_TupC, ↓z_LstC, ↓z_Repr, ↓z_NewD, ↓z_DisK, ↓z_DisT, ↓z_Get1, ↓z_Get2, ↓z_get2K, ↓z_get2T, ↓z_fin, ↓z_Rng1, ↓z_Rng2, ↓rng1F_i, ↓rng2F_i, ↓z_Enm, ↓z_EnmA, ↓enmAF_l, ↓enmAF_t, ↓enmF_l, ↓z_Zip, ↓zipF_l, ↓zipF_t, ↓z_Par, ↓parF_r, ↓z_Par3, ↓par3F_r, ↓z_Never, ↓z_NevE, ↓z_getK, ↓z_getT, ↓z_AddI, ↓z_AddT, ↓z_AddO, ↓z_AddS, ↓z_MulI, ↓z_MulT, ↓z_LtI, ↓z_LtT, ↓z_IsN, ↓z_IntI, ↓z_SlT, ↓z_SlL, ↓z_SlO, ↓z_SlS, ↓z_Sub, ↓z_Mod, ↓z_Div, ↓z_Pow, ↓z_Le, ↓z_Gt, ↓z_Ge, ↓z_II, ↓varF_v, ↓varF_l, ↓mvF_o, ↓mvF_v, ↓mvF_s, ndF_some, ifB_t, ifB_f, con, sl, frzS, isB, tuO_t, daO, sqO_l, sqO_t, sqO_o, sqO_s, lsO, lenO_K, lenO_T, lenO_o, lenO_l, lenO_t, lenO_s, ngO, consO, argO, varsO, wrB, untag, owL, tyS, tyD_n, tyD_b, tyD_i, tyD_s, tyD_l, tyD_t, tyD_d, entryE, tagA, backA, wipeE, backE, keepS, seqD_l, seqD_t, seqV_l, seqV_t, liD_l, kyS, ksS, keyD_i, keyD_s, keysD, ixS, tupD_t, isDic, isT, eq_self, isNone_n, isNone_i, isNone_t, isNone_l, isNone_b, isNone_s, isNone_o, need_some, atI_0, atI_1, atI_2, atI_3, ixN_30, ixN_31, ixN_32, eqv_int, eqv_str, Int.toNat_natCast, List.getElem?_cons_zero, List.getElem?_cons_succ, List.getElem?_nil, List.set_cons_zero, List.set_cons_succ, List.length_cons, List.length_nil, Option.join_some, Option.join_none, List.replicate_succ, List.replicate_zero, List.cons_append, List.nil_append, Option.map_some, Nat.zero_add, Nat.reduceAdd, Nat.reduceSub, Bool.not_true, Bool.not_false, if_true, if_false, Bool.false_eq_true, true_and, and_true, decide_true, decide_false, Nat.reduceLeDiff, Nat.reduceEqDiff, reduceIte, reduceCtorEq, Bool.or_false, Bool.or_true, Bool.and_true, Bool.and_false, Bool.true_and, Bool.false_and, Bool.true_or, Bool.false_or, List.map_cons, List.map_nil, List.nodup_cons, List.nodup_nil, List.mem_cons, List.not_mem_nil, not_false_eq_true, or_false, false_or, seqV_S, seqV_R, eN, List.length_map, e1, e2]
  refine ⟨Nat.zero_le _, sz1, by omega, ?_⟩
  refine for_inv (fun i e => ∃ (found level : List (List Nat)) (x4 x5 x6 x7 : Option Slot), e = [some (.val (.int L)), some (.val (eN w)), LWw found, LWw level, x4, x5, x6, x7] ∧ level.length ≤ 3 ^ i ∧ found.length ≤ 250 * i ∧ (∀ u ∈ level, (∀ a ∈ u, a < L) ∧ u.length = i) ∧ ∀ u ∈ found, Wd L u ∧ llt u w)
    ⟨[], [[]], _, _, _, _, rfl, by simp, by simp, by simp, by simp⟩ ?_ ?_
  · rintro i d e N hd ⟨found, level, x4, x5, x6, x7, rfl, hlv, hfd, hlw, hfw⟩ hN
    obtain ⟨hi, rfl⟩ := rng0_get hd
    have hi : i < min (w.length + 1) 6 := by simpa using hi
    have h3 : 3 ^ i ≤ 3 ^ 5 := Nat.pow_le_pow_right (by decide) (by omega)
    have h35 : (3 : Nat) ^ 5 = 243 := by decide
    unfold w__law_shorter_b2
    refine seqI fun U1 h1 => ?_
    simp -dsimp only [↓z_K, ↓z_VarO, ↓z_Var, ↓z_Move, ↓z_Of, ↓z_Fz, ↓z_Res, ↓z_VNil, ↓z_VCons, ↓z_Tup, ↓z_Lst, ↓z_Op2, ↓z_Tst, ↓z_Not, ↓z_Chain, ↓z_AndV, ↓z_OrV, ↓z_NotV, ↓z_And, ↓z_Or, ↓z_If, ↓z_Next, ↓z_Seq, ↓z_Break, ↓z_Cont, ↓z_Exp, ↓z_Ret, ↓z_RetN, ↓z_IfS, ↓z_Nm, ↓z_Tp, ↓z_GN, ↓z_GC, ↓z_Asg, ↓z_ONil, ↓z_OCons, ↓z_SetIx, ↓z_Call, ↓z_Sq, ↓z_Rev, ↓z_For, ↓z_Wh, ↓z_Lc, ↓z_Lc2, ↓z_All, ↓z_All2, ↓z_Yes, ↓z_CB, ↓z_Isi, ↓z_Neg, ↓z_NoP, ↓z_Prt, ↓z_Sl, ↓z_App, ↓z_Pop, ↓z_VK, ↓z_VKs, ↓z_Eq, ↓z_InL, ↓z_InK, ↓z_InT, ↓z_In1, ↓z_In2, ↓z_In3, ↓z_In4, ↓z_IxS, ↓z_Ix1, ↓z_Ix2, ↓z_Ix3, ↓z_Ix4, ↓z_Ix5, ↓z_put1, ↓z_put2, ↓z_put3, ↓z_Len, ↓z_TupC, ↓z_LstC, ↓z_Repr, ↓z_NewD, ↓z_DisK, ↓z_DisT, ↓z_Get1, ↓z_Get2, ↓z_get2K, ↓z_get2T, ↓z_fin, ↓z_Rng1, ↓z_Rng2, ↓rng1F_i, ↓rng2F_i, ↓z_Enm, ↓z_EnmA, ↓enmAF_l, ↓enmAF_t, ↓enmF_l, ↓z_Zip, ↓zipF_l, ↓zipF_t, ↓z_Par, ↓parF_r, ↓z_Par3, ↓par3F_r, ↓z_Never, ↓z_NevE, ↓z_getK, ↓z_getT, ↓z_AddI, ↓z_AddT, ↓z_AddO, ↓z_AddS, ↓z_MulI, ↓z_MulT, ↓z_LtI, ↓z_LtT, ↓z_IsN, ↓z_IntI, ↓z_SlT, ↓z_SlL, ↓z_SlO, ↓z_SlS, ↓z_Sub, ↓z_Mod, ↓z_Div, ↓z_Pow, ↓z_Le, ↓z_Gt, ↓z_Ge, ↓z_II, ↓varF_v, ↓varF_l, ↓mvF_o, ↓mvF_v, ↓mvF_s, ndF_some, ifB_t, ifB_f, con, sl, frzS, isB, tuO_t, daO, sqO_l, sqO_t, sqO_o, sqO_s, lsO, lenO_K, lenO_T, lenO_o, lenO_l, lenO_t, lenO_s, ngO, consO, argO, varsO, wrB, untag, owL, tyS, tyD_n, tyD_b, tyD_i, tyD_s, tyD_l, tyD_t, tyD_d, entryE, tagA, backA, wipeE, backE, keepS, seqD_l, seqD_t, seqV_l, seqV_t, liD_l, kyS, ksS, keyD_i, keyD_s, keysD, ixS, tupD_t, isDic, isT, eq_self, isNone_n, isNone_i, isNone_t, isNone_l, isNone_b, isNone_s, isNone_o, need_some, atI_0, atI_1, atI_2, atI_3, ixN_30, ixN_31, ixN_32, eqv_int, eqv_str, Int.toNat_natCast, List.getElem?_cons_zero, List.getElem?_cons_succ, List.getElem?_nil, List.set_cons_zero, List.set_cons_succ, List.length_cons, List.length_nil, Option.join_some, Option.join_none, List.replicate_succ, List.replicate_zero, List.cons_append, List.nil_append, Option.map_some, Nat.zero_add, Nat.reduceAdd, Nat.reduceSub, Bool.not_true, Bool.not_false, if_true, if_false, Bool.false_eq_true, true_and, and_true, decide_true, decide_false, Nat.reduceLeDiff, Nat.reduceEqDiff, reduceIte, reduceCtorEq, Bool.or_false, Bool.or_true, Bool.and_true, Bool.and_false, Bool.true_and, Bool.false_and, Bool.true_or, Bool.false_or, List.map_cons, List.map_nil, List.nodup_cons, List.nodup_nil, List.mem_cons, List.not_mem_nil, not_false_eq_true, or_false, false_or, seqV_S, seqV_R, List.length_map]
    refine ⟨Nat.le_of_lt (szlt (by omega)), ?_⟩
    refine lc_inv (fun j ys e => ∃ (us : List (List Nat)) (x6 : Option Slot), e = [some (.val (.int L)), some (.val (eN w)), LWw found, some (.val (.list (level.map eN))), some (.val (.int i)), x5, x6, x7] ∧ ys = us.map eN ∧ us.length ≤ j ∧ ∀ u ∈ us, Wd L u ∧ llt u w)
      ⟨[], _, rfl, rfl, by simp, by simp⟩ ?_ ?_
    · rintro j d ys e N1 N0 hd2 ⟨us, x6, rfl, rfl, hus, huw⟩ hN1 hN0
      rw [List.getElem?_map, Option.map_eq_some_iff] at hd2
      obtain ⟨u, hu, rfl⟩ := hd2
      obtain ⟨hua, hul⟩ := hlw u (List.mem_of_getElem? hu)
      have hw5 : Wd L u := ⟨hua, by omega⟩
      unfold w__law_shorter_t1
      simp -dsimp only [↓z_K, ↓z_VarO, ↓z_Var, ↓z_Move, ↓z_Of, ↓z_Fz, ↓z_Res, ↓z_VNil, ↓z_VCons, ↓z_Tup, ↓z_Lst, ↓z_Op2, ↓z_Tst, ↓z_Not, ↓z_Chain, ↓z_AndV, ↓z_OrV, ↓z_NotV, ↓z_And, ↓z_Or, ↓z_If, ↓z_Next, ↓z_Seq, ↓z_Break, ↓z_Cont, ↓z_Exp, ↓z_Ret, ↓z_RetN, ↓z_IfS, ↓z_Nm, ↓z_Tp, ↓z_GN, ↓z_GC, ↓z_Asg, ↓z_ONil, ↓z_OCons, ↓z_SetIx, ↓z_Call, ↓z_Sq, ↓z_Rev, ↓z_For, ↓z_Wh, ↓z_Lc, ↓z_Lc2, ↓z_All, ↓z_All2, ↓z_Yes, ↓z_CB, ↓z_Isi, ↓z_Neg, ↓z_NoP, ↓z_Prt, ↓z_Sl, ↓z_App, ↓z_Pop, ↓z_VK, ↓z_VKs, ↓z_Eq, ↓z_InL, ↓z_InK, ↓z_InT, ↓z_In1, ↓z_In2, ↓z_In3, ↓z_In4, ↓z_IxS, ↓z_Ix1, ↓z_Ix2, ↓z_Ix3, ↓z_Ix4, ↓z_Ix5, ↓z_put1, ↓z_put2, ↓z_put3, ↓z_Len, ↓z_TupC, ↓z_LstC, ↓z_Repr, ↓z_NewD, ↓z_DisK, ↓z_DisT, ↓z_Get1, ↓z_Get2, ↓z_get2K, ↓z_get2T, ↓z_fin, ↓z_Rng1, ↓z_Rng2, ↓rng1F_i, ↓rng2F_i, ↓z_Enm, ↓z_EnmA, ↓enmAF_l, ↓enmAF_t, ↓enmF_l, ↓z_Zip, ↓zipF_l, ↓zipF_t, ↓z_Par, ↓parF_r, ↓z_Par3, ↓par3F_r, ↓z_Never, ↓z_NevE, ↓z_getK, ↓z_getT, ↓z_AddI, ↓z_AddT, ↓z_AddO, ↓z_AddS, ↓z_MulI, ↓z_MulT, ↓z_LtI, ↓z_LtT, ↓z_IsN, ↓z_IntI, ↓z_SlT, ↓z_SlL, ↓z_SlO, ↓z_SlS, ↓z_Sub, ↓z_Mod, ↓z_Div, ↓z_Pow, ↓z_Le, ↓z_Gt, ↓z_Ge, ↓z_II, ↓varF_v, ↓varF_l, ↓mvF_o, ↓mvF_v, ↓mvF_s, ndF_some, ifB_t, ifB_f, con, sl, frzS, isB, tuO_t, daO, sqO_l, sqO_t, sqO_o, sqO_s, lsO, lenO_K, lenO_T, lenO_o, lenO_l, lenO_t, lenO_s, ngO, consO, argO, varsO, wrB, untag, owL, tyS, tyD_n, tyD_b, tyD_i, tyD_s, tyD_l, tyD_t, tyD_d, entryE, tagA, backA, wipeE, backE, keepS, seqD_l, seqD_t, seqV_l, seqV_t, liD_l, kyS, ksS, keyD_i, keyD_s, keysD, ixS, tupD_t, isDic, isT, eq_self, isNone_n, isNone_i, isNone_t, isNone_l, isNone_b, isNone_s, isNone_o, need_some, atI_0, atI_1, atI_2, atI_3, ixN_30, ixN_31, ixN_32, eqv_int, eqv_str, Int.toNat_natCast, List.getElem?_cons_zero, List.getElem?_cons_succ, List.getElem?_nil, List.set_cons_zero, List.set_cons_succ, List.length_cons, List.length_nil, Option.join_some, Option.join_none, List.replicate_succ, List.replicate_zero, List.cons_append, List.nil_append, Option.map_some, Nat.zero_add, Nat.reduceAdd, Nat.reduceSub, Bool.not_true, Bool.not_false, if_true, if_false, Bool.false_eq_true, true_and, and_true, decide_true, decide_false, Nat.reduceLeDiff, Nat.reduceEqDiff, reduceIte, reduceCtorEq, Bool.or_false, Bool.or_true, Bool.and_true, Bool.and_false, Bool.true_and, Bool.false_and, Bool.true_or, Bool.false_or, List.map_cons, List.map_nil, List.nodup_cons, List.nodup_nil, List.mem_cons, List.not_mem_nil, not_false_eq_true, or_false, false_or, seqV_S, seqV_R, eN, List.length_map]
      have dn : ∀ {e' : En}, e' = [some (.val (.int L)), some (.val (eN w)), LWw found, some (.val (.list (level.map eN))), some (.val (.int i)), x5, some (.val (eN u)), x7] → llt u w → N1 (eN u) e' := fun {e'} ee hlt =>
        hN1 _ _ ⟨us ++ [u], _, ee, by simp, by simp; omega, mem_snoc' huw ⟨hw5, hlt⟩⟩
      refine brB (fun e => ?_) fun e => ?_
      · have e := of_decide_eq_true e
        simp -dsimp only [↓z_K, ↓z_VarO, ↓z_Var, ↓z_Move, ↓z_Of, ↓z_Fz, ↓z_Res, ↓z_VNil, ↓z_VCons, ↓z_Tup, ↓z_Lst, ↓z_Op2, ↓z_Tst, ↓z_Not, ↓z_Chain, ↓z_AndV, ↓z_OrV, ↓z_NotV, ↓z_And, ↓z_Or, ↓z_If, ↓z_Next, ↓z_Seq, ↓z_Break, ↓z_Cont, ↓z_Exp, ↓z_Ret, ↓z_RetN, ↓z_IfS, ↓z_Nm, ↓z_Tp, ↓z_GN, ↓z_GC, ↓z_Asg, ↓z_ONil, ↓z_OCons, ↓z_SetIx, ↓z_Call, ↓z_Sq, ↓z_Rev, ↓z_For, ↓z_Wh, ↓z_Lc, ↓z_Lc2, ↓z_All, ↓z_All2, ↓z_Yes, ↓z_CB, ↓z_Isi, ↓z_Neg, ↓z_NoP, ↓z_Prt, ↓z_Sl, ↓z_App, ↓z_Pop, ↓z_VK, ↓z_VKs, ↓z_Eq, ↓z_InL, ↓z_InK, ↓z_InT, ↓z_In1, ↓z_In2, ↓z_In3, ↓z_In4, ↓z_IxS, ↓z_Ix1, ↓z_Ix2, ↓z_Ix3, ↓z_Ix4, ↓z_Ix5, ↓z_put1, ↓z_put2, ↓z_put3, ↓z_Len, ↓z_TupC, ↓z_LstC, ↓z_Repr, ↓z_NewD, ↓z_DisK, ↓z_DisT, ↓z_Get1, ↓z_Get2, ↓z_get2K, ↓z_get2T, ↓z_fin, ↓z_Rng1, ↓z_Rng2, ↓rng1F_i, ↓rng2F_i, ↓z_Enm, ↓z_EnmA, ↓enmAF_l, ↓enmAF_t, ↓enmF_l, ↓z_Zip, ↓zipF_l, ↓zipF_t, ↓z_Par, ↓parF_r, ↓z_Par3, ↓par3F_r, ↓z_Never, ↓z_NevE, ↓z_getK, ↓z_getT, ↓z_AddI, ↓z_AddT, ↓z_AddO, ↓z_AddS, ↓z_MulI, ↓z_MulT, ↓z_LtI, ↓z_LtT, ↓z_IsN, ↓z_IntI, ↓z_SlT, ↓z_SlL, ↓z_SlO, ↓z_SlS, ↓z_Sub, ↓z_Mod, ↓z_Div, ↓z_Pow, ↓z_Le, ↓z_Gt, ↓z_Ge, ↓z_II, ↓varF_v, ↓varF_l, ↓mvF_o, ↓mvF_v, ↓mvF_s, ndF_some, ifB_t, ifB_f, con, sl, frzS, isB, tuO_t, daO, sqO_l, sqO_t, sqO_o, sqO_s, lsO, lenO_K, lenO_T, lenO_o, lenO_l, lenO_t, lenO_s, ngO, consO, argO, varsO, wrB, untag, owL, tyS, tyD_n, tyD_b, tyD_i, tyD_s, tyD_l, tyD_t, tyD_d, entryE, tagA, backA, wipeE, backE, keepS, seqD_l, seqD_t, seqV_l, seqV_t, liD_l, kyS, ksS, keyD_i, keyD_s, keysD, ixS, tupD_t, isDic, isT, eq_self, isNone_n, isNone_i, isNone_t, isNone_l, isNone_b, isNone_s, isNone_o, need_some, atI_0, atI_1, atI_2, atI_3, ixN_30, ixN_31, ixN_32, eqv_int, eqv_str, Int.toNat_natCast, List.getElem?_cons_zero, List.getElem?_cons_succ, List.getElem?_nil, List.set_cons_zero, List.set_cons_succ, List.length_cons, List.length_nil, Option.join_some, Option.join_none, List.replicate_succ, List.replicate_zero, List.cons_append, List.nil_append, Option.map_some, Nat.zero_add, Nat.reduceAdd, Nat.reduceSub, Bool.not_true, Bool.not_false, if_true, if_false, Bool.false_eq_true, true_and, and_true, decide_true, decide_false, Nat.reduceLeDiff, Nat.reduceEqDiff, reduceIte, reduceCtorEq, Bool.or_false, Bool.or_true, Bool.and_true, Bool.and_false, Bool.true_and, Bool.false_and, Bool.true_or, Bool.false_or, List.map_cons, List.map_nil, List.nodup_cons, List.nodup_nil, List.mem_cons, List.not_mem_nil, not_false_eq_true, or_false, false_or, seqV_S, seqV_R]
        exact dn rfl (.inl (by omega))
      · have e := of_decide_eq_false e
        simp -dsimp only [↓z_K, ↓z_VarO, ↓z_Var, ↓z_Move, ↓z_Of, ↓z_Fz, ↓z_Res, ↓z_VNil, ↓z_VCons, ↓z_Tup, ↓z_Lst, ↓z_Op2, ↓z_Tst, ↓z_Not, ↓z_Chain, ↓z_AndV, ↓z_OrV, ↓z_NotV, ↓z_And, ↓z_Or, ↓z_If, ↓z_Next, ↓z_Seq, ↓z_Break, ↓z_Cont, ↓z_Exp, ↓z_Ret, ↓z_RetN, ↓z_IfS, ↓z_Nm, ↓z_Tp, ↓z_GN, ↓z_GC, ↓z_Asg, ↓z_ONil, ↓z_OCons, ↓z_SetIx, ↓z_Call, ↓z_Sq, ↓z_Rev, ↓z_For, ↓z_Wh, ↓z_Lc, ↓z_Lc2, ↓z_All, ↓z_All2, ↓z_Yes, ↓z_CB, ↓z_Isi, ↓z_Neg, ↓z_NoP, ↓z_Prt, ↓z_Sl, ↓z_App, ↓z_Pop, ↓z_VK, ↓z_VKs, ↓z_Eq, ↓z_InL, ↓z_InK, ↓z_InT, ↓z_In1, ↓z_In2, ↓z_In3, ↓z_In4, ↓z_IxS, ↓z_Ix1, ↓z_Ix2, ↓z_Ix3, ↓z_Ix4, ↓z_Ix5, ↓z_put1, ↓z_put2, ↓z_put3, ↓z_Len, ↓z_TupC, ↓z_LstC, ↓z_Repr, ↓z_NewD, ↓z_DisK, ↓z_DisT, ↓z_Get1, ↓z_Get2, ↓z_get2K, ↓z_get2T, ↓z_fin, ↓z_Rng1, ↓z_Rng2, ↓rng1F_i, ↓rng2F_i, ↓z_Enm, ↓z_EnmA, ↓enmAF_l, ↓enmAF_t, ↓enmF_l, ↓z_Zip, ↓zipF_l, ↓zipF_t, ↓z_Par, ↓parF_r, ↓z_Par3, ↓par3F_r, ↓z_Never, ↓z_NevE, ↓z_getK, ↓z_getT, ↓z_AddI, ↓z_AddT, ↓z_AddO, ↓z_AddS, ↓z_MulI, ↓z_MulT, ↓z_LtI, ↓z_LtT, ↓z_IsN, ↓z_IntI, ↓z_SlT, ↓z_SlL, ↓z_SlO, ↓z_SlS, ↓z_Sub, ↓z_Mod, ↓z_Div, ↓z_Pow, ↓z_Le, ↓z_Gt, ↓z_Ge, ↓z_II, ↓varF_v, ↓varF_l, ↓mvF_o, ↓mvF_v, ↓mvF_s, ndF_some, ifB_t, ifB_f, con, sl, frzS, isB, tuO_t, daO, sqO_l, sqO_t, sqO_o, sqO_s, lsO, lenO_K, lenO_T, lenO_o, lenO_l, lenO_t, lenO_s, ngO, consO, argO, varsO, wrB, untag, owL, tyS, tyD_n, tyD_b, tyD_i, tyD_s, tyD_l, tyD_t, tyD_d, entryE, tagA, backA, wipeE, backE, keepS, seqD_l, seqD_t, seqV_l, seqV_t, liD_l, kyS, ksS, keyD_i, keyD_s, keysD, ixS, tupD_t, isDic, isT, eq_self, isNone_n, isNone_i, isNone_t, isNone_l, isNone_b, isNone_s, isNone_o, need_some, atI_0, atI_1, atI_2, atI_3, ixN_30, ixN_31, ixN_32, eqv_int, eqv_str, Int.toNat_natCast, List.getElem?_cons_zero, List.getElem?_cons_succ, List.getElem?_nil, List.set_cons_zero, List.set_cons_succ, List.length_cons, List.length_nil, Option.join_some, Option.join_none, List.replicate_succ, List.replicate_zero, List.cons_append, List.nil_append, Option.map_some, Nat.zero_add, Nat.reduceAdd, Nat.reduceSub, Bool.not_true, Bool.not_false, if_true, if_false, Bool.false_eq_true, true_and, and_true, decide_true, decide_false, Nat.reduceLeDiff, Nat.reduceEqDiff, reduceIte, reduceCtorEq, Bool.or_false, Bool.or_true, Bool.and_true, Bool.and_false, Bool.true_and, Bool.false_and, Bool.true_or, Bool.false_or, List.map_cons, List.map_nil, List.nodup_cons, List.nodup_nil, List.mem_cons, List.not_mem_nil, not_false_eq_true, or_false, false_or, seqV_S, seqV_R, ↓lt_eN]
        refine brB (fun e3 => ?_) fun e3 => ?_
        · simp -dsimp only [↓z_K, ↓z_VarO, ↓z_Var, ↓z_Move, ↓z_Of, ↓z_Fz, ↓z_Res, ↓z_VNil, ↓z_VCons, ↓z_Tup, ↓z_Lst, ↓z_Op2, ↓z_Tst, ↓z_Not, ↓z_Chain, ↓z_AndV, ↓z_OrV, ↓z_NotV, ↓z_And, ↓z_Or, ↓z_If, ↓z_Next, ↓z_Seq, ↓z_Break, ↓z_Cont, ↓z_Exp, ↓z_Ret, ↓z_RetN, ↓z_IfS, ↓z_Nm, ↓z_Tp, ↓z_GN, ↓z_GC, ↓z_Asg, ↓z_ONil, ↓z_OCons, ↓z_SetIx, ↓z_Call, ↓z_Sq, ↓z_Rev, ↓z_For, ↓z_Wh, ↓z_Lc, ↓z_Lc2, ↓z_All, ↓z_All2, ↓z_Yes, ↓z_CB, ↓z_Isi, ↓z_Neg, ↓z_NoP, ↓z_Prt, ↓z_Sl, ↓z_App, ↓z_Pop, ↓z_VK, ↓z_VKs, ↓z_Eq, ↓z_InL, ↓z_InK, ↓z_InT, ↓z_In1, ↓z_In2, ↓z_In3, ↓z_In4, ↓z_IxS, ↓z_Ix1, ↓z_Ix2, ↓z_Ix3, ↓z_Ix4, ↓z_Ix5, ↓z_put1, ↓z_put2, ↓z_put3, ↓z_Len, ↓z_TupC, ↓z_LstC, ↓z_Repr, ↓z_NewD, ↓z_DisK, ↓z_DisT, ↓z_Get1, ↓z_Get2, ↓z_get2K, ↓z_get2T, ↓z_fin, ↓z_Rng1, ↓z_Rng2, ↓rng1F_i, ↓rng2F_i, ↓z_Enm, ↓z_EnmA, ↓enmAF_l, ↓enmAF_t, ↓enmF_l, ↓z_Zip, ↓zipF_l, ↓zipF_t, ↓z_Par, ↓parF_r, ↓z_Par3, ↓par3F_r, ↓z_Never, ↓z_NevE, ↓z_getK, ↓z_getT, ↓z_AddI, ↓z_AddT, ↓z_AddO, ↓z_AddS, ↓z_MulI, ↓z_MulT, ↓z_LtI, ↓z_LtT, ↓z_IsN, ↓z_IntI, ↓z_SlT, ↓z_SlL, ↓z_SlO, ↓z_SlS, ↓z_Sub, ↓z_Mod, ↓z_Div, ↓z_Pow, ↓z_Le, ↓z_Gt, ↓z_Ge, ↓z_II, ↓varF_v, ↓varF_l, ↓mvF_o, ↓mvF_v, ↓mvF_s, ndF_some, ifB_t, ifB_f, con, sl, frzS, isB, tuO_t, daO, sqO_l, sqO_t, sqO_o, sqO_s, lsO, lenO_K, lenO_T, lenO_o, lenO_l, lenO_t, lenO_s, ngO, consO, argO, varsO, wrB, untag, owL, tyS, tyD_n, tyD_b, tyD_i, tyD_s, tyD_l, tyD_t, tyD_d, entryE, tagA, backA, wipeE, backE, keepS, seqD_l, seqD_t, seqV_l, seqV_t, liD_l, kyS, ksS, keyD_i, keyD_s, keysD, ixS, tupD_t, isDic, isT, eq_self, isNone_n, isNone_i, isNone_t, isNone_l, isNone_b, isNone_s, isNone_o, need_some, atI_0, atI_1, atI_2, atI_3, ixN_30, ixN_31, ixN_32, eqv_int, eqv_str, Int.toNat_natCast, List.getElem?_cons_zero, List.getElem?_cons_succ, List.getElem?_nil, List.set_cons_zero, List.set_cons_succ, List.length_cons, List.length_nil, Option.join_some, Option.join_none, List.replicate_succ, List.replicate_zero, List.cons_append, List.nil_append, Option.map_some, Nat.zero_add, Nat.reduceAdd, Nat.reduceSub, Bool.not_true, Bool.not_false, if_true, if_false, Bool.false_eq_true, true_and, and_true, decide_true, decide_false, Nat.reduceLeDiff, Nat.reduceEqDiff, reduceIte, reduceCtorEq, Bool.or_false, Bool.or_true, Bool.and_true, Bool.and_false, Bool.true_and, Bool.false_and, Bool.true_or, Bool.false_or, List.map_cons, List.map_nil, List.nodup_cons, List.nodup_nil, List.mem_cons, List.not_mem_nil, not_false_eq_true, or_false, false_or, seqV_S, seqV_R]
          have : u.length = w.length := by omega
          exact dn rfl (.inr ⟨this, lexLt_lx e3 this⟩)
        · simp -dsimp only [↓z_K, ↓z_VarO, ↓z_Var, ↓z_Move, ↓z_Of, ↓z_Fz, ↓z_Res, ↓z_VNil, ↓z_VCons, ↓z_Tup, ↓z_Lst, ↓z_Op2, ↓z_Tst, ↓z_Not, ↓z_Chain, ↓z_AndV, ↓z_OrV, ↓z_NotV, ↓z_And, ↓z_Or, ↓z_If, ↓z_Next, ↓z_Seq, ↓z_Break, ↓z_Cont, ↓z_Exp, ↓z_Ret, ↓z_RetN, ↓z_IfS, ↓z_Nm, ↓z_Tp, ↓z_GN, ↓z_GC, ↓z_Asg, ↓z_ONil, ↓z_OCons, ↓z_SetIx, ↓z_Call, ↓z_Sq, ↓z_Rev, ↓z_For, ↓z_Wh, ↓z_Lc, ↓z_Lc2, ↓z_All, ↓z_All2, ↓z_Yes, ↓z_CB, ↓z_Isi, ↓z_Neg, ↓z_NoP, ↓z_Prt, ↓z_Sl, ↓z_App, ↓z_Pop, ↓z_VK, ↓z_VKs, ↓z_Eq, ↓z_InL, ↓z_InK, ↓z_InT, ↓z_In1, ↓z_In2, ↓z_In3, ↓z_In4, ↓z_IxS, ↓z_Ix1, ↓z_Ix2, ↓z_Ix3, ↓z_Ix4, ↓z_Ix5, ↓z_put1, ↓z_put2, ↓z_put3, ↓z_Len, ↓z_TupC, ↓z_LstC, ↓z_Repr, ↓z_NewD, ↓z_DisK, ↓z_DisT, ↓z_Get1, ↓z_Get2, ↓z_get2K, ↓z_get2T, ↓z_fin, ↓z_Rng1, ↓z_Rng2, ↓rng1F_i, ↓rng2F_i, ↓z_Enm, ↓z_EnmA, ↓enmAF_l, ↓enmAF_t, ↓enmF_l, ↓z_Zip, ↓zipF_l, ↓zipF_t, ↓z_Par, ↓parF_r, ↓z_Par3, ↓par3F_r, ↓z_Never, ↓z_NevE, ↓z_getK, ↓z_getT, ↓z_AddI, ↓z_AddT, ↓z_AddO, ↓z_AddS, ↓z_MulI, ↓z_MulT, ↓z_LtI, ↓z_LtT, ↓z_IsN, ↓z_IntI, ↓z_SlT, ↓z_SlL, ↓z_SlO, ↓z_SlS, ↓z_Sub, ↓z_Mod, ↓z_Div, ↓z_Pow, ↓z_Le, ↓z_Gt, ↓z_Ge, ↓z_II, ↓varF_v, ↓varF_l, ↓mvF_o, ↓mvF_v, ↓mvF_s, ndF_some, ifB_t, ifB_f, con, sl, frzS, isB, tuO_t, daO, sqO_l, sqO_t, sqO_o, sqO_s, lsO, lenO_K, lenO_T, lenO_o, lenO_l, lenO_t, lenO_s, ngO, consO, argO, varsO, wrB, untag, owL, tyS, tyD_n, tyD_b, tyD_i, tyD_s, tyD_l, tyD_t, tyD_d, entryE, tagA, backA, wipeE, backE, keepS, seqD_l, seqD_t, seqV_l, seqV_t, liD_l, kyS, ksS, keyD_i, keyD_s, keysD, ixS, tupD_t, isDic, isT, eq_self, isNone_n, isNone_i, isNone_t, isNone_l, isNone_b, isNone_s, isNone_o, need_some, atI_0, atI_1, atI_2, atI_3, ixN_30, ixN_31, ixN_32, eqv_int, eqv_str, Int.toNat_natCast, List.getElem?_cons_zero, List.getElem?_cons_succ, List.getElem?_nil, List.set_cons_zero, List.set_cons_succ, List.length_cons, List.length_nil, Option.join_some, Option.join_none, List.replicate_succ, List.replicate_zero, List.cons_append, List.nil_append, Option.map_some, Nat.zero_add, Nat.reduceAdd, Nat.reduceSub, Bool.not_true, Bool.not_false, if_true, if_false, Bool.false_eq_true, true_and, and_true, decide_true, decide_false, Nat.reduceLeDiff, Nat.reduceEqDiff, reduceIte, reduceCtorEq, Bool.or_false, Bool.or_true, Bool.and_true, Bool.and_false, Bool.true_and, Bool.false_and, Bool.true_or, Bool.false_or, List.map_cons, List.map_nil, List.nodup_cons, List.nodup_nil, List.mem_cons, List.not_mem_nil, not_false_eq_true, or_false, false_or, seqV_S, seqV_R]
          exact hN0 _ ⟨us, _, rfl, rfl, by omega, huw⟩
    · rintro ys e ⟨us, x6, rfl, rfl, hus, huw⟩
      rw [List.length_map] at hus
      simp -dsimp only [↓z_K, ↓z_VarO, ↓z_Var, ↓z_Move, ↓z_Of, ↓z_Fz, ↓z_Res, ↓z_VNil, ↓z_VCons, ↓z_Tup, ↓z_Lst, ↓z_Op2, ↓z_Tst, ↓z_Not, ↓z_Chain, ↓z_AndV, ↓z_OrV, ↓z_NotV, ↓z_And, ↓z_Or, ↓z_If, ↓z_Next, ↓z_Seq, ↓z_Break, ↓z_Cont, ↓z_Exp, ↓z_Ret, ↓z_RetN, ↓z_IfS, ↓z_Nm, ↓z_Tp, ↓z_GN, ↓z_GC, ↓z_Asg, ↓z_ONil, ↓z_OCons, ↓z_SetIx, ↓z_Call, ↓z_Sq, ↓z_Rev, ↓z_For, ↓z_Wh, ↓z_Lc, ↓z_Lc2, ↓z_All, ↓z_All2, ↓z_Yes, ↓z_CB, ↓z_Isi, ↓z_Neg, ↓z_NoP, ↓z_Prt, ↓z_Sl, ↓z_App, ↓z_Pop, ↓z_VK, ↓z_VKs, ↓z_Eq, ↓z_InL, ↓z_InK, ↓z_InT, ↓z_In1, ↓z_In2, ↓z_In3, ↓z_In4, ↓z_IxS, ↓z_Ix1, ↓z_Ix2, ↓z_Ix3, ↓z_Ix4, ↓z_Ix5, ↓z_put1, ↓z_put2, ↓z_put3, ↓z_Len, ↓z_TupC, ↓z_LstC, ↓z_Repr, ↓z_NewD, ↓z_DisK, ↓z_DisT, ↓z_Get1, ↓z_Get2, ↓z_get2K, ↓z_get2T, ↓z_fin, ↓z_Rng1, ↓z_Rng2, ↓rng1F_i, ↓rng2F_i, ↓z_Enm, ↓z_EnmA, ↓enmAF_l, ↓enmAF_t, ↓enmF_l, ↓z_Zip, ↓zipF_l, ↓zipF_t, ↓z_Par, ↓parF_r, ↓z_Par3, ↓par3F_r, ↓z_Never, ↓z_NevE, ↓z_getK, ↓z_getT, ↓z_AddI, ↓z_AddT, ↓z_AddO, ↓z_AddS, ↓z_MulI, ↓z_MulT, ↓z_LtI, ↓z_LtT, ↓z_IsN, ↓z_IntI, ↓z_SlT, ↓z_SlL, ↓z_SlO, ↓z_SlS, ↓z_Sub, ↓z_Mod, ↓z_Div, ↓z_Pow, ↓z_Le, ↓z_Gt, ↓z_Ge, ↓z_II, ↓varF_v, ↓varF_l, ↓mvF_o, ↓mvF_v, ↓mvF_s, ndF_some, ifB_t, ifB_f, con, sl, frzS, isB, tuO_t, daO, sqO_l, sqO_t, sqO_o, sqO_s, lsO, lenO_K, lenO_T, lenO_o, lenO_l, lenO_t, lenO_s, ngO, consO, argO, varsO, wrB, untag, owL, tyS, tyD_n, tyD_b, tyD_i, tyD_s, tyD_l, tyD_t, tyD_d, entryE, tagA, backA, wipeE, backE, keepS, seqD_l, seqD_t, seqV_l, seqV_t, liD_l, kyS, ksS, keyD_i, keyD_s, keysD, ixS, tupD_t, isDic, isT, eq_self, isNone_n, isNone_i, isNone_t, isNone_l, isNone_b, isNone_s, isNone_o, need_some, atI_0, atI_1, atI_2, atI_3, ixN_30, ixN_31, ixN_32, eqv_int, eqv_str, Int.toNat_natCast, List.getElem?_cons_zero, List.getElem?_cons_succ, List.getElem?_nil, List.set_cons_zero, List.set_cons_succ, List.length_cons, List.length_nil, Option.join_some, Option.join_none, List.replicate_succ, List.replicate_zero, List.cons_append, List.nil_append, Option.map_some, Nat.zero_add, Nat.reduceAdd, Nat.reduceSub, Bool.not_true, Bool.not_false, if_true, if_false, Bool.false_eq_true, true_and, and_true, decide_true, decide_false, Nat.reduceLeDiff, Nat.reduceEqDiff, reduceIte, reduceCtorEq, Bool.or_false, Bool.or_true, Bool.and_true, Bool.and_false, Bool.true_and, Bool.false_and, Bool.true_or, Bool.false_or, List.map_cons, List.map_nil, List.nodup_cons, List.nodup_nil, List.mem_cons, List.not_mem_nil, not_false_eq_true, or_false, false_or, seqV_S, seqV_R, List.length_map]
      refine ⟨Nat.le_of_lt (szlt (by omega)), ?_⟩
      refine h1 _ ?_
      rw [← List.map_append]
      simp -dsimp only [↓z_K, ↓z_VarO, ↓z_Var, ↓z_Move, ↓z_Of, ↓z_Fz, ↓z_Res, ↓z_VNil, ↓z_VCons, ↓z_Tup, ↓z_Lst, ↓z_Op2, ↓z_Tst, ↓z_Not, ↓z_Chain, ↓z_AndV, ↓z_OrV, ↓z_NotV, ↓z_And, ↓z_Or, ↓z_If, ↓z_Next, ↓z_Seq, ↓z_Break, ↓z_Cont, ↓z_Exp, ↓z_Ret, ↓z_RetN, ↓z_IfS, ↓z_Nm, ↓z_Tp, ↓z_GN, ↓z_GC, ↓z_Asg, ↓z_ONil, ↓z_OCons, ↓z_SetIx, ↓z_Call, ↓z_Sq, ↓z_Rev, ↓z_For, ↓z_Wh, ↓z_Lc, ↓z_Lc2, ↓z_All, ↓z_All2, ↓z_Yes, ↓z_CB, ↓z_Isi, ↓z_Neg, ↓z_NoP, ↓z_Prt, ↓z_Sl, ↓z_App, ↓z_Pop, ↓z_VK, ↓z_VKs, ↓z_Eq, ↓z_InL, ↓z_InK, ↓z_InT, ↓z_In1, ↓z_In2, ↓z_In3, ↓z_In4, ↓z_IxS, ↓z_Ix1, ↓z_Ix2, ↓z_Ix3, ↓z_Ix4, ↓z_Ix5, ↓z_put1, ↓z_put2, ↓z_put3, ↓z_Len, ↓z_TupC, ↓z_LstC, ↓z_Repr, ↓z_NewD, ↓z_DisK, ↓z_DisT, ↓z_Get1, ↓z_Get2, ↓z_get2K, ↓z_get2T, ↓z_fin, ↓z_Rng1, ↓z_Rng2, ↓rng1F_i, ↓rng2F_i, ↓z_Enm, ↓z_EnmA, ↓enmAF_l, ↓enmAF_t, ↓enmF_l, ↓z_Zip, ↓zipF_l, ↓zipF_t, ↓z_Par, ↓parF_r, ↓z_Par3, ↓par3F_r, ↓z_Never, ↓z_NevE, ↓z_getK, ↓z_getT, ↓z_AddI, ↓z_AddT, ↓z_AddO, ↓z_AddS, ↓z_MulI, ↓z_MulT, ↓z_LtI, ↓z_LtT, ↓z_IsN, ↓z_IntI, ↓z_SlT, ↓z_SlL, ↓z_SlO, ↓z_SlS, ↓z_Sub, ↓z_Mod, ↓z_Div, ↓z_Pow, ↓z_Le, ↓z_Gt, ↓z_Ge, ↓z_II, ↓varF_v, ↓varF_l, ↓mvF_o, ↓mvF_v, ↓mvF_s, ndF_some, ifB_t, ifB_f, con, sl, frzS, isB, tuO_t, daO, sqO_l, sqO_t, sqO_o, sqO_s, lsO, lenO_K, lenO_T, lenO_o, lenO_l, lenO_t, lenO_s, ngO, consO, argO, varsO, wrB, untag, owL, tyS, tyD_n, tyD_b, tyD_i, tyD_s, tyD_l, tyD_t, tyD_d, entryE, tagA, backA, wipeE, backE, keepS, seqD_l, seqD_t, seqV_l, seqV_t, liD_l, kyS, ksS, keyD_i, keyD_s, keysD, ixS, tupD_t, isDic, isT, eq_self, isNone_n, isNone_i, isNone_t, isNone_l, isNone_b, isNone_s, isNone_o, need_some, atI_0, atI_1, atI_2, atI_3, ixN_30, ixN_31, ixN_32, eqv_int, eqv_str, Int.toNat_natCast, List.getElem?_cons_zero, List.getElem?_cons_succ, List.getElem?_nil, List.set_cons_zero, List.set_cons_succ, List.length_cons, List.length_nil, Option.join_some, Option.join_none, List.replicate_succ, List.replicate_zero, List.cons_append, List.nil_append, Option.map_some, Nat.zero_add, Nat.reduceAdd, Nat.reduceSub, Bool.not_true, Bool.not_false, if_true, if_false, Bool.false_eq_true, true_and, and_true, decide_true, decide_false, Nat.reduceLeDiff, Nat.reduceEqDiff, reduceIte, reduceCtorEq, Bool.or_false, Bool.or_true, Bool.and_true, Bool.and_false, Bool.true_and, Bool.false_and, Bool.true_or, Bool.false_or, List.map_cons, List.map_nil, List.nodup_cons, List.nodup_nil, List.mem_cons, List.not_mem_nil, not_false_eq_true, or_false, false_or, seqV_S, seqV_R]
      refine ⟨Nat.zero_le _, ?_⟩
      refine for_inv (fun j e => ∃ (longer : List (List Nat)) (x6 x7 : Option Slot), e = [some (.val (.int L)), some (.val (eN w)), LWw (found ++ us), some (.val (.list (level.map eN))), some (.val (.int i)), LWw longer, x6, x7] ∧ longer.length ≤ 3 * j ∧ ∀ u ∈ longer, (∀ a ∈ u, a < L) ∧ u.length = i + 1)
        ⟨[], _, _, rfl, by simp, by simp⟩ ?_ ?_
      · rintro j d e N2 hd2 ⟨longer, x6, x7, rfl, hlo, hlow⟩ hN2
        have hj := getElem?_lt' hd2
        rw [List.length_map] at hj
        rw [List.getElem?_map, Option.map_eq_some_iff] at hd2
        obtain ⟨u, hu, rfl⟩ := hd2
        obtain ⟨hua, hul⟩ := hlw u (List.mem_of_getElem? hu)
        unfold w__law_shorter_b1
        simp -dsimp only [↓z_K, ↓z_VarO, ↓z_Var, ↓z_Move, ↓z_Of, ↓z_Fz, ↓z_Res, ↓z_VNil, ↓z_VCons, ↓z_Tup, ↓z_Lst, ↓z_Op2, ↓z_Tst, ↓z_Not, ↓z_Chain, ↓z_AndV, ↓z_OrV, ↓z_NotV, ↓z_And, ↓z_Or, ↓z_If, ↓z_Next, ↓z_Seq, ↓z_Break, ↓z_Cont, ↓z_Exp, ↓z_Ret, ↓z_RetN, ↓z_IfS, ↓z_Nm, ↓z_Tp, ↓z_GN, ↓z_GC, ↓z_Asg, ↓z_ONil, ↓z_OCons, ↓z_SetIx, ↓z_Call, ↓z_Sq, ↓z_Rev, ↓z_For, ↓z_Wh, ↓z_Lc, ↓z_Lc2, ↓z_All, ↓z_All2, ↓z_Yes, ↓z_CB, ↓z_Isi, ↓z_Neg, ↓z_NoP, ↓z_Prt, ↓z_Sl, ↓z_App, ↓z_Pop, ↓z_VK, ↓z_VKs, ↓z_Eq, ↓z_InL, ↓z_InK, ↓z_InT, ↓z_In1, ↓z_In2, ↓z_In3, ↓z_In4, ↓z_IxS, ↓z_Ix1, ↓z_Ix2, ↓z_Ix3, ↓z_Ix4, ↓z_Ix5, ↓z_put1, ↓z_put2, ↓z_put3, ↓z_Len, ↓z_TupC, ↓z_LstC, ↓z_Repr, ↓z_NewD, ↓z_DisK, ↓z_DisT, ↓z_Get1, ↓z_Get2, ↓z_get2K, ↓z_get2T, ↓z_fin, ↓z_Rng1, ↓z_Rng2, ↓rng1F_i, ↓rng2F_i, ↓z_Enm, ↓z_EnmA, ↓enmAF_l, ↓enmAF_t, ↓enmF_l, ↓z_Zip, ↓zipF_l, ↓zipF_t, ↓z_Par, ↓parF_r, ↓z_Par3, ↓par3F_r, ↓z_Never, ↓z_NevE, ↓z_getK, ↓z_getT, ↓z_AddI, ↓z_AddT, ↓z_AddO, ↓z_AddS, ↓z_MulI, ↓z_MulT, ↓z_LtI, ↓z_LtT, ↓z_IsN, ↓z_IntI, ↓z_SlT, ↓z_SlL, ↓z_SlO, ↓z_SlS, ↓z_Sub, ↓z_Mod, ↓z_Div, ↓z_Pow, ↓z_Le, ↓z_Gt, ↓z_Ge, ↓z_II, ↓varF_v, ↓varF_l, ↓mvF_o, ↓mvF_v, ↓mvF_s, ndF_some, ifB_t, ifB_f, con, sl, frzS, isB, tuO_t, daO, sqO_l, sqO_t, sqO_o, sqO_s, lsO, lenO_K, lenO_T, lenO_o, lenO_l, lenO_t, lenO_s, ngO, consO, argO, varsO, wrB, untag, owL, tyS, tyD_n, tyD_b, tyD_i, tyD_s, tyD_l, tyD_t, tyD_d, entryE, tagA, backA, wipeE, backE, keepS, seqD_l, seqD_t, seqV_l, seqV_t, liD_l, kyS, ksS, keyD_i, keyD_s, keysD, ixS, tupD_t, isDic, isT, eq_self, isNone_n, isNone_i, isNone_t, isNone_l, isNone_b, isNone_s, isNone_o, need_some, atI_0, atI_1, atI_2, atI_3, ixN_30, ixN_31, ixN_32, eqv_int, eqv_str, Int.toNat_natCast, List.getElem?_cons_zero, List.getElem?_cons_succ, List.getElem?_nil, List.set_cons_zero, List.set_cons_succ, List.length_cons, List.length_nil, Option.join_some, Option.join_none, List.replicate_succ, List.replicate_zero, List.cons_append, List.nil_append, Option.map_some, Nat.zero_add, Nat.reduceAdd, Nat.reduceSub, Bool.not_true, Bool.not_false, if_true, if_false, Bool.false_eq_true, true_and, and_true, decide_true, decide_false, Nat.reduceLeDiff, Nat.reduceEqDiff, reduceIte, reduceCtorEq, Bool.or_false, Bool.or_true, Bool.and_true, Bool.and_false, Bool.true_and, Bool.false_and, Bool.true_or, Bool.false_or, List.map_cons, List.map_nil, List.nodup_cons, List.nodup_nil, List.mem_cons, List.not_mem_nil, not_false_eq_true, or_false, false_or, seqV_S, seqV_R]
        refine ⟨by omega, by rw [rngD_length]; exact Nat.le_of_lt (szlt (by omega)), ?_⟩
        refine lc_inv (fun l ys e => ∃ (us2 : List (List Nat)) (x7 : Option Slot), e = [some (.val (.int L)), some (.val (eN w)), LWw (found ++ us), some (.val (.list (level.map eN))), some (.val (.int i)), LWw longer, some (.val (eN u)), x7] ∧ ys = us2.map eN ∧ us2.length = l ∧ ∀ u ∈ us2, (∀ a ∈ u, a < L) ∧ u.length = i + 1)
          ⟨[], _, rfl, rfl, rfl, by simp⟩ ?_ ?_
        · rintro l d ys e N1 N0 hd3 ⟨us2, x7, rfl, rfl, hu2, hu2w⟩ hN1 hN0
          obtain ⟨hl, rfl⟩ := rng0_get hd3
          have hl : l < L := by simpa using hl
          unfold w__law_shorter_e1
          simp -dsimp only [↓z_K, ↓z_VarO, ↓z_Var, ↓z_Move, ↓z_Of, ↓z_Fz, ↓z_Res, ↓z_VNil, ↓z_VCons, ↓z_Tup, ↓z_Lst, ↓z_Op2, ↓z_Tst, ↓z_Not, ↓z_Chain, ↓z_AndV, ↓z_OrV, ↓z_NotV, ↓z_And, ↓z_Or, ↓z_If, ↓z_Next, ↓z_Seq, ↓z_Break, ↓z_Cont, ↓z_Exp, ↓z_Ret, ↓z_RetN, ↓z_IfS, ↓z_Nm, ↓z_Tp, ↓z_GN, ↓z_GC, ↓z_Asg, ↓z_ONil, ↓z_OCons, ↓z_SetIx, ↓z_Call, ↓z_Sq, ↓z_Rev, ↓z_For, ↓z_Wh, ↓z_Lc, ↓z_Lc2, ↓z_All, ↓z_All2, ↓z_Yes, ↓z_CB, ↓z_Isi, ↓z_Neg, ↓z_NoP, ↓z_Prt, ↓z_Sl, ↓z_App, ↓z_Pop, ↓z_VK, ↓z_VKs, ↓z_Eq, ↓z_InL, ↓z_InK, ↓z_InT, ↓z_In1, ↓z_In2, ↓z_In3, ↓z_In4, ↓z_IxS, ↓z_Ix1, ↓z_Ix2, ↓z_Ix3, ↓z_Ix4, ↓z_Ix5, ↓z_put1, ↓z_put2, ↓z_put3, ↓z_Len, ↓z_TupC, ↓z_LstC, ↓z_Repr, ↓z_NewD, ↓z_DisK, ↓z_DisT, ↓z_Get1, ↓z_Get2, ↓z_get2K, ↓z_get2T, ↓z_fin, ↓z_Rng1, ↓z_Rng2, ↓rng1F_i, ↓rng2F_i, ↓z_Enm, ↓z_EnmA, ↓enmAF_l, ↓enmAF_t, ↓enmF_l, ↓z_Zip, ↓zipF_l, ↓zipF_t, ↓z_Par, ↓parF_r, ↓z_Par3, ↓par3F_r, ↓z_Never, ↓z_NevE, ↓z_getK, ↓z_getT, ↓z_AddI, ↓z_AddT, ↓z_AddO, ↓z_AddS, ↓z_MulI, ↓z_MulT, ↓z_LtI, ↓z_LtT, ↓z_IsN, ↓z_IntI, ↓z_SlT, ↓z_SlL, ↓z_SlO, ↓z_SlS, ↓z_Sub, ↓z_Mod, ↓z_Div, ↓z_Pow, ↓z_Le, ↓z_Gt, ↓z_Ge, ↓z_II, ↓varF_v, ↓varF_l, ↓mvF_o, ↓mvF_v, ↓mvF_s, ndF_some, ifB_t, ifB_f, con, sl, frzS, isB, tuO_t, daO, sqO_l, sqO_t, sqO_o, sqO_s, lsO, lenO_K, lenO_T, lenO_o, lenO_l, lenO_t, lenO_s, ngO, consO, argO, varsO, wrB, untag, owL, tyS, tyD_n, tyD_b, tyD_i, tyD_s, tyD_l, tyD_t, tyD_d, entryE, tagA, backA, wipeE, backE, keepS, seqD_l, seqD_t, seqV_l, seqV_t, liD_l, kyS, ksS, keyD_i, keyD_s, keysD, ixS, tupD_t, isDic, isT, eq_self, isNone_n, isNone_i, isNone_t, isNone_l, isNone_b, isNone_s, isNone_o, need_some, atI_0, atI_1, atI_2, atI_3, ixN_30, ixN_31, ixN_32, eqv_int, eqv_str, Int.toNat_natCast, List.getElem?_cons_zero, List.getElem?_cons_succ, List.getElem?_nil, List.set_cons_zero, List.set_cons_succ, List.length_cons, List.length_nil, Option.join_some, Option.join_none, List.replicate_succ, List.replicate_zero, List.cons_append, List.nil_append, Option.map_some, Nat.zero_add, Nat.reduceAdd, Nat.reduceSub, Bool.not_true, Bool.not_false, if_true, if_false, Bool.false_eq_true, true_and, and_true, decide_true, decide_false, Nat.reduceLeDiff, Nat.reduceEqDiff, reduceIte, reduceCtorEq, Bool.or_false, Bool.or_true, Bool.and_true, Bool.and_false, Bool.true_and, Bool.false_and, Bool.true_or, Bool.false_or, List.map_cons, List.map_nil, List.nodup_cons, List.nodup_nil, List.mem_cons, List.not_mem_nil, not_false_eq_true, or_false, false_or, seqV_S, seqV_R, eN, List.length_map]
          refine ⟨sz1, Nat.le_of_lt (szlt (by omega)), ?_⟩
          rw [eN_snoc]
          exact hN1 _ _ ⟨us2 ++ [u ++ [l]], _, rfl, by simp, by simp [hu2], mem_snoc' hu2w ⟨mem_ls hua hl, by simp [hul]⟩⟩
        · rintro ys e ⟨us2, x7, rfl, rfl, hu2, hu2w⟩
          rw [rngD_length] at hu2
          simp -dsimp only [↓z_K, ↓z_VarO, ↓z_Var, ↓z_Move, ↓z_Of, ↓z_Fz, ↓z_Res, ↓z_VNil, ↓z_VCons, ↓z_Tup, ↓z_Lst, ↓z_Op2, ↓z_Tst, ↓z_Not, ↓z_Chain, ↓z_AndV, ↓z_OrV, ↓z_NotV, ↓z_And, ↓z_Or, ↓z_If, ↓z_Next, ↓z_Seq, ↓z_Break, ↓z_Cont, ↓z_Exp, ↓z_Ret, ↓z_RetN, ↓z_IfS, ↓z_Nm, ↓z_Tp, ↓z_GN, ↓z_GC, ↓z_Asg, ↓z_ONil, ↓z_OCons, ↓z_SetIx, ↓z_Call, ↓z_Sq, ↓z_Rev, ↓z_For, ↓z_Wh, ↓z_Lc, ↓z_Lc2, ↓z_All, ↓z_All2, ↓z_Yes, ↓z_CB, ↓z_Isi, ↓z_Neg, ↓z_NoP, ↓z_Prt, ↓z_Sl, ↓z_App, ↓z_Pop, ↓z_VK, ↓z_VKs, ↓z_Eq, ↓z_InL, ↓z_InK, ↓z_InT, ↓z_In1, ↓z_In2, ↓z_In3, ↓z_In4, ↓z_IxS, ↓z_Ix1, ↓z_Ix2, ↓z_Ix3, ↓z_Ix4, ↓z_Ix5, ↓z_put1, ↓z_put2, ↓z_put3, ↓z_Len, ↓z_TupC, ↓z_LstC, ↓z_Repr, ↓z_NewD, ↓z_DisK, ↓z_DisT, ↓z_Get1, ↓z_Get2, ↓z_get2K, ↓z_get2T, ↓z_fin, ↓z_Rng1, ↓z_Rng2, ↓rng1F_i, ↓rng2F_i, ↓z_Enm, ↓z_EnmA, ↓enmAF_l, ↓enmAF_t, ↓enmF_l, ↓z_Zip, ↓zipF_l, ↓zipF_t, ↓z_Par, ↓parF_r, ↓z_Par3, ↓par3F_r, ↓z_Never, ↓z_NevE, ↓z_getK, ↓z_getT, ↓z_AddI, ↓z_AddT, ↓z_AddO, ↓z_AddS, ↓z_MulI, ↓z_MulT, ↓z_LtI, ↓z_LtT, ↓z_IsN, ↓z_IntI, ↓z_SlT, ↓z_SlL, ↓z_SlO, ↓z_SlS, ↓z_Sub, ↓z_Mod, ↓z_Div, ↓z_Pow, ↓z_Le, ↓z_Gt, ↓z_Ge, ↓z_II, ↓varF_v, ↓varF_l, ↓mvF_o, ↓mvF_v, ↓mvF_s, ndF_some, ifB_t, ifB_f, con, sl, frzS, isB, tuO_t, daO, sqO_l, sqO_t, sqO_o, sqO_s, lsO, lenO_K, lenO_T, lenO_o, lenO_l, lenO_t, lenO_s, ngO, consO, argO, varsO, wrB, untag, owL, tyS, tyD_n, tyD_b, tyD_i, tyD_s, tyD_l, tyD_t, tyD_d, entryE, tagA, backA, wipeE, backE, keepS, seqD_l, seqD_t, seqV_l, seqV_t, liD_l, kyS, ksS, keyD_i, keyD_s, keysD, ixS, tupD_t, isDic, isT, eq_self, isNone_n, isNone_i, isNone_t, isNone_l, isNone_b, isNone_s, isNone_o, need_some, atI_0, atI_1, atI_2, atI_3, ixN_30, ixN_31, ixN_32, eqv_int, eqv_str, Int.toNat_natCast, List.getElem?_cons_zero, List.getElem?_cons_succ, List.getElem?_nil, List.set_cons_zero, List.set_cons_succ, List.length_cons, List.length_nil, Option.join_some, Option.join_none, List.replicate_succ, List.replicate_zero, List.cons_append, List.nil_append, Option.map_some, Nat.zero_add, Nat.reduceAdd, Nat.reduceSub, Bool.not_true, Bool.not_false, if_true, if_false, Bool.false_eq_true, true_and, and_true, decide_true, decide_false, Nat.reduceLeDiff, Nat.reduceEqDiff, reduceIte, reduceCtorEq, Bool.or_false, Bool.or_true, Bool.and_true, Bool.and_false, Bool.true_and, Bool.false_and, Bool.true_or, Bool.false_or, List.map_cons, List.map_nil, List.nodup_cons, List.nodup_nil, List.mem_cons, List.not_mem_nil, not_false_eq_true, or_false, false_or, seqV_S, seqV_R, List.length_map]
          refine ⟨Nat.le_of_lt (szlt (by omega)), ?_⟩
          rw [← List.map_append]
          exact hN2 _ ⟨longer ++ us2, _, _, rfl, by simp; omega, mem_app hlow hu2w⟩
      · rintro e ⟨longer, x6, x7, rfl, hlo, hlow⟩
        rw [List.length_map] at hlo
        simp -dsimp only [↓z_K, ↓z_VarO, ↓z_Var, ↓z_Move, ↓z_Of, ↓z_Fz, ↓z_Res, ↓z_VNil, ↓z_VCons, ↓z_Tup, ↓z_Lst, ↓z_Op2, ↓z_Tst, ↓z_Not, ↓z_Chain, ↓z_AndV, ↓z_OrV, ↓z_NotV, ↓z_And, ↓z_Or, ↓z_If, ↓z_Next, ↓z_Seq, ↓z_Break, ↓z_Cont, ↓z_Exp, ↓z_Ret, ↓z_RetN, ↓z_IfS, ↓z_Nm, ↓z_Tp, ↓z_GN, ↓z_GC, ↓z_Asg, ↓z_ONil, ↓z_OCons, ↓z_SetIx, ↓z_Call, ↓z_Sq, ↓z_Rev, ↓z_For, ↓z_Wh, ↓z_Lc, ↓z_Lc2, ↓z_All, ↓z_All2, ↓z_Yes, ↓z_CB, ↓z_Isi, ↓z_Neg, ↓z_NoP, ↓z_Prt, ↓z_Sl, ↓z_App, ↓z_Pop, ↓z_VK, ↓z_VKs, ↓z_Eq, ↓z_InL, ↓z_InK, ↓z_InT, ↓z_In1, ↓z_In2, ↓z_In3, ↓z_In4, ↓z_IxS, ↓z_Ix1, ↓z_Ix2, ↓z_Ix3, ↓z_Ix4, ↓z_Ix5, ↓z_put1, ↓z_put2, ↓z_put3, ↓z_Len, ↓z_TupC, ↓z_LstC, ↓z_Repr, ↓z_NewD, ↓z_DisK, ↓z_DisT, ↓z_Get1, ↓z_Get2, ↓z_get2K, ↓z_get2T, ↓z_fin, ↓z_Rng1, ↓z_Rng2, ↓rng1F_i, ↓rng2F_i, ↓z_Enm, ↓z_EnmA, ↓enmAF_l, ↓enmAF_t, ↓enmF_l, ↓z_Zip, ↓zipF_l, ↓zipF_t, ↓z_Par, ↓parF_r, ↓z_Par3, ↓par3F_r, ↓z_Never, ↓z_NevE, ↓z_getK, ↓z_getT, ↓z_AddI, ↓z_AddT, ↓z_AddO, ↓z_AddS, ↓z_MulI, ↓z_MulT, ↓z_LtI, ↓z_LtT, ↓z_IsN, ↓z_IntI, ↓z_SlT, ↓z_SlL, ↓z_SlO, ↓z_SlS, ↓z_Sub, ↓z_Mod, ↓z_Div, ↓z_Pow, ↓z_Le, ↓z_Gt, ↓z_Ge, ↓z_II, ↓varF_v, ↓varF_l, ↓mvF_o, ↓mvF_v, ↓mvF_s, ndF_some, ifB_t, ifB_f, con, sl, frzS, isB, tuO_t, daO, sqO_l, sqO_t, sqO_o, sqO_s, lsO, lenO_K, lenO_T, lenO_o, lenO_l, lenO_t, lenO_s, ngO, consO, argO, varsO, wrB, untag, owL, tyS, tyD_n, tyD_b, tyD_i, tyD_s, tyD_l, tyD_t, tyD_d, entryE, tagA, backA, wipeE, backE, keepS, seqD_l, seqD_t, seqV_l, seqV_t, liD_l, kyS, ksS, keyD_i, keyD_s, keysD, ixS, tupD_t, isDic, isT, eq_self, isNone_n, isNone_i, isNone_t, isNone_l, isNone_b, isNone_s, isNone_o, need_some, atI_0, atI_1, atI_2, atI_3, ixN_30, ixN_31, ixN_32, eqv_int, eqv_str, Int.toNat_natCast, List.getElem?_cons_zero, List.getElem?_cons_succ, List.getElem?_nil, List.set_cons_zero, List.set_cons_succ, List.length_cons, List.length_nil, Option.join_some, Option.join_none, List.replicate_succ, List.replicate_zero, List.cons_append, List.nil_append, Option.map_some, Nat.zero_add, Nat.reduceAdd, Nat.reduceSub, Bool.not_true, Bool.not_false, if_true, if_false, Bool.false_eq_true, true_and, and_true, decide_true, decide_false, Nat.reduceLeDiff, Nat.reduceEqDiff, reduceIte, reduceCtorEq, Bool.or_false, Bool.or_true, Bool.and_true, Bool.and_false, Bool.true_and, Bool.false_and, Bool.true_or, Bool.false_or, List.map_cons, List.map_nil, List.nodup_cons, List.nodup_nil, List.mem_cons, List.not_mem_nil, not_false_eq_true, or_false, false_or, seqV_S, seqV_R]
        exact hN _ ⟨found ++ us, longer, _, _, _, _, rfl, by rw [Nat.pow_succ]; omega, by simp; omega, hlow, mem_app hfw huw⟩
  · rintro e ⟨found, level, x4, x5, x6, x7, rfl, hlv, hfd, hlw, hfw⟩
    rw [rngD_length] at hfd
    simp -dsimp only [↓z_K, ↓z_VarO, ↓z_Var, ↓z_Move, ↓z_Of, ↓z_Fz, ↓z_Res, ↓z_VNil, ↓z_VCons, ↓z_Tup, ↓z_Lst, ↓z_Op2, ↓z_Tst, ↓z_Not, ↓z_Chain, ↓z_AndV, ↓z_OrV, ↓z_NotV, ↓z_And, ↓z_Or, ↓z_If, ↓z_Next, ↓z_Seq, ↓z_Break, ↓z_Cont, ↓z_Exp, ↓z_Ret, ↓z_RetN, ↓z_IfS, ↓z_Nm, ↓z_Tp, ↓z_GN, ↓z_GC, ↓z_Asg, ↓z_ONil, ↓z_OCons, ↓z_SetIx, ↓z_Call, ↓z_Sq, ↓z_Rev, ↓z_For, ↓z_Wh, ↓z_Lc, ↓z_Lc2, ↓z_All, ↓z_All2, ↓z_Yes, ↓z_CB, ↓z_Isi, ↓z_Neg, ↓z_NoP, ↓z_Prt, ↓z_Sl, ↓z_App, ↓z_Pop, ↓z_VK, ↓z_VKs, ↓z_Eq, ↓z_InL, ↓z_InK, ↓z_InT, ↓z_In1, ↓z_In2, ↓z_In3, ↓z_In4, ↓z_IxS, ↓z_Ix1, ↓z_Ix2, ↓z_Ix3, ↓z_Ix4, ↓z_Ix5, ↓z_put1, ↓z_put2, ↓z_put3, ↓z_Len, ↓z_TupC, ↓z_LstC, ↓z_Repr, ↓z_NewD, ↓z_DisK, ↓z_DisT, ↓z_Get1, ↓z_Get2, ↓z_get2K, ↓z_get2T, ↓z_fin, ↓z_Rng1, ↓z_Rng2, ↓rng1F_i, ↓rng2F_i, ↓z_Enm, ↓z_EnmA, ↓enmAF_l, ↓enmAF_t, ↓enmF_l, ↓z_Zip, ↓zipF_l, ↓zipF_t, ↓z_Par, ↓parF_r, ↓z_Par3, ↓par3F_r, ↓z_Never, ↓z_NevE, ↓z_getK, ↓z_getT, ↓z_AddI, ↓z_AddT, ↓z_AddO, ↓z_AddS, ↓z_MulI, ↓z_MulT, ↓z_LtI, ↓z_LtT, ↓z_IsN, ↓z_IntI, ↓z_SlT, ↓z_SlL, ↓z_SlO, ↓z_SlS, ↓z_Sub, ↓z_Mod, ↓z_Div, ↓z_Pow, ↓z_Le, ↓z_Gt, ↓z_Ge, ↓z_II, ↓varF_v, ↓varF_l, ↓mvF_o, ↓mvF_v, ↓mvF_s, ndF_some, ifB_t, ifB_f, con, sl, frzS, isB, tuO_t, daO, sqO_l, sqO_t, sqO_o, sqO_s, lsO, lenO_K, lenO_T, lenO_o, lenO_l, lenO_t, lenO_s, ngO, consO, argO, varsO, wrB, untag, owL, tyS, tyD_n, tyD_b, tyD_i, tyD_s, tyD_l, tyD_t, tyD_d, entryE, tagA, backA, wipeE, backE, keepS, seqD_l, seqD_t, seqV_l, seqV_t, liD_l, kyS, ksS, keyD_i, keyD_s, keysD, ixS, tupD_t, isDic, isT, eq_self, isNone_n, isNone_i, isNone_t, isNone_l, isNone_b, isNone_s, isNone_o, need_some, atI_0, atI_1, atI_2, atI_3, ixN_30, ixN_31, ixN_32, eqv_int, eqv_str, Int.toNat_natCast, List.getElem?_cons_zero, List.getElem?_cons_succ, List.getElem?_nil, List.set_cons_zero, List.set_cons_succ, List.length_cons, List.length_nil, Option.join_some, Option.join_none, List.replicate_succ, List.replicate_zero, List.cons_append, List.nil_append, Option.map_some, Nat.zero_add, Nat.reduceAdd, Nat.reduceSub, Bool.not_true, Bool.not_false, if_true, if_false, Bool.false_eq_true, true_and, and_true, decide_true, decide_false, Nat.reduceLeDiff, Nat.reduceEqDiff, reduceIte, reduceCtorEq, Bool.or_false, Bool.or_true, Bool.and_true, Bool.and_false, Bool.true_and, Bool.false_and, Bool.true_or, Bool.false_or, List.map_cons, List.map_nil, List.nodup_cons, List.nodup_nil, List.mem_cons, List.not_mem_nil, not_false_eq_true, or_false, false_or, seqV_S, seqV_R]
    exact h found (by omega) hfw
end DV

set_option Elab.async false
set_option linter.all false
set_option maxRecDepth 100000
set_option maxHeartbeats 4000000
namespace DV
open PySem PySem.Spec PyProof.Rows L2
/-! ### texts -/
theorem wt_ent {S A : Nat} {x : Ent} (h : FullE S A x) (hS : S ≤ 600) (hA : A ≤ 9) : ∃ a, a ≤ 13 ∧ wt (eE x) = some a := by
  obtain ⟨s, a, rfl, hs, ha⟩ := h
  refine ⟨_, ?_, wt_tup (b := 10) ?_⟩
  · decide
  · simp only [wtAll, wt_int (n := s) (by omega), wt_int (n := a) (by omega)]
theorem wt_row {L S A : Nat} {r : Row} (h : FullR L S A r) (hL : L ≤ 3) (hS : S ≤ 600) (hA : A ≤ 9) : ∃ a, a ≤ 48 ∧ wt (eR r) = some a := by
  obtain ⟨b, h1, h2⟩ := wtAll_map (f := eE) (c := 13) (xs := r) fun x hx => wt_ent (h.2 x hx) hS hA
  have := h.1
  exact ⟨b + 3, by omega, wt_tup h2⟩
theorem wt_eS {m : Sk} (hm : Mach m) : ∃ a, a ≤ 620 ∧ wt (eS m) = some a := by
  have := hm.l3; have := hm.a9; have := hm.n12
  obtain ⟨b, h1, h2⟩ := wtAll_map (f := eR) (c := 48) (xs := m.rows) fun r hr => wt_row (hm.full r hr) hm.l3 (by omega) hm.a9
  refine ⟨_, ?_, wt_tup (b := 3 + (3 + (b + 3 + 0 + 2) + 2) + 2) ?_⟩
  · omega
  · simp only [wtAll, wt_int (n := m.L) (by omega), wt_int (n := m.A) (by omega), wt_tup h2]
theorem flat_eE {x : Ent} : Flat 1 (eE x) := by
  cases x with
  | none => exact flat_none
  | some p =>
    refine flat_tup fun d hd => ?_
    simp only [List.mem_cons, List.not_mem_nil, or_false] at hd
    rcases hd with rfl | rfl <;> exact flat_int
theorem flat_eR {r : Row} : Flat 2 (eR r) := flat_tup fun d hd => by obtain ⟨x, _, rfl⟩ := List.mem_map.mp hd; exact flat_eE
theorem flat_eS {m : Sk} : Flat 4 (eS m) := flat_tup fun d hd => by
  simp only [List.mem_cons, List.not_mem_nil, or_false] at hd
  rcases hd with rfl | rfl | rfl
  · exact flat_int
  · exact flat_int
  · exact flat_tup fun d hd => by obtain ⟨x, _, rfl⟩ := List.mem_map.mp hd; exact flat_eR
theorem repr_eS {m : Sk} (hm : Mach m) : ReprOk (eS m) := by
  obtain ⟨a, h1, h2⟩ := wt_eS hm
  exact reprOk flat_eS h2 (by omega)
theorem acc_word {m : Sk} (hm : Mach m) {s : Nat} {w : List Nat} (h : lk (F m) s = some w) : (s, w) ∈ F m ∧ (∀ a ∈ w, a < m.L) ∧ w.length ≤ 12 ∧ runS m 0 w = s := by
  have ob := OB.G hm m.rows.length
  have hx := lk_mem h
  exact ⟨hx, ob.le _ hx, Nat.le_trans (ob.wl _ hx) hm.n12, ob.run _ hx⟩
theorem wt_acc {m : Sk} (hm : Mach m) : ∃ a, a ≤ 1000 ∧ wt (.tuple ((acc m).map eO)) = some a := by
  have := hm.l3; have := hm.n12
  obtain ⟨b, h1, h2⟩ := wtAll_map (f := eO) (c := 63) (xs := acc m) fun o ho => by
    obtain ⟨s, _, rfl⟩ := List.mem_map.mp ho
    cases e : lk (F m) s with
    | none => exact ⟨4, by decide, rfl⟩
    | some w =>
      obtain ⟨_, hw, hl, _⟩ := acc_word hm e
      obtain ⟨b, h3, h4⟩ := wt_eN (w := w) fun x hx => by have := hw x hx; omega
      exact ⟨b, by omega, h4⟩
  have hl : (acc m).length ≤ 12 := by simp [acc]; omega
  exact ⟨b + 3, by omega, wt_tup h2⟩
theorem flat_acc {m : Sk} : Flat 2 (.tuple ((acc m).map eO)) := flat_tup fun d hd => by obtain ⟨x, _, rfl⟩ := List.mem_map.mp hd; exact flat_eO
theorem repr_two {m : Sk} (hm : Mach m) : ReprOk (.list [.tuple ((acc m).map eO), .tuple ((acc m).map eO)]) := by
  obtain ⟨a, h1, h2⟩ := wt_acc hm
  refine reprOk (k := 3) (n := a + (a + 0 + 2) + 2 + 3) (flat_list fun d hd => ?_) ?_ (by omega)
  · simp only [List.mem_cons, List.not_mem_nil, or_false] at hd
    rcases hd with rfl | rfl <;> exact flat_acc
  · simp only [wt, wtAll, h2, Option.map_some] at h2 ⊢
    simp only [h2]
    rfl
theorem repr_nat {n : Nat} (h : n < 1000) : ReprOk (.int (n : Nat)) := reprOk (k := 0) flat_int (wt_int h) (by decide)
end DV

set_option Elab.async false
set_option linter.all false
set_option maxRecDepth 100000
set_option maxHeartbeats 4000000
namespace DV
open PySem PySem.Spec PyProof.Rows L2
theorem acc_get {m : Sk} {i : Nat} {d : D} (h : ((acc m).map eO)[i]? = some d) : i < m.rows.length ∧ d = eO (lk (F m) i) := by
  have hi := getElem?_lt' h
  simp only [List.length_map, acc, List.length_range] at hi
  simp only [acc, List.map_map, List.getElem?_map, Option.map_eq_some_iff] at h
  obtain ⟨s, e, rfl⟩ := h
  rw [List.getElem?_range hi] at e
  cases e
  exact ⟨hi, rfl⟩
theorem FullR.mono {L S T A : Nat} {r : Row} (h : FullR L S A r) (l : S ≤ T) : FullR L T A r := ⟨h.1, fun x hx => by
  obtain ⟨s, a, e, h1, h2⟩ := h.2 x hx
  exact ⟨s, a, e, by omega, h2⟩⟩
theorem spec_law (ns : List Int) (h : ns.length ≤ 63) (hb : ∀ z ∈ ns, Builtin.Int.intBits z ≤ 1048576) : fs_law [.scr ns] (fun r _ => r = .val (.bool true)) fun _ => False := by
  refine ⟨rfl, ?_⟩
  unfold w_law
  simp -dsimp only [↓z_K, ↓z_VarO, ↓z_Var, ↓z_Move, ↓z_Of, ↓z_Fz, ↓z_Res, ↓z_VNil, ↓z_VCons, ↓z_Tup, ↓z_Lst, ↓z_Op2, ↓z_Tst, ↓z_Not, ↓z_Chain, ↓z_AndV, ↓z_OrV, ↓z_NotV, ↓z_And, ↓z_Or, ↓z_If, ↓z_Next, ↓z_Seq, ↓z_Break, ↓z_Cont, ↓z_Exp, ↓z_Ret, ↓z_RetN, ↓z_IfS, ↓z_Nm, ↓z_Tp, ↓z_GN, ↓z_GC, ↓z_Asg, ↓z_ONil, ↓z_OCons, ↓z_SetIx, ↓z_Call, ↓z_Sq, ↓z_Rev, ↓z_For, ↓z_Wh, ↓z_Lc, ↓z_Lc2, ↓z_All, ↓z_All2, ↓z_Yes, ↓z_CB, ↓z_Isi, ↓z_Neg, ↓z_NoP, ↓z_Prt, ↓z_Sl, ↓z_App, ↓z_Pop, ↓z_VK, ↓z_VKs, ↓z_Eq, ↓z_InL, ↓z_InK, ↓z_InT, ↓z_In1, ↓z_In2, ↓z_In3, ↓z_In4, ↓z_IxS, ↓z_Ix1, ↓z_Ix2, ↓z_Ix3, ↓z_Ix4, ↓z_Ix5, ↓z_put1, ↓z_put2, ↓z_put3, ↓z_Len, ↓z_TupC, ↓z_LstC, ↓z_Repr, ↓z_NewD, ↓z_DisK, ↓z_DisT, ↓z_Get1, ↓z_Get2, ↓z_get2K, ↓z_get2T, ↓z_fin, ↓z_Rng1, ↓z_Rng2, ↓rng1F_i, ↓rng2F_i, ↓z_Enm, ↓z_EnmA, ↓enmAF_l, ↓enmAF_t, ↓enmF_l, ↓z_Zip, ↓zipF_l, ↓zipF_t, ↓z_Par, ↓parF_r, ↓z_Par3, ↓par3F_r, ↓z_Never, ↓z_NevE, ↓z_getK, ↓z_getT, ↓z_AddI, ↓z_AddT, ↓z_AddO, ↓z_AddS, ↓z_MulI, ↓z_MulT, ↓z_LtI, ↓z_LtT, ↓z_IsN, ↓z_IntI, ↓z_SlT, ↓z_SlL, ↓z_SlO, ↓z_SlS, ↓z_Sub, ↓z_Mod, ↓z_Div, ↓z_Pow, ↓z_Le, ↓z_Gt, ↓z_Ge, ↓z_II, ↓varF_v, ↓varF_l, ↓mvF_o, ↓mvF_v, ↓mvF_s, ndF_some, ifB_t, ifB_f, con, sl, frzS, isB, tuO_t, daO, sqO_l, sqO_t, sqO_o, sqO_s, lsO, lenO_K, lenO_T, lenO_o, lenO_l, lenO_t, lenO_s, ngO, consO, argO, varsO, wrB, untag, owL, tyS, tyD_n, tyD_b, tyD_i, tyD_s, tyD_l, tyD_t, tyD_d, entryE, tagA, backA, wipeE, backE, keepS, seqD_l, seqD_t, seqV_l, seqV_t, liD_l, kyS, ksS, keyD_i, keyD_s, keysD, ixS, tupD_t, isDic, isT, eq_self, isNone_n, isNone_i, isNone_t, isNone_l, isNone_b, isNone_s, isNone_o, need_some, atI_0, atI_1, atI_2, atI_3, ixN_30, ixN_31, ixN_32, eqv_int, eqv_str, Int.toNat_natCast, List.getElem?_cons_zero, List.getElem?_cons_succ, List.getElem?_nil, List.set_cons_zero, List.set_cons_succ, List.length_cons, List.length_nil, Option.join_some, Option.join_none, List.replicate_succ, List.replicate_zero, List.cons_append, List.nil_append, Option.map_some, Nat.zero_add, Nat.reduceAdd, Nat.reduceSub, Bool.not_true, Bool.not_false, if_true, if_false, Bool.false_eq_true, true_and, and_true, decide_true, decide_false, Nat.reduceLeDiff, Nat.reduceEqDiff, reduceIte, reduceCtorEq, Bool.or_false, Bool.or_true, Bool.and_true, Bool.and_false, Bool.true_and, Bool.false_and, Bool.true_or, Bool.false_or, List.map_cons, List.map_nil, List.nodup_cons, List.nodup_nil, List.mem_cons, List.not_mem_nil, not_false_eq_true, or_false, false_or, seqV_S, seqV_R]
  refine sp_first ns 6 _ _ (by decide) fun cells hc => ?_
  simp -dsimp only [↓z_K, ↓z_VarO, ↓z_Var, ↓z_Move, ↓z_Of, ↓z_Fz, ↓z_Res, ↓z_VNil, ↓z_VCons, ↓z_Tup, ↓z_Lst, ↓z_Op2, ↓z_Tst, ↓z_Not, ↓z_Chain, ↓z_AndV, ↓z_OrV, ↓z_NotV, ↓z_And, ↓z_Or, ↓z_If, ↓z_Next, ↓z_Seq, ↓z_Break, ↓z_Cont, ↓z_Exp, ↓z_Ret, ↓z_RetN, ↓z_IfS, ↓z_Nm, ↓z_Tp, ↓z_GN, ↓z_GC, ↓z_Asg, ↓z_ONil, ↓z_OCons, ↓z_SetIx, ↓z_Call, ↓z_Sq, ↓z_Rev, ↓z_For, ↓z_Wh, ↓z_Lc, ↓z_Lc2, ↓z_All, ↓z_All2, ↓z_Yes, ↓z_CB, ↓z_Isi, ↓z_Neg, ↓z_NoP, ↓z_Prt, ↓z_Sl, ↓z_App, ↓z_Pop, ↓z_VK, ↓z_VKs, ↓z_Eq, ↓z_InL, ↓z_InK, ↓z_InT, ↓z_In1, ↓z_In2, ↓z_In3, ↓z_In4, ↓z_IxS, ↓z_Ix1, ↓z_Ix2, ↓z_Ix3, ↓z_Ix4, ↓z_Ix5, ↓z_put1, ↓z_put2, ↓z_put3, ↓z_Len, ↓z_TupC, ↓z_LstC, ↓z_Repr, ↓z_NewD, ↓z_DisK, ↓z_DisT, ↓z_Get1, ↓z_Get2, ↓z_get2K, ↓z_get2T, ↓z_fin, ↓z_Rng1, ↓z_Rng2, ↓rng1F_i, ↓rng2F_i, ↓z_Enm, ↓z_EnmA, ↓enmAF_l, ↓enmAF_t, ↓enmF_l, ↓z_Zip, ↓zipF_l, ↓zipF_t, ↓z_Par, ↓parF_r, ↓z_Par3, ↓par3F_r, ↓z_Never, ↓z_NevE, ↓z_getK, ↓z_getT, ↓z_AddI, ↓z_AddT, ↓z_AddO, ↓z_AddS, ↓z_MulI, ↓z_MulT, ↓z_LtI, ↓z_LtT, ↓z_IsN, ↓z_IntI, ↓z_SlT, ↓z_SlL, ↓z_SlO, ↓z_SlS, ↓z_Sub, ↓z_Mod, ↓z_Div, ↓z_Pow, ↓z_Le, ↓z_Gt, ↓z_Ge, ↓z_II, ↓varF_v, ↓varF_l, ↓mvF_o, ↓mvF_v, ↓mvF_s, ndF_some, ifB_t, ifB_f, con, sl, frzS, isB, tuO_t, daO, sqO_l, sqO_t, sqO_o, sqO_s, lsO, lenO_K, lenO_T, lenO_o, lenO_l, lenO_t, lenO_s, ngO, consO, argO, varsO, wrB, untag, owL, tyS, tyD_n, tyD_b, tyD_i, tyD_s, tyD_l, tyD_t, tyD_d, entryE, tagA, backA, wipeE, backE, keepS, seqD_l, seqD_t, seqV_l, seqV_t, liD_l, kyS, ksS, keyD_i, keyD_s, keysD, ixS, tupD_t, isDic, isT, eq_self, isNone_n, isNone_i, isNone_t, isNone_l, isNone_b, isNone_s, isNone_o, need_some, atI_0, atI_1, atI_2, atI_3, ixN_30, ixN_31, ixN_32, eqv_int, eqv_str, Int.toNat_natCast, List.getElem?_cons_zero, List.getElem?_cons_succ, List.getElem?_nil, List.set_cons_zero, List.set_cons_succ, List.length_cons, List.length_nil, Option.join_some, Option.join_none, List.replicate_succ, List.replicate_zero, List.cons_append, List.nil_append, Option.map_some, Nat.zero_add, Nat.reduceAdd, Nat.reduceSub, Bool.not_true, Bool.not_false, if_true, if_false, Bool.false_eq_true, true_and, and_true, decide_true, decide_false, Nat.reduceLeDiff, Nat.reduceEqDiff, reduceIte, reduceCtorEq, Bool.or_false, Bool.or_true, Bool.and_true, Bool.and_false, Bool.true_and, Bool.false_and, Bool.true_or, Bool.false_or, List.map_cons, List.map_nil, List.nodup_cons, List.nodup_nil, List.mem_cons, List.not_mem_nil, not_false_eq_true, or_false, false_or, seqV_S, seqV_R]
  refine for_inv (fun i e => ∃ x1 x2 x3 x4 x5 x6 x7 x8 x9 x10 x11 x12 x13 x14 x15 x16, e = [some (.scr ns), x1, x2, x3, x4, x5, x6, x7, x8, x9, x10, x11, x12, x13, x14, x15, x16]) ⟨_, _, _, _, _, _, _, _, _, _, _, _, _, _, _, _, rfl⟩ ?_ ?_
  · rintro i d e N hd ⟨x1, x2, x3, x4, x5, x6, x7, x8, x9, x10, x11, x12, x13, x14, x15, x16, rfl⟩ hN
    obtain ⟨x, hx, rfl⟩ := enD_get hd
    have hil : i < cells.length := by have := getElem?_lt' hx; rwa [List.length_map] at this
    rw [List.getElem?_map, Option.map_eq_some_iff] at hx
    obtain ⟨cell, _, rfl⟩ := hx
    have el : ∀ l : Nat, (1 + (l : Int)) = ((1 + l : Nat) : Int) := fun l => by omega
    have ea : ∀ a : Nat, (2 + (a : Int)) = ((2 + a : Nat) : Int) := fun a => by omega
    simp -dsimp only [↓z_K, ↓z_VarO, ↓z_Var, ↓z_Move, ↓z_Of, ↓z_Fz, ↓z_Res, ↓z_VNil, ↓z_VCons, ↓z_Tup, ↓z_Lst, ↓z_Op2, ↓z_Tst, ↓z_Not, ↓z_Chain, ↓z_AndV, ↓z_OrV, ↓z_NotV, ↓z_And, ↓z_Or, ↓z_If, ↓z_Next, ↓z_Seq, ↓z_Break, ↓z_Cont, ↓z_Exp, ↓z_Ret, ↓z_RetN, ↓z_IfS, ↓z_Nm, ↓z_Tp, ↓z_GN, ↓z_GC, ↓z_Asg, ↓z_ONil, ↓z_OCons, ↓z_SetIx, ↓z_Call, ↓z_Sq, ↓z_Rev, ↓z_For, ↓z_Wh, ↓z_Lc, ↓z_Lc2, ↓z_All, ↓z_All2, ↓z_Yes, ↓z_CB, ↓z_Isi, ↓z_Neg, ↓z_NoP, ↓z_Prt, ↓z_Sl, ↓z_App, ↓z_Pop, ↓z_VK, ↓z_VKs, ↓z_Eq, ↓z_InL, ↓z_InK, ↓z_InT, ↓z_In1, ↓z_In2, ↓z_In3, ↓z_In4, ↓z_IxS, ↓z_Ix1, ↓z_Ix2, ↓z_Ix3, ↓z_Ix4, ↓z_Ix5, ↓z_put1, ↓z_put2, ↓z_put3, ↓z_Len, ↓z_TupC, ↓z_LstC, ↓z_Repr, ↓z_NewD, ↓z_DisK, ↓z_DisT, ↓z_Get1, ↓z_Get2, ↓z_get2K, ↓z_get2T, ↓z_fin, ↓z_Rng1, ↓z_Rng2, ↓rng1F_i, ↓rng2F_i, ↓z_Enm, ↓z_EnmA, ↓enmAF_l, ↓enmAF_t, ↓enmF_l, ↓z_Zip, ↓zipF_l, ↓zipF_t, ↓z_Par, ↓parF_r, ↓z_Par3, ↓par3F_r, ↓z_Never, ↓z_NevE, ↓z_getK, ↓z_getT, ↓z_AddI, ↓z_AddT, ↓z_AddO, ↓z_AddS, ↓z_MulI, ↓z_MulT, ↓z_LtI, ↓z_LtT, ↓z_IsN, ↓z_IntI, ↓z_SlT, ↓z_SlL, ↓z_SlO, ↓z_SlS, ↓z_Sub, ↓z_Mod, ↓z_Div, ↓z_Pow, ↓z_Le, ↓z_Gt, ↓z_Ge, ↓z_II, ↓varF_v, ↓varF_l, ↓mvF_o, ↓mvF_v, ↓mvF_s, ndF_some, ifB_t, ifB_f, con, sl, frzS, isB, tuO_t, daO, sqO_l, sqO_t, sqO_o, sqO_s, lsO, lenO_K, lenO_T, lenO_o, lenO_l, lenO_t, lenO_s, ngO, consO, argO, varsO, wrB, untag, owL, tyS, tyD_n, tyD_b, tyD_i, tyD_s, tyD_l, tyD_t, tyD_d, entryE, tagA, backA, wipeE, backE, keepS, seqD_l, seqD_t, seqV_l, seqV_t, liD_l, kyS, ksS, keyD_i, keyD_s, keysD, ixS, tupD_t, isDic, isT, eq_self, isNone_n, isNone_i, isNone_t, isNone_l, isNone_b, isNone_s, isNone_o, need_some, atI_0, atI_1, atI_2, atI_3, ixN_30, ixN_31, ixN_32, eqv_int, eqv_str, Int.toNat_natCast, List.getElem?_cons_zero, List.getElem?_cons_succ, List.getElem?_nil, List.set_cons_zero, List.set_cons_succ, List.length_cons, List.length_nil, Option.join_some, Option.join_none, List.replicate_succ, List.replicate_zero, List.cons_append, List.nil_append, Option.map_some, Nat.zero_add, Nat.reduceAdd, Nat.reduceSub, Bool.not_true, Bool.not_false, if_true, if_false, Bool.false_eq_true, true_and, and_true, decide_true, decide_false, Nat.reduceLeDiff, Nat.reduceEqDiff, reduceIte, reduceCtorEq, Bool.or_false, Bool.or_true, Bool.and_true, Bool.and_false, Bool.true_and, Bool.false_and, Bool.true_or, Bool.false_or, List.map_cons, List.map_nil, List.nodup_cons, List.nodup_nil, List.mem_cons, List.not_mem_nil, not_false_eq_true, or_false, false_or, seqV_S, seqV_R]
    unfold w_law_b2
    refine seqI fun U0 h0 => ?_
    simp -dsimp only [↓z_K, ↓z_VarO, ↓z_Var, ↓z_Move, ↓z_Of, ↓z_Fz, ↓z_Res, ↓z_VNil, ↓z_VCons, ↓z_Tup, ↓z_Lst, ↓z_Op2, ↓z_Tst, ↓z_Not, ↓z_Chain, ↓z_AndV, ↓z_OrV, ↓z_NotV, ↓z_And, ↓z_Or, ↓z_If, ↓z_Next, ↓z_Seq, ↓z_Break, ↓z_Cont, ↓z_Exp, ↓z_Ret, ↓z_RetN, ↓z_IfS, ↓z_Nm, ↓z_Tp, ↓z_GN, ↓z_GC, ↓z_Asg, ↓z_ONil, ↓z_OCons, ↓z_SetIx, ↓z_Call, ↓z_Sq, ↓z_Rev, ↓z_For, ↓z_Wh, ↓z_Lc, ↓z_Lc2, ↓z_All, ↓z_All2, ↓z_Yes, ↓z_CB, ↓z_Isi, ↓z_Neg, ↓z_NoP, ↓z_Prt, ↓z_Sl, ↓z_App, ↓z_Pop, ↓z_VK, ↓z_VKs, ↓z_Eq, ↓z_InL, ↓z_InK, ↓z_InT, ↓z_In1, ↓z_In2, ↓z_In3, ↓z_In4, ↓z_IxS, ↓z_Ix1, ↓z_Ix2, ↓z_Ix3, ↓z_Ix4, ↓z_Ix5, ↓z_put1, ↓z_put2, ↓z_put3, ↓z_Len, ↓z_TupC, ↓z_LstC, ↓z_Repr, ↓z_NewD, ↓z_DisK, ↓z_DisT, ↓z_Get1, ↓z_Get2, ↓z_get2K, ↓z_get2T, ↓z_fin, ↓z_Rng1, ↓z_Rng2, ↓rng1F_i, ↓rng2F_i, ↓z_Enm, ↓z_EnmA, ↓enmAF_l, ↓enmAF_t, ↓enmF_l, ↓z_Zip, ↓zipF_l, ↓zipF_t, ↓z_Par, ↓parF_r, ↓z_Par3, ↓par3F_r, ↓z_Never, ↓z_NevE, ↓z_getK, ↓z_getT, ↓z_AddI, ↓z_AddT, ↓z_AddO, ↓z_AddS, ↓z_MulI, ↓z_MulT, ↓z_LtI, ↓z_LtT, ↓z_IsN, ↓z_IntI, ↓z_SlT, ↓z_SlL, ↓z_SlO, ↓z_SlS, ↓z_Sub, ↓z_Mod, ↓z_Div, ↓z_Pow, ↓z_Le, ↓z_Gt, ↓z_Ge, ↓z_II, ↓varF_v, ↓varF_l, ↓mvF_o, ↓mvF_v, ↓mvF_s, ndF_some, ifB_t, ifB_f, con, sl, frzS, isB, tuO_t, daO, sqO_l, sqO_t, sqO_o, sqO_s, lsO, lenO_K, lenO_T, lenO_o, lenO_l, lenO_t, lenO_s, ngO, consO, argO, varsO, wrB, untag, owL, tyS, tyD_n, tyD_b, tyD_i, tyD_s, tyD_l, tyD_t, tyD_d, entryE, tagA, backA, wipeE, backE, keepS, seqD_l, seqD_t, seqV_l, seqV_t, liD_l, kyS, ksS, keyD_i, keyD_s, keysD, ixS, tupD_t, isDic, isT, eq_self, isNone_n, isNone_i, isNone_t, isNone_l, isNone_b, isNone_s, isNone_o, need_some, atI_0, atI_1, atI_2, atI_3, ixN_30, ixN_31, ixN_32, eqv_int, eqv_str, Int.toNat_natCast, List.getElem?_cons_zero, List.getElem?_cons_succ, List.getElem?_nil, List.set_cons_zero, List.set_cons_succ, List.length_cons, List.length_nil, Option.join_some, Option.join_none, List.replicate_succ, List.replicate_zero, List.cons_append, List.nil_append, Option.map_some, Nat.zero_add, Nat.reduceAdd, Nat.reduceSub, Bool.not_true, Bool.not_false, if_true, if_false, Bool.false_eq_true, true_and, and_true, decide_true, decide_false, Nat.reduceLeDiff, Nat.reduceEqDiff, reduceIte, reduceCtorEq, Bool.or_false, Bool.or_true, Bool.and_true, Bool.and_false, Bool.true_and, Bool.false_and, Bool.true_or, Bool.false_or, List.map_cons, List.map_nil, List.nodup_cons, List.nodup_nil, List.mem_cons, List.not_mem_nil, not_false_eq_true, or_false, false_or, seqV_S, seqV_R]
    refine sp_well (by omega) (by omega) fun u hu => ?_
    simp -dsimp only [↓z_K, ↓z_VarO, ↓z_Var, ↓z_Move, ↓z_Of, ↓z_Fz, ↓z_Res, ↓z_VNil, ↓z_VCons, ↓z_Tup, ↓z_Lst, ↓z_Op2, ↓z_Tst, ↓z_Not, ↓z_Chain, ↓z_AndV, ↓z_OrV, ↓z_NotV, ↓z_And, ↓z_Or, ↓z_If, ↓z_Next, ↓z_Seq, ↓z_Break, ↓z_Cont, ↓z_Exp, ↓z_Ret, ↓z_RetN, ↓z_IfS, ↓z_Nm, ↓z_Tp, ↓z_GN, ↓z_GC, ↓z_Asg, ↓z_ONil, ↓z_OCons, ↓z_SetIx, ↓z_Call, ↓z_Sq, ↓z_Rev, ↓z_For, ↓z_Wh, ↓z_Lc, ↓z_Lc2, ↓z_All, ↓z_All2, ↓z_Yes, ↓z_CB, ↓z_Isi, ↓z_Neg, ↓z_NoP, ↓z_Prt, ↓z_Sl, ↓z_App, ↓z_Pop, ↓z_VK, ↓z_VKs, ↓z_Eq, ↓z_InL, ↓z_InK, ↓z_InT, ↓z_In1, ↓z_In2, ↓z_In3, ↓z_In4, ↓z_IxS, ↓z_Ix1, ↓z_Ix2, ↓z_Ix3, ↓z_Ix4, ↓z_Ix5, ↓z_put1, ↓z_put2, ↓z_put3, ↓z_Len, ↓z_TupC, ↓z_LstC, ↓z_Repr, ↓z_NewD, ↓z_DisK, ↓z_DisT, ↓z_Get1, ↓z_Get2, ↓z_get2K, ↓z_get2T, ↓z_fin, ↓z_Rng1, ↓z_Rng2, ↓rng1F_i, ↓rng2F_i, ↓z_Enm, ↓z_EnmA, ↓enmAF_l, ↓enmAF_t, ↓enmF_l, ↓z_Zip, ↓zipF_l, ↓zipF_t, ↓z_Par, ↓parF_r, ↓z_Par3, ↓par3F_r, ↓z_Never, ↓z_NevE, ↓z_getK, ↓z_getT, ↓z_AddI, ↓z_AddT, ↓z_AddO, ↓z_AddS, ↓z_MulI, ↓z_MulT, ↓z_LtI, ↓z_LtT, ↓z_IsN, ↓z_IntI, ↓z_SlT, ↓z_SlL, ↓z_SlO, ↓z_SlS, ↓z_Sub, ↓z_Mod, ↓z_Div, ↓z_Pow, ↓z_Le, ↓z_Gt, ↓z_Ge, ↓z_II, ↓varF_v, ↓varF_l, ↓mvF_o, ↓mvF_v, ↓mvF_s, ndF_some, ifB_t, ifB_f, con, sl, frzS, isB, tuO_t, daO, sqO_l, sqO_t, sqO_o, sqO_s, lsO, lenO_K, lenO_T, lenO_o, lenO_l, lenO_t, lenO_s, ngO, consO, argO, varsO, wrB, untag, owL, tyS, tyD_n, tyD_b, tyD_i, tyD_s, tyD_l, tyD_t, tyD_d, entryE, tagA, backA, wipeE, backE, keepS, seqD_l, seqD_t, seqV_l, seqV_t, liD_l, kyS, ksS, keyD_i, keyD_s, keysD, ixS, tupD_t, isDic, isT, eq_self, isNone_n, isNone_i, isNone_t, isNone_l, isNone_b, isNone_s, isNone_o, need_some, atI_0, atI_1, atI_2, atI_3, ixN_30, ixN_31, ixN_32, eqv_int, eqv_str, Int.toNat_natCast, List.getElem?_cons_zero, List.getElem?_cons_succ, List.getElem?_nil, List.set_cons_zero, List.set_cons_succ, List.length_cons, List.length_nil, Option.join_some, Option.join_none, List.replicate_succ, List.replicate_zero, List.cons_append, List.nil_append, Option.map_some, Nat.zero_add, Nat.reduceAdd, Nat.reduceSub, Bool.not_true, Bool.not_false, if_true, if_false, Bool.false_eq_true, true_and, and_true, decide_true, decide_false, Nat.reduceLeDiff, Nat.reduceEqDiff, reduceIte, reduceCtorEq, Bool.or_false, Bool.or_true, Bool.and_true, Bool.and_false, Bool.true_and, Bool.false_and, Bool.true_or, Bool.false_or, List.map_cons, List.map_nil, List.nodup_cons, List.nodup_nil, List.mem_cons, List.not_mem_nil, not_false_eq_true, or_false, false_or, seqV_S, seqV_R]
    refine h0 _ (seqI fun U1 h1 => ?_)
    simp -dsimp only [↓z_K, ↓z_VarO, ↓z_Var, ↓z_Move, ↓z_Of, ↓z_Fz, ↓z_Res, ↓z_VNil, ↓z_VCons, ↓z_Tup, ↓z_Lst, ↓z_Op2, ↓z_Tst, ↓z_Not, ↓z_Chain, ↓z_AndV, ↓z_OrV, ↓z_NotV, ↓z_And, ↓z_Or, ↓z_If, ↓z_Next, ↓z_Seq, ↓z_Break, ↓z_Cont, ↓z_Exp, ↓z_Ret, ↓z_RetN, ↓z_IfS, ↓z_Nm, ↓z_Tp, ↓z_GN, ↓z_GC, ↓z_Asg, ↓z_ONil, ↓z_OCons, ↓z_SetIx, ↓z_Call, ↓z_Sq, ↓z_Rev, ↓z_For, ↓z_Wh, ↓z_Lc, ↓z_Lc2, ↓z_All, ↓z_All2, ↓z_Yes, ↓z_CB, ↓z_Isi, ↓z_Neg, ↓z_NoP, ↓z_Prt, ↓z_Sl, ↓z_App, ↓z_Pop, ↓z_VK, ↓z_VKs, ↓z_Eq, ↓z_InL, ↓z_InK, ↓z_InT, ↓z_In1, ↓z_In2, ↓z_In3, ↓z_In4, ↓z_IxS, ↓z_Ix1, ↓z_Ix2, ↓z_Ix3, ↓z_Ix4, ↓z_Ix5, ↓z_put1, ↓z_put2, ↓z_put3, ↓z_Len, ↓z_TupC, ↓z_LstC, ↓z_Repr, ↓z_NewD, ↓z_DisK, ↓z_DisT, ↓z_Get1, ↓z_Get2, ↓z_get2K, ↓z_get2T, ↓z_fin, ↓z_Rng1, ↓z_Rng2, ↓rng1F_i, ↓rng2F_i, ↓z_Enm, ↓z_EnmA, ↓enmAF_l, ↓enmAF_t, ↓enmF_l, ↓z_Zip, ↓zipF_l, ↓zipF_t, ↓z_Par, ↓parF_r, ↓z_Par3, ↓par3F_r, ↓z_Never, ↓z_NevE, ↓z_getK, ↓z_getT, ↓z_AddI, ↓z_AddT, ↓z_AddO, ↓z_AddS, ↓z_MulI, ↓z_MulT, ↓z_LtI, ↓z_LtT, ↓z_IsN, ↓z_IntI, ↓z_SlT, ↓z_SlL, ↓z_SlO, ↓z_SlS, ↓z_Sub, ↓z_Mod, ↓z_Div, ↓z_Pow, ↓z_Le, ↓z_Gt, ↓z_Ge, ↓z_II, ↓varF_v, ↓varF_l, ↓mvF_o, ↓mvF_v, ↓mvF_s, ndF_some, ifB_t, ifB_f, con, sl, frzS, isB, tuO_t, daO, sqO_l, sqO_t, sqO_o, sqO_s, lsO, lenO_K, lenO_T, lenO_o, lenO_l, lenO_t, lenO_s, ngO, consO, argO, varsO, wrB, untag, owL, tyS, tyD_n, tyD_b, tyD_i, tyD_s, tyD_l, tyD_t, tyD_d, entryE, tagA, backA, wipeE, backE, keepS, seqD_l, seqD_t, seqV_l, seqV_t, liD_l, kyS, ksS, keyD_i, keyD_s, keysD, ixS, tupD_t, isDic, isT, eq_self, isNone_n, isNone_i, isNone_t, isNone_l, isNone_b, isNone_s, isNone_o, need_some, atI_0, atI_1, atI_2, atI_3, ixN_30, ixN_31, ixN_32, eqv_int, eqv_str, Int.toNat_natCast, List.getElem?_cons_zero, List.getElem?_cons_succ, List.getElem?_nil, List.set_cons_zero, List.set_cons_succ, List.length_cons, List.length_nil, Option.join_some, Option.join_none, List.replicate_succ, List.replicate_zero, List.cons_append, List.nil_append, Option.map_some, Nat.zero_add, Nat.reduceAdd, Nat.reduceSub, Bool.not_true, Bool.not_false, if_true, if_false, Bool.false_eq_true, true_and, and_true, decide_true, decide_false, Nat.reduceLeDiff, Nat.reduceEqDiff, reduceIte, reduceCtorEq, Bool.or_false, Bool.or_true, Bool.and_true, Bool.and_false, Bool.true_and, Bool.false_and, Bool.true_or, Bool.false_or, List.map_cons, List.map_nil, List.nodup_cons, List.nodup_nil, List.mem_cons, List.not_mem_nil, not_false_eq_true, or_false, false_or, seqV_S, seqV_R]
    refine sp_take (m := 3) hu (by decide) fun l u1 hl hu1 => ?_
    simp -dsimp only [↓z_K, ↓z_VarO, ↓z_Var, ↓z_Move, ↓z_Of, ↓z_Fz, ↓z_Res, ↓z_VNil, ↓z_VCons, ↓z_Tup, ↓z_Lst, ↓z_Op2, ↓z_Tst, ↓z_Not, ↓z_Chain, ↓z_AndV, ↓z_OrV, ↓z_NotV, ↓z_And, ↓z_Or, ↓z_If, ↓z_Next, ↓z_Seq, ↓z_Break, ↓z_Cont, ↓z_Exp, ↓z_Ret, ↓z_RetN, ↓z_IfS, ↓z_Nm, ↓z_Tp, ↓z_GN, ↓z_GC, ↓z_Asg, ↓z_ONil, ↓z_OCons, ↓z_SetIx, ↓z_Call, ↓z_Sq, ↓z_Rev, ↓z_For, ↓z_Wh, ↓z_Lc, ↓z_Lc2, ↓z_All, ↓z_All2, ↓z_Yes, ↓z_CB, ↓z_Isi, ↓z_Neg, ↓z_NoP, ↓z_Prt, ↓z_Sl, ↓z_App, ↓z_Pop, ↓z_VK, ↓z_VKs, ↓z_Eq, ↓z_InL, ↓z_InK, ↓z_InT, ↓z_In1, ↓z_In2, ↓z_In3, ↓z_In4, ↓z_IxS, ↓z_Ix1, ↓z_Ix2, ↓z_Ix3, ↓z_Ix4, ↓z_Ix5, ↓z_put1, ↓z_put2, ↓z_put3, ↓z_Len, ↓z_TupC, ↓z_LstC, ↓z_Repr, ↓z_NewD, ↓z_DisK, ↓z_DisT, ↓z_Get1, ↓z_Get2, ↓z_get2K, ↓z_get2T, ↓z_fin, ↓z_Rng1, ↓z_Rng2, ↓rng1F_i, ↓rng2F_i, ↓z_Enm, ↓z_EnmA, ↓enmAF_l, ↓enmAF_t, ↓enmF_l, ↓z_Zip, ↓zipF_l, ↓zipF_t, ↓z_Par, ↓parF_r, ↓z_Par3, ↓par3F_r, ↓z_Never, ↓z_NevE, ↓z_getK, ↓z_getT, ↓z_AddI, ↓z_AddT, ↓z_AddO, ↓z_AddS, ↓z_MulI, ↓z_MulT, ↓z_LtI, ↓z_LtT, ↓z_IsN, ↓z_IntI, ↓z_SlT, ↓z_SlL, ↓z_SlO, ↓z_SlS, ↓z_Sub, ↓z_Mod, ↓z_Div, ↓z_Pow, ↓z_Le, ↓z_Gt, ↓z_Ge, ↓z_II, ↓varF_v, ↓varF_l, ↓mvF_o, ↓mvF_v, ↓mvF_s, ndF_some, ifB_t, ifB_f, con, sl, frzS, isB, tuO_t, daO, sqO_l, sqO_t, sqO_o, sqO_s, lsO, lenO_K, lenO_T, lenO_o, lenO_l, lenO_t, lenO_s, ngO, consO, argO, varsO, wrB, untag, owL, tyS, tyD_n, tyD_b, tyD_i, tyD_s, tyD_l, tyD_t, tyD_d, entryE, tagA, backA, wipeE, backE, keepS, seqD_l, seqD_t, seqV_l, seqV_t, liD_l, kyS, ksS, keyD_i, keyD_s, keysD, ixS, tupD_t, isDic, isT, eq_self, isNone_n, isNone_i, isNone_t, isNone_l, isNone_b, isNone_s, isNone_o, need_some, atI_0, atI_1, atI_2, atI_3, ixN_30, ixN_31, ixN_32, eqv_int, eqv_str, Int.toNat_natCast, List.getElem?_cons_zero, List.getElem?_cons_succ, List.getElem?_nil, List.set_cons_zero, List.set_cons_succ, List.length_cons, List.length_nil, Option.join_some, Option.join_none, List.replicate_succ, List.replicate_zero, List.cons_append, List.nil_append, Option.map_some, Nat.zero_add, Nat.reduceAdd, Nat.reduceSub, Bool.not_true, Bool.not_false, if_true, if_false, Bool.false_eq_true, true_and, and_true, decide_true, decide_false, Nat.reduceLeDiff, Nat.reduceEqDiff, reduceIte, reduceCtorEq, Bool.or_false, Bool.or_true, Bool.and_true, Bool.and_false, Bool.true_and, Bool.false_and, Bool.true_or, Bool.false_or, List.map_cons, List.map_nil, List.nodup_cons, List.nodup_nil, List.mem_cons, List.not_mem_nil, not_false_eq_true, or_false, false_or, seqV_S, seqV_R]
    refine sp_take (m := 8) hu1 (by decide) fun a u2 ha hu2 => ?_
    simp -dsimp only [↓z_K, ↓z_VarO, ↓z_Var, ↓z_Move, ↓z_Of, ↓z_Fz, ↓z_Res, ↓z_VNil, ↓z_VCons, ↓z_Tup, ↓z_Lst, ↓z_Op2, ↓z_Tst, ↓z_Not, ↓z_Chain, ↓z_AndV, ↓z_OrV, ↓z_NotV, ↓z_And, ↓z_Or, ↓z_If, ↓z_Next, ↓z_Seq, ↓z_Break, ↓z_Cont, ↓z_Exp, ↓z_Ret, ↓z_RetN, ↓z_IfS, ↓z_Nm, ↓z_Tp, ↓z_GN, ↓z_GC, ↓z_Asg, ↓z_ONil, ↓z_OCons, ↓z_SetIx, ↓z_Call, ↓z_Sq, ↓z_Rev, ↓z_For, ↓z_Wh, ↓z_Lc, ↓z_Lc2, ↓z_All, ↓z_All2, ↓z_Yes, ↓z_CB, ↓z_Isi, ↓z_Neg, ↓z_NoP, ↓z_Prt, ↓z_Sl, ↓z_App, ↓z_Pop, ↓z_VK, ↓z_VKs, ↓z_Eq, ↓z_InL, ↓z_InK, ↓z_InT, ↓z_In1, ↓z_In2, ↓z_In3, ↓z_In4, ↓z_IxS, ↓z_Ix1, ↓z_Ix2, ↓z_Ix3, ↓z_Ix4, ↓z_Ix5, ↓z_put1, ↓z_put2, ↓z_put3, ↓z_Len, ↓z_TupC, ↓z_LstC, ↓z_Repr, ↓z_NewD, ↓z_DisK, ↓z_DisT, ↓z_Get1, ↓z_Get2, ↓z_get2K, ↓z_get2T, ↓z_fin, ↓z_Rng1, ↓z_Rng2, ↓rng1F_i, ↓rng2F_i, ↓z_Enm, ↓z_EnmA, ↓enmAF_l, ↓enmAF_t, ↓enmF_l, ↓z_Zip, ↓zipF_l, ↓zipF_t, ↓z_Par, ↓parF_r, ↓z_Par3, ↓par3F_r, ↓z_Never, ↓z_NevE, ↓z_getK, ↓z_getT, ↓z_AddI, ↓z_AddT, ↓z_AddO, ↓z_AddS, ↓z_MulI, ↓z_MulT, ↓z_LtI, ↓z_LtT, ↓z_IsN, ↓z_IntI, ↓z_SlT, ↓z_SlL, ↓z_SlO, ↓z_SlS, ↓z_Sub, ↓z_Mod, ↓z_Div, ↓z_Pow, ↓z_Le, ↓z_Gt, ↓z_Ge, ↓z_II, ↓varF_v, ↓varF_l, ↓mvF_o, ↓mvF_v, ↓mvF_s, ndF_some, ifB_t, ifB_f, con, sl, frzS, isB, tuO_t, daO, sqO_l, sqO_t, sqO_o, sqO_s, lsO, lenO_K, lenO_T, lenO_o, lenO_l, lenO_t, lenO_s, ngO, consO, argO, varsO, wrB, untag, owL, tyS, tyD_n, tyD_b, tyD_i, tyD_s, tyD_l, tyD_t, tyD_d, entryE, tagA, backA, wipeE, backE, keepS, seqD_l, seqD_t, seqV_l, seqV_t, liD_l, kyS, ksS, keyD_i, keyD_s, keysD, ixS, tupD_t, isDic, isT, eq_self, isNone_n, isNone_i, isNone_t, isNone_l, isNone_b, isNone_s, isNone_o, need_some, atI_0, atI_1, atI_2, atI_3, ixN_30, ixN_31, ixN_32, eqv_int, eqv_str, Int.toNat_natCast, List.getElem?_cons_zero, List.getElem?_cons_succ, List.getElem?_nil, List.set_cons_zero, List.set_cons_succ, List.length_cons, List.length_nil, Option.join_some, Option.join_none, List.replicate_succ, List.replicate_zero, List.cons_append, List.nil_append, Option.map_some, Nat.zero_add, Nat.reduceAdd, Nat.reduceSub, Bool.not_true, Bool.not_false, if_true, if_false, Bool.false_eq_true, true_and, and_true, decide_true, decide_false, Nat.reduceLeDiff, Nat.reduceEqDiff, reduceIte, reduceCtorEq, Bool.or_false, Bool.or_true, Bool.and_true, Bool.and_false, Bool.true_and, Bool.false_and, Bool.true_or, Bool.false_or, List.map_cons, List.map_nil, List.nodup_cons, List.nodup_nil, List.mem_cons, List.not_mem_nil, not_false_eq_true, or_false, false_or, seqV_S, seqV_R, el, ea]
    refine h1 _ (seqI fun U2 h2 => ?_)
    simp -dsimp only [↓z_K, ↓z_VarO, ↓z_Var, ↓z_Move, ↓z_Of, ↓z_Fz, ↓z_Res, ↓z_VNil, ↓z_VCons, ↓z_Tup, ↓z_Lst, ↓z_Op2, ↓z_Tst, ↓z_Not, ↓z_Chain, ↓z_AndV, ↓z_OrV, ↓z_NotV, ↓z_And, ↓z_Or, ↓z_If, ↓z_Next, ↓z_Seq, ↓z_Break, ↓z_Cont, ↓z_Exp, ↓z_Ret, ↓z_RetN, ↓z_IfS, ↓z_Nm, ↓z_Tp, ↓z_GN, ↓z_GC, ↓z_Asg, ↓z_ONil, ↓z_OCons, ↓z_SetIx, ↓z_Call, ↓z_Sq, ↓z_Rev, ↓z_For, ↓z_Wh, ↓z_Lc, ↓z_Lc2, ↓z_All, ↓z_All2, ↓z_Yes, ↓z_CB, ↓z_Isi, ↓z_Neg, ↓z_NoP, ↓z_Prt, ↓z_Sl, ↓z_App, ↓z_Pop, ↓z_VK, ↓z_VKs, ↓z_Eq, ↓z_InL, ↓z_InK, ↓z_InT, ↓z_In1, ↓z_In2, ↓z_In3, ↓z_In4, ↓z_IxS, ↓z_Ix1, ↓z_Ix2, ↓z_Ix3, ↓z_Ix4, ↓z_Ix5, ↓z_put1, ↓z_put2, ↓z_put3, ↓z_Len, ↓z_TupC, ↓z_LstC, ↓z_Repr, ↓z_NewD, ↓z_DisK, ↓z_DisT, ↓z_Get1, ↓z_Get2, ↓z_get2K, ↓z_get2T, ↓z_fin, ↓z_Rng1, ↓z_Rng2, ↓rng1F_i, ↓rng2F_i, ↓z_Enm, ↓z_EnmA, ↓enmAF_l, ↓enmAF_t, ↓enmF_l, ↓z_Zip, ↓zipF_l, ↓zipF_t, ↓z_Par, ↓parF_r, ↓z_Par3, ↓par3F_r, ↓z_Never, ↓z_NevE, ↓z_getK, ↓z_getT, ↓z_AddI, ↓z_AddT, ↓z_AddO, ↓z_AddS, ↓z_MulI, ↓z_MulT, ↓z_LtI, ↓z_LtT, ↓z_IsN, ↓z_IntI, ↓z_SlT, ↓z_SlL, ↓z_SlO, ↓z_SlS, ↓z_Sub, ↓z_Mod, ↓z_Div, ↓z_Pow, ↓z_Le, ↓z_Gt, ↓z_Ge, ↓z_II, ↓varF_v, ↓varF_l, ↓mvF_o, ↓mvF_v, ↓mvF_s, ndF_some, ifB_t, ifB_f, con, sl, frzS, isB, tuO_t, daO, sqO_l, sqO_t, sqO_o, sqO_s, lsO, lenO_K, lenO_T, lenO_o, lenO_l, lenO_t, lenO_s, ngO, consO, argO, varsO, wrB, untag, owL, tyS, tyD_n, tyD_b, tyD_i, tyD_s, tyD_l, tyD_t, tyD_d, entryE, tagA, backA, wipeE, backE, keepS, seqD_l, seqD_t, seqV_l, seqV_t, liD_l, kyS, ksS, keyD_i, keyD_s, keysD, ixS, tupD_t, isDic, isT, eq_self, isNone_n, isNone_i, isNone_t, isNone_l, isNone_b, isNone_s, isNone_o, need_some, atI_0, atI_1, atI_2, atI_3, ixN_30, ixN_31, ixN_32, eqv_int, eqv_str, Int.toNat_natCast, List.getElem?_cons_zero, List.getElem?_cons_succ, List.getElem?_nil, List.set_cons_zero, List.set_cons_succ, List.length_cons, List.length_nil, Option.join_some, Option.join_none, List.replicate_succ, List.replicate_zero, List.cons_append, List.nil_append, Option.map_some, Nat.zero_add, Nat.reduceAdd, Nat.reduceSub, Bool.not_true, Bool.not_false, if_true, if_false, Bool.false_eq_true, true_and, and_true, decide_true, decide_false, Nat.reduceLeDiff, Nat.reduceEqDiff, reduceIte, reduceCtorEq, Bool.or_false, Bool.or_true, Bool.and_true, Bool.and_false, Bool.true_and, Bool.false_and, Bool.true_or, Bool.false_or, List.map_cons, List.map_nil, List.nodup_cons, List.nodup_nil, List.mem_cons, List.not_mem_nil, not_false_eq_true, or_false, false_or, seqV_S, seqV_R]
    refine sp_take (m := 12) hu2 (by decide) fun n u3 hn hu3 => ?_
    simp -dsimp only [↓z_K, ↓z_VarO, ↓z_Var, ↓z_Move, ↓z_Of, ↓z_Fz, ↓z_Res, ↓z_VNil, ↓z_VCons, ↓z_Tup, ↓z_Lst, ↓z_Op2, ↓z_Tst, ↓z_Not, ↓z_Chain, ↓z_AndV, ↓z_OrV, ↓z_NotV, ↓z_And, ↓z_Or, ↓z_If, ↓z_Next, ↓z_Seq, ↓z_Break, ↓z_Cont, ↓z_Exp, ↓z_Ret, ↓z_RetN, ↓z_IfS, ↓z_Nm, ↓z_Tp, ↓z_GN, ↓z_GC, ↓z_Asg, ↓z_ONil, ↓z_OCons, ↓z_SetIx, ↓z_Call, ↓z_Sq, ↓z_Rev, ↓z_For, ↓z_Wh, ↓z_Lc, ↓z_Lc2, ↓z_All, ↓z_All2, ↓z_Yes, ↓z_CB, ↓z_Isi, ↓z_Neg, ↓z_NoP, ↓z_Prt, ↓z_Sl, ↓z_App, ↓z_Pop, ↓z_VK, ↓z_VKs, ↓z_Eq, ↓z_InL, ↓z_InK, ↓z_InT, ↓z_In1, ↓z_In2, ↓z_In3, ↓z_In4, ↓z_IxS, ↓z_Ix1, ↓z_Ix2, ↓z_Ix3, ↓z_Ix4, ↓z_Ix5, ↓z_put1, ↓z_put2, ↓z_put3, ↓z_Len, ↓z_TupC, ↓z_LstC, ↓z_Repr, ↓z_NewD, ↓z_DisK, ↓z_DisT, ↓z_Get1, ↓z_Get2, ↓z_get2K, ↓z_get2T, ↓z_fin, ↓z_Rng1, ↓z_Rng2, ↓rng1F_i, ↓rng2F_i, ↓z_Enm, ↓z_EnmA, ↓enmAF_l, ↓enmAF_t, ↓enmF_l, ↓z_Zip, ↓zipF_l, ↓zipF_t, ↓z_Par, ↓parF_r, ↓z_Par3, ↓par3F_r, ↓z_Never, ↓z_NevE, ↓z_getK, ↓z_getT, ↓z_AddI, ↓z_AddT, ↓z_AddO, ↓z_AddS, ↓z_MulI, ↓z_MulT, ↓z_LtI, ↓z_LtT, ↓z_IsN, ↓z_IntI, ↓z_SlT, ↓z_SlL, ↓z_SlO, ↓z_SlS, ↓z_Sub, ↓z_Mod, ↓z_Div, ↓z_Pow, ↓z_Le, ↓z_Gt, ↓z_Ge, ↓z_II, ↓varF_v, ↓varF_l, ↓mvF_o, ↓mvF_v, ↓mvF_s, ndF_some, ifB_t, ifB_f, con, sl, frzS, isB, tuO_t, daO, sqO_l, sqO_t, sqO_o, sqO_s, lsO, lenO_K, lenO_T, lenO_o, lenO_l, lenO_t, lenO_s, ngO, consO, argO, varsO, wrB, untag, owL, tyS, tyD_n, tyD_b, tyD_i, tyD_s, tyD_l, tyD_t, tyD_d, entryE, tagA, backA, wipeE, backE, keepS, seqD_l, seqD_t, seqV_l, seqV_t, liD_l, kyS, ksS, keyD_i, keyD_s, keysD, ixS, tupD_t, isDic, isT, eq_self, isNone_n, isNone_i, isNone_t, isNone_l, isNone_b, isNone_s, isNone_o, need_some, atI_0, atI_1, atI_2, atI_3, ixN_30, ixN_31, ixN_32, eqv_int, eqv_str, Int.toNat_natCast, List.getElem?_cons_zero, List.getElem?_cons_succ, List.getElem?_nil, List.set_cons_zero, List.set_cons_succ, List.length_cons, List.length_nil, Option.join_some, Option.join_none, List.replicate_succ, List.replicate_zero, List.cons_append, List.nil_append, Option.map_some, Nat.zero_add, Nat.reduceAdd, Nat.reduceSub, Bool.not_true, Bool.not_false, if_true, if_false, Bool.false_eq_true, true_and, and_true, decide_true, decide_false, Nat.reduceLeDiff, Nat.reduceEqDiff, reduceIte, reduceCtorEq, Bool.or_false, Bool.or_true, Bool.and_true, Bool.and_false, Bool.true_and, Bool.false_and, Bool.true_or, Bool.false_or, List.map_cons, List.map_nil, List.nodup_cons, List.nodup_nil, List.mem_cons, List.not_mem_nil, not_false_eq_true, or_false, false_or, seqV_S, seqV_R, el]
    refine sp_wmachine hu3 (by omega) (by omega) (by omega) (by omega) (by omega) (by omega) fun u4 R hu4 hR hM => ?_
    simp -dsimp only [↓z_K, ↓z_VarO, ↓z_Var, ↓z_Move, ↓z_Of, ↓z_Fz, ↓z_Res, ↓z_VNil, ↓z_VCons, ↓z_Tup, ↓z_Lst, ↓z_Op2, ↓z_Tst, ↓z_Not, ↓z_Chain, ↓z_AndV, ↓z_OrV, ↓z_NotV, ↓z_And, ↓z_Or, ↓z_If, ↓z_Next, ↓z_Seq, ↓z_Break, ↓z_Cont, ↓z_Exp, ↓z_Ret, ↓z_RetN, ↓z_IfS, ↓z_Nm, ↓z_Tp, ↓z_GN, ↓z_GC, ↓z_Asg, ↓z_ONil, ↓z_OCons, ↓z_SetIx, ↓z_Call, ↓z_Sq, ↓z_Rev, ↓z_For, ↓z_Wh, ↓z_Lc, ↓z_Lc2, ↓z_All, ↓z_All2, ↓z_Yes, ↓z_CB, ↓z_Isi, ↓z_Neg, ↓z_NoP, ↓z_Prt, ↓z_Sl, ↓z_App, ↓z_Pop, ↓z_VK, ↓z_VKs, ↓z_Eq, ↓z_InL, ↓z_InK, ↓z_InT, ↓z_In1, ↓z_In2, ↓z_In3, ↓z_In4, ↓z_IxS, ↓z_Ix1, ↓z_Ix2, ↓z_Ix3, ↓z_Ix4, ↓z_Ix5, ↓z_put1, ↓z_put2, ↓z_put3, ↓z_Len, ↓z_TupC, ↓z_LstC, ↓z_Repr, ↓z_NewD, ↓z_DisK, ↓z_DisT, ↓z_Get1, ↓z_Get2, ↓z_get2K, ↓z_get2T, ↓z_fin, ↓z_Rng1, ↓z_Rng2, ↓rng1F_i, ↓rng2F_i, ↓z_Enm, ↓z_EnmA, ↓enmAF_l, ↓enmAF_t, ↓enmF_l, ↓z_Zip, ↓zipF_l, ↓zipF_t, ↓z_Par, ↓parF_r, ↓z_Par3, ↓par3F_r, ↓z_Never, ↓z_NevE, ↓z_getK, ↓z_getT, ↓z_AddI, ↓z_AddT, ↓z_AddO, ↓z_AddS, ↓z_MulI, ↓z_MulT, ↓z_LtI, ↓z_LtT, ↓z_IsN, ↓z_IntI, ↓z_SlT, ↓z_SlL, ↓z_SlO, ↓z_SlS, ↓z_Sub, ↓z_Mod, ↓z_Div, ↓z_Pow, ↓z_Le, ↓z_Gt, ↓z_Ge, ↓z_II, ↓varF_v, ↓varF_l, ↓mvF_o, ↓mvF_v, ↓mvF_s, ndF_some, ifB_t, ifB_f, con, sl, frzS, isB, tuO_t, daO, sqO_l, sqO_t, sqO_o, sqO_s, lsO, lenO_K, lenO_T, lenO_o, lenO_l, lenO_t, lenO_s, ngO, consO, argO, varsO, wrB, untag, owL, tyS, tyD_n, tyD_b, tyD_i, tyD_s, tyD_l, tyD_t, tyD_d, entryE, tagA, backA, wipeE, backE, keepS, seqD_l, seqD_t, seqV_l, seqV_t, liD_l, kyS, ksS, keyD_i, keyD_s, keysD, ixS, tupD_t, isDic, isT, eq_self, isNone_n, isNone_i, isNone_t, isNone_l, isNone_b, isNone_s, isNone_o, need_some, atI_0, atI_1, atI_2, atI_3, ixN_30, ixN_31, ixN_32, eqv_int, eqv_str, Int.toNat_natCast, List.getElem?_cons_zero, List.getElem?_cons_succ, List.getElem?_nil, List.set_cons_zero, List.set_cons_succ, List.length_cons, List.length_nil, Option.join_some, Option.join_none, List.replicate_succ, List.replicate_zero, List.cons_append, List.nil_append, Option.map_some, Nat.zero_add, Nat.reduceAdd, Nat.reduceSub, Bool.not_true, Bool.not_false, if_true, if_false, Bool.false_eq_true, true_and, and_true, decide_true, decide_false, Nat.reduceLeDiff, Nat.reduceEqDiff, reduceIte, reduceCtorEq, Bool.or_false, Bool.or_true, Bool.and_true, Bool.and_false, Bool.true_and, Bool.false_and, Bool.true_or, Bool.false_or, List.map_cons, List.map_nil, List.nodup_cons, List.nodup_nil, List.mem_cons, List.not_mem_nil, not_false_eq_true, or_false, false_or, seqV_S, seqV_R]
    refine h2 _ ?_
    refine seqI fun U hU => ?_
    have rest : ∀ (u5 : MO) (m : Sk) (y7 y13 y14 y15 : Option Slot), Mach m → m.L = 1 + l → U [some (.scr ns), some (.val (.int i)), some (.val (.int cell)), un u5, some (.val (.int (1 + l : Nat))), some (.val (.int (2 + a : Nat))), some (.val (eS m)), y7, x8, x9, x10, x11, x12, y13, y14, y15, x16] := fun u5 m y7 y13 y14 y15 hm hL => hU _ (by
      have := hm.n12; have := hm.l3
      simp -dsimp only [↓z_K, ↓z_VarO, ↓z_Var, ↓z_Move, ↓z_Of, ↓z_Fz, ↓z_Res, ↓z_VNil, ↓z_VCons, ↓z_Tup, ↓z_Lst, ↓z_Op2, ↓z_Tst, ↓z_Not, ↓z_Chain, ↓z_AndV, ↓z_OrV, ↓z_NotV, ↓z_And, ↓z_Or, ↓z_If, ↓z_Next, ↓z_Seq, ↓z_Break, ↓z_Cont, ↓z_Exp, ↓z_Ret, ↓z_RetN, ↓z_IfS, ↓z_Nm, ↓z_Tp, ↓z_GN, ↓z_GC, ↓z_Asg, ↓z_ONil, ↓z_OCons, ↓z_SetIx, ↓z_Call, ↓z_Sq, ↓z_Rev, ↓z_For, ↓z_Wh, ↓z_Lc, ↓z_Lc2, ↓z_All, ↓z_All2, ↓z_Yes, ↓z_CB, ↓z_Isi, ↓z_Neg, ↓z_NoP, ↓z_Prt, ↓z_Sl, ↓z_App, ↓z_Pop, ↓z_VK, ↓z_VKs, ↓z_Eq, ↓z_InL, ↓z_InK, ↓z_InT, ↓z_In1, ↓z_In2, ↓z_In3, ↓z_In4, ↓z_IxS, ↓z_Ix1, ↓z_Ix2, ↓z_Ix3, ↓z_Ix4, ↓z_Ix5, ↓z_put1, ↓z_put2, ↓z_put3, ↓z_Len, ↓z_TupC, ↓z_LstC, ↓z_Repr, ↓z_NewD, ↓z_DisK, ↓z_DisT, ↓z_Get1, ↓z_Get2, ↓z_get2K, ↓z_get2T, ↓z_fin, ↓z_Rng1, ↓z_Rng2, ↓rng1F_i, ↓rng2F_i, ↓z_Enm, ↓z_EnmA, ↓enmAF_l, ↓enmAF_t, ↓enmF_l, ↓z_Zip, ↓zipF_l, ↓zipF_t, ↓z_Par, ↓parF_r, ↓z_Par3, ↓par3F_r, ↓z_Never, ↓z_NevE, ↓z_getK, ↓z_getT, ↓z_AddI, ↓z_AddT, ↓z_AddO, ↓z_AddS, ↓z_MulI, ↓z_MulT, ↓z_LtI, ↓z_LtT, ↓z_IsN, ↓z_IntI, ↓z_SlT, ↓z_SlL, ↓z_SlO, ↓z_SlS, ↓z_Sub, ↓z_Mod, ↓z_Div, ↓z_Pow, ↓z_Le, ↓z_Gt, ↓z_Ge, ↓z_II, ↓varF_v, ↓varF_l, ↓mvF_o, ↓mvF_v, ↓mvF_s, ndF_some, ifB_t, ifB_f, con, sl, frzS, isB, tuO_t, daO, sqO_l, sqO_t, sqO_o, sqO_s, lsO, lenO_K, lenO_T, lenO_o, lenO_l, lenO_t, lenO_s, ngO, consO, argO, varsO, wrB, untag, owL, tyS, tyD_n, tyD_b, tyD_i, tyD_s, tyD_l, tyD_t, tyD_d, entryE, tagA, backA, wipeE, backE, keepS, seqD_l, seqD_t, seqV_l, seqV_t, liD_l, kyS, ksS, keyD_i, keyD_s, keysD, ixS, tupD_t, isDic, isT, eq_self, isNone_n, isNone_i, isNone_t, isNone_l, isNone_b, isNone_s, isNone_o, need_some, atI_0, atI_1, atI_2, atI_3, ixN_30, ixN_31, ixN_32, eqv_int, eqv_str, Int.toNat_natCast, List.getElem?_cons_zero, List.getElem?_cons_succ, List.getElem?_nil, List.set_cons_zero, List.set_cons_succ, List.length_cons, List.length_nil, Option.join_some, Option.join_none, List.replicate_succ, List.replicate_zero, List.cons_append, List.nil_append, Option.map_some, Nat.zero_add, Nat.reduceAdd, Nat.reduceSub, Bool.not_true, Bool.not_false, if_true, if_false, Bool.false_eq_true, true_and, and_true, decide_true, decide_false, Nat.reduceLeDiff, Nat.reduceEqDiff, reduceIte, reduceCtorEq, Bool.or_false, Bool.or_true, Bool.and_true, Bool.and_false, Bool.true_and, Bool.false_and, Bool.true_or, Bool.false_or, List.map_cons, List.map_nil, List.nodup_cons, List.nodup_nil, List.mem_cons, List.not_mem_nil, not_false_eq_true, or_false, false_or, seqV_S, seqV_R]
      refine ⟨repr_eS hm, ?_⟩
      refine sp_access hm ?_
      simp -dsimp only [↓z_K, ↓z_VarO, ↓z_Var, ↓z_Move, ↓z_Of, ↓z_Fz, ↓z_Res, ↓z_VNil, ↓z_VCons, ↓z_Tup, ↓z_Lst, ↓z_Op2, ↓z_Tst, ↓z_Not, ↓z_Chain, ↓z_AndV, ↓z_OrV, ↓z_NotV, ↓z_And, ↓z_Or, ↓z_If, ↓z_Next, ↓z_Seq, ↓z_Break, ↓z_Cont, ↓z_Exp, ↓z_Ret, ↓z_RetN, ↓z_IfS, ↓z_Nm, ↓z_Tp, ↓z_GN, ↓z_GC, ↓z_Asg, ↓z_ONil, ↓z_OCons, ↓z_SetIx, ↓z_Call, ↓z_Sq, ↓z_Rev, ↓z_For, ↓z_Wh, ↓z_Lc, ↓z_Lc2, ↓z_All, ↓z_All2, ↓z_Yes, ↓z_CB, ↓z_Isi, ↓z_Neg, ↓z_NoP, ↓z_Prt, ↓z_Sl, ↓z_App, ↓z_Pop, ↓z_VK, ↓z_VKs, ↓z_Eq, ↓z_InL, ↓z_InK, ↓z_InT, ↓z_In1, ↓z_In2, ↓z_In3, ↓z_In4, ↓z_IxS, ↓z_Ix1, ↓z_Ix2, ↓z_Ix3, ↓z_Ix4, ↓z_Ix5, ↓z_put1, ↓z_put2, ↓z_put3, ↓z_Len, ↓z_TupC, ↓z_LstC, ↓z_Repr, ↓z_NewD, ↓z_DisK, ↓z_DisT, ↓z_Get1, ↓z_Get2, ↓z_get2K, ↓z_get2T, ↓z_fin, ↓z_Rng1, ↓z_Rng2, ↓rng1F_i, ↓rng2F_i, ↓z_Enm, ↓z_EnmA, ↓enmAF_l, ↓enmAF_t, ↓enmF_l, ↓z_Zip, ↓zipF_l, ↓zipF_t, ↓z_Par, ↓parF_r, ↓z_Par3, ↓par3F_r, ↓z_Never, ↓z_NevE, ↓z_getK, ↓z_getT, ↓z_AddI, ↓z_AddT, ↓z_AddO, ↓z_AddS, ↓z_MulI, ↓z_MulT, ↓z_LtI, ↓z_LtT, ↓z_IsN, ↓z_IntI, ↓z_SlT, ↓z_SlL, ↓z_SlO, ↓z_SlS, ↓z_Sub, ↓z_Mod, ↓z_Div, ↓z_Pow, ↓z_Le, ↓z_Gt, ↓z_Ge, ↓z_II, ↓varF_v, ↓varF_l, ↓mvF_o, ↓mvF_v, ↓mvF_s, ndF_some, ifB_t, ifB_f, con, sl, frzS, isB, tuO_t, daO, sqO_l, sqO_t, sqO_o, sqO_s, lsO, lenO_K, lenO_T, lenO_o, lenO_l, lenO_t, lenO_s, ngO, consO, argO, varsO, wrB, untag, owL, tyS, tyD_n, tyD_b, tyD_i, tyD_s, tyD_l, tyD_t, tyD_d, entryE, tagA, backA, wipeE, backE, keepS, seqD_l, seqD_t, seqV_l, seqV_t, liD_l, kyS, ksS, keyD_i, keyD_s, keysD, ixS, tupD_t, isDic, isT, eq_self, isNone_n, isNone_i, isNone_t, isNone_l, isNone_b, isNone_s, isNone_o, need_some, atI_0, atI_1, atI_2, atI_3, ixN_30, ixN_31, ixN_32, eqv_int, eqv_str, Int.toNat_natCast, List.getElem?_cons_zero, List.getElem?_cons_succ, List.getElem?_nil, List.set_cons_zero, List.set_cons_succ, List.length_cons, List.length_nil, Option.join_some, Option.join_none, List.replicate_succ, List.replicate_zero, List.cons_append, List.nil_append, Option.map_some, Nat.zero_add, Nat.reduceAdd, Nat.reduceSub, Bool.not_true, Bool.not_false, if_true, if_false, Bool.false_eq_true, true_and, and_true, decide_true, decide_false, Nat.reduceLeDiff, Nat.reduceEqDiff, reduceIte, reduceCtorEq, Bool.or_false, Bool.or_true, Bool.and_true, Bool.and_false, Bool.true_and, Bool.false_and, Bool.true_or, Bool.false_or, List.map_cons, List.map_nil, List.nodup_cons, List.nodup_nil, List.mem_cons, List.not_mem_nil, not_false_eq_true, or_false, false_or, seqV_S, seqV_R]
      refine sp_laccess hm ?_
      simp -dsimp only [↓z_K, ↓z_VarO, ↓z_Var, ↓z_Move, ↓z_Of, ↓z_Fz, ↓z_Res, ↓z_VNil, ↓z_VCons, ↓z_Tup, ↓z_Lst, ↓z_Op2, ↓z_Tst, ↓z_Not, ↓z_Chain, ↓z_AndV, ↓z_OrV, ↓z_NotV, ↓z_And, ↓z_Or, ↓z_If, ↓z_Next, ↓z_Seq, ↓z_Break, ↓z_Cont, ↓z_Exp, ↓z_Ret, ↓z_RetN, ↓z_IfS, ↓z_Nm, ↓z_Tp, ↓z_GN, ↓z_GC, ↓z_Asg, ↓z_ONil, ↓z_OCons, ↓z_SetIx, ↓z_Call, ↓z_Sq, ↓z_Rev, ↓z_For, ↓z_Wh, ↓z_Lc, ↓z_Lc2, ↓z_All, ↓z_All2, ↓z_Yes, ↓z_CB, ↓z_Isi, ↓z_Neg, ↓z_NoP, ↓z_Prt, ↓z_Sl, ↓z_App, ↓z_Pop, ↓z_VK, ↓z_VKs, ↓z_Eq, ↓z_InL, ↓z_InK, ↓z_InT, ↓z_In1, ↓z_In2, ↓z_In3, ↓z_In4, ↓z_IxS, ↓z_Ix1, ↓z_Ix2, ↓z_Ix3, ↓z_Ix4, ↓z_Ix5, ↓z_put1, ↓z_put2, ↓z_put3, ↓z_Len, ↓z_TupC, ↓z_LstC, ↓z_Repr, ↓z_NewD, ↓z_DisK, ↓z_DisT, ↓z_Get1, ↓z_Get2, ↓z_get2K, ↓z_get2T, ↓z_fin, ↓z_Rng1, ↓z_Rng2, ↓rng1F_i, ↓rng2F_i, ↓z_Enm, ↓z_EnmA, ↓enmAF_l, ↓enmAF_t, ↓enmF_l, ↓z_Zip, ↓zipF_l, ↓zipF_t, ↓z_Par, ↓parF_r, ↓z_Par3, ↓par3F_r, ↓z_Never, ↓z_NevE, ↓z_getK, ↓z_getT, ↓z_AddI, ↓z_AddT, ↓z_AddO, ↓z_AddS, ↓z_MulI, ↓z_MulT, ↓z_LtI, ↓z_LtT, ↓z_IsN, ↓z_IntI, ↓z_SlT, ↓z_SlL, ↓z_SlO, ↓z_SlS, ↓z_Sub, ↓z_Mod, ↓z_Div, ↓z_Pow, ↓z_Le, ↓z_Gt, ↓z_Ge, ↓z_II, ↓varF_v, ↓varF_l, ↓mvF_o, ↓mvF_v, ↓mvF_s, ndF_some, ifB_t, ifB_f, con, sl, frzS, isB, tuO_t, daO, sqO_l, sqO_t, sqO_o, sqO_s, lsO, lenO_K, lenO_T, lenO_o, lenO_l, lenO_t, lenO_s, ngO, consO, argO, varsO, wrB, untag, owL, tyS, tyD_n, tyD_b, tyD_i, tyD_s, tyD_l, tyD_t, tyD_d, entryE, tagA, backA, wipeE, backE, keepS, seqD_l, seqD_t, seqV_l, seqV_t, liD_l, kyS, ksS, keyD_i, keyD_s, keysD, ixS, tupD_t, isDic, isT, eq_self, isNone_n, isNone_i, isNone_t, isNone_l, isNone_b, isNone_s, isNone_o, need_some, atI_0, atI_1, atI_2, atI_3, ixN_30, ixN_31, ixN_32, eqv_int, eqv_str, Int.toNat_natCast, List.getElem?_cons_zero, List.getElem?_cons_succ, List.getElem?_nil, List.set_cons_zero, List.set_cons_succ, List.length_cons, List.length_nil, Option.join_some, Option.join_none, List.replicate_succ, List.replicate_zero, List.cons_append, List.nil_append, Option.map_some, Nat.zero_add, Nat.reduceAdd, Nat.reduceSub, Bool.not_true, Bool.not_false, if_true, if_false, Bool.false_eq_true, true_and, and_true, decide_true, decide_false, Nat.reduceLeDiff, Nat.reduceEqDiff, reduceIte, reduceCtorEq, Bool.or_false, Bool.or_true, Bool.and_true, Bool.and_false, Bool.true_and, Bool.false_and, Bool.true_or, Bool.false_or, List.map_cons, List.map_nil, List.nodup_cons, List.nodup_nil, List.mem_cons, List.not_mem_nil, not_false_eq_true, or_false, false_or, seqV_S, seqV_R]
      refine sp_access hm ?_
      simp -dsimp only [↓z_K, ↓z_VarO, ↓z_Var, ↓z_Move, ↓z_Of, ↓z_Fz, ↓z_Res, ↓z_VNil, ↓z_VCons, ↓z_Tup, ↓z_Lst, ↓z_Op2, ↓z_Tst, ↓z_Not, ↓z_Chain, ↓z_AndV, ↓z_OrV, ↓z_NotV, ↓z_And, ↓z_Or, ↓z_If, ↓z_Next, ↓z_Seq, ↓z_Break, ↓z_Cont, ↓z_Exp, ↓z_Ret, ↓z_RetN, ↓z_IfS, ↓z_Nm, ↓z_Tp, ↓z_GN, ↓z_GC, ↓z_Asg, ↓z_ONil, ↓z_OCons, ↓z_SetIx, ↓z_Call, ↓z_Sq, ↓z_Rev, ↓z_For, ↓z_Wh, ↓z_Lc, ↓z_Lc2, ↓z_All, ↓z_All2, ↓z_Yes, ↓z_CB, ↓z_Isi, ↓z_Neg, ↓z_NoP, ↓z_Prt, ↓z_Sl, ↓z_App, ↓z_Pop, ↓z_VK, ↓z_VKs, ↓z_Eq, ↓z_InL, ↓z_InK, ↓z_InT, ↓z_In1, ↓z_In2, ↓z_In3, ↓z_In4, ↓z_IxS, ↓z_Ix1, ↓z_Ix2, ↓z_Ix3, ↓z_Ix4, ↓z_Ix5, ↓z_put1, ↓z_put2, ↓z_put3, ↓z_Len, ↓z_TupC, ↓z_LstC, ↓z_Repr, ↓z_NewD, ↓z_DisK, ↓z_DisT, ↓z_Get1, ↓z_Get2, ↓z_get2K, ↓z_get2T, ↓z_fin, ↓z_Rng1, ↓z_Rng2, ↓rng1F_i, ↓rng2F_i, ↓z_Enm, ↓z_EnmA, ↓enmAF_l, ↓enmAF_t, ↓enmF_l, ↓z_Zip, ↓zipF_l, ↓zipF_t, ↓z_Par, ↓parF_r, ↓z_Par3, ↓par3F_r, ↓z_Never, ↓z_NevE, ↓z_getK, ↓z_getT, ↓z_AddI, ↓z_AddT, ↓z_AddO, ↓z_AddS, ↓z_MulI, ↓z_MulT, ↓z_LtI, ↓z_LtT, ↓z_IsN, ↓z_IntI, ↓z_SlT, ↓z_SlL, ↓z_SlO, ↓z_SlS, ↓z_Sub, ↓z_Mod, ↓z_Div, ↓z_Pow, ↓z_Le, ↓z_Gt, ↓z_Ge, ↓z_II, ↓varF_v, ↓varF_l, ↓mvF_o, ↓mvF_v, ↓mvF_s, ndF_some, ifB_t, ifB_f, con, sl, frzS, isB, tuO_t, daO, sqO_l, sqO_t, sqO_o, sqO_s, lsO, lenO_K, lenO_T, lenO_o, lenO_l, lenO_t, lenO_s, ngO, consO, argO, varsO, wrB, untag, owL, tyS, tyD_n, tyD_b, tyD_i, tyD_s, tyD_l, tyD_t, tyD_d, entryE, tagA, backA, wipeE, backE, keepS, seqD_l, seqD_t, seqV_l, seqV_t, liD_l, kyS, ksS, keyD_i, keyD_s, keysD, ixS, tupD_t, isDic, isT, eq_self, isNone_n, isNone_i, isNone_t, isNone_l, isNone_b, isNone_s, isNone_o, need_some, atI_0, atI_1, atI_2, atI_3, ixN_30, ixN_31, ixN_32, eqv_int, eqv_str, Int.toNat_natCast, List.getElem?_cons_zero, List.getElem?_cons_succ, List.getElem?_nil, List.set_cons_zero, List.set_cons_succ, List.length_cons, List.length_nil, Option.join_some, Option.join_none, List.replicate_succ, List.replicate_zero, List.cons_append, List.nil_append, Option.map_some, Nat.zero_add, Nat.reduceAdd, Nat.reduceSub, Bool.not_true, Bool.not_false, if_true, if_false, Bool.false_eq_true, true_and, and_true, decide_true, decide_false, Nat.reduceLeDiff, Nat.reduceEqDiff, reduceIte, reduceCtorEq, Bool.or_false, Bool.or_true, Bool.and_true, Bool.and_false, Bool.true_and, Bool.false_and, Bool.true_or, Bool.false_or, List.map_cons, List.map_nil, List.nodup_cons, List.nodup_nil, List.mem_cons, List.not_mem_nil, not_false_eq_true, or_false, false_or, seqV_S, seqV_R]
      simp -dsimp only [↓z_K, ↓z_VarO, ↓z_Var, ↓z_Move, ↓z_Of, ↓z_Fz, ↓z_Res, ↓z_VNil, ↓z_VCons, ↓z_Tup, ↓z_Lst, ↓z_Op2, ↓z_Tst, ↓z_Not, ↓z_Chain, ↓z_AndV, ↓z_OrV, ↓z_NotV, ↓z_And, ↓z_Or, ↓z_If, ↓z_Next, ↓z_Seq, ↓z_Break, ↓z_Cont, ↓z_Exp, ↓z_Ret, ↓z_RetN, ↓z_IfS, ↓z_Nm, ↓z_Tp, ↓z_GN, ↓z_GC, ↓z_Asg, ↓z_ONil, ↓z_OCons, ↓z_SetIx, ↓z_Call, ↓z_Sq, ↓z_Rev, ↓z_For, ↓z_Wh, ↓z_Lc, ↓z_Lc2, ↓z_All, ↓z_All2, ↓z_Yes, ↓z_CB, ↓z_Isi, ↓z_Neg, ↓z_NoP, ↓z_Prt, ↓z_Sl, ↓z_App, ↓z_Pop, ↓z_VK, ↓z_VKs, ↓z_Eq, ↓z_InL, ↓z_InK, ↓z_InT, ↓z_In1, ↓z_In2, ↓z_In3, ↓z_In4, ↓z_IxS, ↓z_Ix1, ↓z_Ix2, ↓z_Ix3, ↓z_Ix4, ↓z_Ix5, ↓z_put1, ↓z_put2, ↓z_put3, ↓z_Len, ↓z_TupC, ↓z_LstC, ↓z_Repr, ↓z_NewD, ↓z_DisK, ↓z_DisT, ↓z_Get1, ↓z_Get2, ↓z_get2K, ↓z_get2T, ↓z_fin, ↓z_Rng1, ↓z_Rng2, ↓rng1F_i, ↓rng2F_i, ↓z_Enm, ↓z_EnmA, ↓enmAF_l, ↓enmAF_t, ↓enmF_l, ↓z_Zip, ↓zipF_l, ↓zipF_t, ↓z_Par, ↓parF_r, ↓z_Par3, ↓par3F_r, ↓z_Never, ↓z_NevE, ↓z_getK, ↓z_getT, ↓z_AddI, ↓z_AddT, ↓z_AddO, ↓z_AddS, ↓z_MulI, ↓z_MulT, ↓z_LtI, ↓z_LtT, ↓z_IsN, ↓z_IntI, ↓z_SlT, ↓z_SlL, ↓z_SlO, ↓z_SlS, ↓z_Sub, ↓z_Mod, ↓z_Div, ↓z_Pow, ↓z_Le, ↓z_Gt, ↓z_Ge, ↓z_II, ↓varF_v, ↓varF_l, ↓mvF_o, ↓mvF_v, ↓mvF_s, ndF_some, ifB_t, ifB_f, con, sl, frzS, isB, tuO_t, daO, sqO_l, sqO_t, sqO_o, sqO_s, lsO, lenO_K, lenO_T, lenO_o, lenO_l, lenO_t, lenO_s, ngO, consO, argO, varsO, wrB, untag, owL, tyS, tyD_n, tyD_b, tyD_i, tyD_s, tyD_l, tyD_t, tyD_d, entryE, tagA, backA, wipeE, backE, keepS, seqD_l, seqD_t, seqV_l, seqV_t, liD_l, kyS, ksS, keyD_i, keyD_s, keysD, ixS, tupD_t, isDic, isT, eq_self, isNone_n, isNone_i, isNone_t, isNone_l, isNone_b, isNone_s, isNone_o, need_some, atI_0, atI_1, atI_2, atI_3, ixN_30, ixN_31, ixN_32, eqv_int, eqv_str, Int.toNat_natCast, List.getElem?_cons_zero, List.getElem?_cons_succ, List.getElem?_nil, List.set_cons_zero, List.set_cons_succ, List.length_cons, List.length_nil, Option.join_some, Option.join_none, List.replicate_succ, List.replicate_zero, List.cons_append, List.nil_append, Option.map_some, Nat.zero_add, Nat.reduceAdd, Nat.reduceSub, Bool.not_true, Bool.not_false, if_true, if_false, Bool.false_eq_true, true_and, and_true, decide_true, decide_false, Nat.reduceLeDiff, Nat.reduceEqDiff, reduceIte, reduceCtorEq, Bool.or_false, Bool.or_true, Bool.and_true, Bool.and_false, Bool.true_and, Bool.false_and, Bool.true_or, Bool.false_or, List.map_cons, List.map_nil, List.nodup_cons, List.nodup_nil, List.mem_cons, List.not_mem_nil, not_false_eq_true, or_false, false_or, seqV_S, seqV_R, str_beq]
      refine ⟨sz2, repr_two hm, sz2, repr_two hm, eqOk_str, repr_eS hm, eqOk_str, ?_⟩
      refine for_inv (fun j e => ∃ z11 z12 z16, e = [some (.scr ns), some (.val (.int i)), some (.val (.int cell)), un u5, some (.val (.int (1 + l : Nat))), some (.val (.int (2 + a : Nat))), some (.val (eS m)), y7, some (.val (.str (PyData.shown (eS m)))), some (.val (.tuple ((acc m).map eO))), some (.val (.tuple ((acc m).map eO))), z11, z12, y13, y14, y15, z16]) ⟨_, _, _, rfl⟩ ?_ ?_
      · rintro j d e N2 hd2 ⟨z11, z12, z16, rfl⟩ hN2
        obtain ⟨x, hx, rfl⟩ := enD_get hd2
        obtain ⟨hj, rfl⟩ := acc_get hx
        simp -dsimp only [↓z_K, ↓z_VarO, ↓z_Var, ↓z_Move, ↓z_Of, ↓z_Fz, ↓z_Res, ↓z_VNil, ↓z_VCons, ↓z_Tup, ↓z_Lst, ↓z_Op2, ↓z_Tst, ↓z_Not, ↓z_Chain, ↓z_AndV, ↓z_OrV, ↓z_NotV, ↓z_And, ↓z_Or, ↓z_If, ↓z_Next, ↓z_Seq, ↓z_Break, ↓z_Cont, ↓z_Exp, ↓z_Ret, ↓z_RetN, ↓z_IfS, ↓z_Nm, ↓z_Tp, ↓z_GN, ↓z_GC, ↓z_Asg, ↓z_ONil, ↓z_OCons, ↓z_SetIx, ↓z_Call, ↓z_Sq, ↓z_Rev, ↓z_For, ↓z_Wh, ↓z_Lc, ↓z_Lc2, ↓z_All, ↓z_All2, ↓z_Yes, ↓z_CB, ↓z_Isi, ↓z_Neg, ↓z_NoP, ↓z_Prt, ↓z_Sl, ↓z_App, ↓z_Pop, ↓z_VK, ↓z_VKs, ↓z_Eq, ↓z_InL, ↓z_InK, ↓z_InT, ↓z_In1, ↓z_In2, ↓z_In3, ↓z_In4, ↓z_IxS, ↓z_Ix1, ↓z_Ix2, ↓z_Ix3, ↓z_Ix4, ↓z_Ix5, ↓z_put1, ↓z_put2, ↓z_put3, ↓z_Len, ↓z_TupC, ↓z_LstC, ↓z_Repr, ↓z_NewD, ↓z_DisK, ↓z_DisT, ↓z_Get1, ↓z_Get2, ↓z_get2K, ↓z_get2T, ↓z_fin, ↓z_Rng1, ↓z_Rng2, ↓rng1F_i, ↓rng2F_i, ↓z_Enm, ↓z_EnmA, ↓enmAF_l, ↓enmAF_t, ↓enmF_l, ↓z_Zip, ↓zipF_l, ↓zipF_t, ↓z_Par, ↓parF_r, ↓z_Par3, ↓par3F_r, ↓z_Never, ↓z_NevE, ↓z_getK, ↓z_getT, ↓z_AddI, ↓z_AddT, ↓z_AddO, ↓z_AddS, ↓z_MulI, ↓z_MulT, ↓z_LtI, ↓z_LtT, ↓z_IsN, ↓z_IntI, ↓z_SlT, ↓z_SlL, ↓z_SlO, ↓z_SlS, ↓z_Sub, ↓z_Mod, ↓z_Div, ↓z_Pow, ↓z_Le, ↓z_Gt, ↓z_Ge, ↓z_II, ↓varF_v, ↓varF_l, ↓mvF_o, ↓mvF_v, ↓mvF_s, ndF_some, ifB_t, ifB_f, con, sl, frzS, isB, tuO_t, daO, sqO_l, sqO_t, sqO_o, sqO_s, lsO, lenO_K, lenO_T, lenO_o, lenO_l, lenO_t, lenO_s, ngO, consO, argO, varsO, wrB, untag, owL, tyS, tyD_n, tyD_b, tyD_i, tyD_s, tyD_l, tyD_t, tyD_d, entryE, tagA, backA, wipeE, backE, keepS, seqD_l, seqD_t, seqV_l, seqV_t, liD_l, kyS, ksS, keyD_i, keyD_s, keysD, ixS, tupD_t, isDic, isT, eq_self, isNone_n, isNone_i, isNone_t, isNone_l, isNone_b, isNone_s, isNone_o, need_some, atI_0, atI_1, atI_2, atI_3, ixN_30, ixN_31, ixN_32, eqv_int, eqv_str, Int.toNat_natCast, List.getElem?_cons_zero, List.getElem?_cons_succ, List.getElem?_nil, List.set_cons_zero, List.set_cons_succ, List.length_cons, List.length_nil, Option.join_some, Option.join_none, List.replicate_succ, List.replicate_zero, List.cons_append, List.nil_append, Option.map_some, Nat.zero_add, Nat.reduceAdd, Nat.reduceSub, Bool.not_true, Bool.not_false, if_true, if_false, Bool.false_eq_true, true_and, and_true, decide_true, decide_false, Nat.reduceLeDiff, Nat.reduceEqDiff, reduceIte, reduceCtorEq, Bool.or_false, Bool.or_true, Bool.and_true, Bool.and_false, Bool.true_and, Bool.false_and, Bool.true_or, Bool.false_or, List.map_cons, List.map_nil, List.nodup_cons, List.nodup_nil, List.mem_cons, List.not_mem_nil, not_false_eq_true, or_false, false_or, seqV_S, seqV_R]
        unfold w_law_b1
        cases ew : lk (F m) j with
        | none => simp -dsimp only [↓z_K, ↓z_VarO, ↓z_Var, ↓z_Move, ↓z_Of, ↓z_Fz, ↓z_Res, ↓z_VNil, ↓z_VCons, ↓z_Tup, ↓z_Lst, ↓z_Op2, ↓z_Tst, ↓z_Not, ↓z_Chain, ↓z_AndV, ↓z_OrV, ↓z_NotV, ↓z_And, ↓z_Or, ↓z_If, ↓z_Next, ↓z_Seq, ↓z_Break, ↓z_Cont, ↓z_Exp, ↓z_Ret, ↓z_RetN, ↓z_IfS, ↓z_Nm, ↓z_Tp, ↓z_GN, ↓z_GC, ↓z_Asg, ↓z_ONil, ↓z_OCons, ↓z_SetIx, ↓z_Call, ↓z_Sq, ↓z_Rev, ↓z_For, ↓z_Wh, ↓z_Lc, ↓z_Lc2, ↓z_All, ↓z_All2, ↓z_Yes, ↓z_CB, ↓z_Isi, ↓z_Neg, ↓z_NoP, ↓z_Prt, ↓z_Sl, ↓z_App, ↓z_Pop, ↓z_VK, ↓z_VKs, ↓z_Eq, ↓z_InL, ↓z_InK, ↓z_InT, ↓z_In1, ↓z_In2, ↓z_In3, ↓z_In4, ↓z_IxS, ↓z_Ix1, ↓z_Ix2, ↓z_Ix3, ↓z_Ix4, ↓z_Ix5, ↓z_put1, ↓z_put2, ↓z_put3, ↓z_Len, ↓z_TupC, ↓z_LstC, ↓z_Repr, ↓z_NewD, ↓z_DisK, ↓z_DisT, ↓z_Get1, ↓z_Get2, ↓z_get2K, ↓z_get2T, ↓z_fin, ↓z_Rng1, ↓z_Rng2, ↓rng1F_i, ↓rng2F_i, ↓z_Enm, ↓z_EnmA, ↓enmAF_l, ↓enmAF_t, ↓enmF_l, ↓z_Zip, ↓zipF_l, ↓zipF_t, ↓z_Par, ↓parF_r, ↓z_Par3, ↓par3F_r, ↓z_Never, ↓z_NevE, ↓z_getK, ↓z_getT, ↓z_AddI, ↓z_AddT, ↓z_AddO, ↓z_AddS, ↓z_MulI, ↓z_MulT, ↓z_LtI, ↓z_LtT, ↓z_IsN, ↓z_IntI, ↓z_SlT, ↓z_SlL, ↓z_SlO, ↓z_SlS, ↓z_Sub, ↓z_Mod, ↓z_Div, ↓z_Pow, ↓z_Le, ↓z_Gt, ↓z_Ge, ↓z_II, ↓varF_v, ↓varF_l, ↓mvF_o, ↓mvF_v, ↓mvF_s, ndF_some, ifB_t, ifB_f, con, sl, frzS, isB, tuO_t, daO, sqO_l, sqO_t, sqO_o, sqO_s, lsO, lenO_K, lenO_T, lenO_o, lenO_l, lenO_t, lenO_s, ngO, consO, argO, varsO, wrB, untag, owL, tyS, tyD_n, tyD_b, tyD_i, tyD_s, tyD_l, tyD_t, tyD_d, entryE, tagA, backA, wipeE, backE, keepS, seqD_l, seqD_t, seqV_l, seqV_t, liD_l, kyS, ksS, keyD_i, keyD_s, keysD, ixS, tupD_t, isDic, isT, eq_self, isNone_n, isNone_i, isNone_t, isNone_l, isNone_b, isNone_s, isNone_o, need_some, atI_0, atI_1, atI_2, atI_3, ixN_30, ixN_31, ixN_32, eqv_int, eqv_str, Int.toNat_natCast, List.getElem?_cons_zero, List.getElem?_cons_succ, List.getElem?_nil, List.set_cons_zero, List.set_cons_succ, List.length_cons, List.length_nil, Option.join_some, Option.join_none, List.replicate_succ, List.replicate_zero, List.cons_append, List.nil_append, Option.map_some, Nat.zero_add, Nat.reduceAdd, Nat.reduceSub, Bool.not_true, Bool.not_false, if_true, if_false, Bool.false_eq_true, true_and, and_true, decide_true, decide_false, Nat.reduceLeDiff, Nat.reduceEqDiff, reduceIte, reduceCtorEq, Bool.or_false, Bool.or_true, Bool.and_true, Bool.and_false, Bool.true_and, Bool.false_and, Bool.true_or, Bool.false_or, List.map_cons, List.map_nil, List.nodup_cons, List.nodup_nil, List.mem_cons, List.not_mem_nil, not_false_eq_true, or_false, false_or, seqV_S, seqV_R, eO]; exact hN2 _ ⟨_, _, _, rfl⟩
        | some w =>
          obtain ⟨hwF, hwL, hwl, hwr⟩ := acc_word hm ew
          simp -dsimp only [↓z_K, ↓z_VarO, ↓z_Var, ↓z_Move, ↓z_Of, ↓z_Fz, ↓z_Res, ↓z_VNil, ↓z_VCons, ↓z_Tup, ↓z_Lst, ↓z_Op2, ↓z_Tst, ↓z_Not, ↓z_Chain, ↓z_AndV, ↓z_OrV, ↓z_NotV, ↓z_And, ↓z_Or, ↓z_If, ↓z_Next, ↓z_Seq, ↓z_Break, ↓z_Cont, ↓z_Exp, ↓z_Ret, ↓z_RetN, ↓z_IfS, ↓z_Nm, ↓z_Tp, ↓z_GN, ↓z_GC, ↓z_Asg, ↓z_ONil, ↓z_OCons, ↓z_SetIx, ↓z_Call, ↓z_Sq, ↓z_Rev, ↓z_For, ↓z_Wh, ↓z_Lc, ↓z_Lc2, ↓z_All, ↓z_All2, ↓z_Yes, ↓z_CB, ↓z_Isi, ↓z_Neg, ↓z_NoP, ↓z_Prt, ↓z_Sl, ↓z_App, ↓z_Pop, ↓z_VK, ↓z_VKs, ↓z_Eq, ↓z_InL, ↓z_InK, ↓z_InT, ↓z_In1, ↓z_In2, ↓z_In3, ↓z_In4, ↓z_IxS, ↓z_Ix1, ↓z_Ix2, ↓z_Ix3, ↓z_Ix4, ↓z_Ix5, ↓z_put1, ↓z_put2, ↓z_put3, ↓z_Len, ↓z_TupC, ↓z_LstC, ↓z_Repr, ↓z_NewD, ↓z_DisK, ↓z_DisT, ↓z_Get1, ↓z_Get2, ↓z_get2K, ↓z_get2T, ↓z_fin, ↓z_Rng1, ↓z_Rng2, ↓rng1F_i, ↓rng2F_i, ↓z_Enm, ↓z_EnmA, ↓enmAF_l, ↓enmAF_t, ↓enmF_l, ↓z_Zip, ↓zipF_l, ↓zipF_t, ↓z_Par, ↓parF_r, ↓z_Par3, ↓par3F_r, ↓z_Never, ↓z_NevE, ↓z_getK, ↓z_getT, ↓z_AddI, ↓z_AddT, ↓z_AddO, ↓z_AddS, ↓z_MulI, ↓z_MulT, ↓z_LtI, ↓z_LtT, ↓z_IsN, ↓z_IntI, ↓z_SlT, ↓z_SlL, ↓z_SlO, ↓z_SlS, ↓z_Sub, ↓z_Mod, ↓z_Div, ↓z_Pow, ↓z_Le, ↓z_Gt, ↓z_Ge, ↓z_II, ↓varF_v, ↓varF_l, ↓mvF_o, ↓mvF_v, ↓mvF_s, ndF_some, ifB_t, ifB_f, con, sl, frzS, isB, tuO_t, daO, sqO_l, sqO_t, sqO_o, sqO_s, lsO, lenO_K, lenO_T, lenO_o, lenO_l, lenO_t, lenO_s, ngO, consO, argO, varsO, wrB, untag, owL, tyS, tyD_n, tyD_b, tyD_i, tyD_s, tyD_l, tyD_t, tyD_d, entryE, tagA, backA, wipeE, backE, keepS, seqD_l, seqD_t, seqV_l, seqV_t, liD_l, kyS, ksS, keyD_i, keyD_s, keysD, ixS, tupD_t, isDic, isT, eq_self, isNone_n, isNone_i, isNone_t, isNone_l, isNone_b, isNone_s, isNone_o, need_some, atI_0, atI_1, atI_2, atI_3, ixN_30, ixN_31, ixN_32, eqv_int, eqv_str, Int.toNat_natCast, List.getElem?_cons_zero, List.getElem?_cons_succ, List.getElem?_nil, List.set_cons_zero, List.set_cons_succ, List.length_cons, List.length_nil, Option.join_some, Option.join_none, List.replicate_succ, List.replicate_zero, List.cons_append, List.nil_append, Option.map_some, Nat.zero_add, Nat.reduceAdd, Nat.reduceSub, Bool.not_true, Bool.not_false, if_true, if_false, Bool.false_eq_true, true_and, and_true, decide_true, decide_false, Nat.reduceLeDiff, Nat.reduceEqDiff, reduceIte, reduceCtorEq, Bool.or_false, Bool.or_true, Bool.and_true, Bool.and_false, Bool.true_and, Bool.false_and, Bool.true_or, Bool.false_or, List.map_cons, List.map_nil, List.nodup_cons, List.nodup_nil, List.mem_cons, List.not_mem_nil, not_false_eq_true, or_false, false_or, seqV_S, seqV_R, eO, eN]
          refine sp_behind hm hwL (by omega) ?_
          rw [hwr]
          simp -dsimp only [↓z_K, ↓z_VarO, ↓z_Var, ↓z_Move, ↓z_Of, ↓z_Fz, ↓z_Res, ↓z_VNil, ↓z_VCons, ↓z_Tup, ↓z_Lst, ↓z_Op2, ↓z_Tst, ↓z_Not, ↓z_Chain, ↓z_AndV, ↓z_OrV, ↓z_NotV, ↓z_And, ↓z_Or, ↓z_If, ↓z_Next, ↓z_Seq, ↓z_Break, ↓z_Cont, ↓z_Exp, ↓z_Ret, ↓z_RetN, ↓z_IfS, ↓z_Nm, ↓z_Tp, ↓z_GN, ↓z_GC, ↓z_Asg, ↓z_ONil, ↓z_OCons, ↓z_SetIx, ↓z_Call, ↓z_Sq, ↓z_Rev, ↓z_For, ↓z_Wh, ↓z_Lc, ↓z_Lc2, ↓z_All, ↓z_All2, ↓z_Yes, ↓z_CB, ↓z_Isi, ↓z_Neg, ↓z_NoP, ↓z_Prt, ↓z_Sl, ↓z_App, ↓z_Pop, ↓z_VK, ↓z_VKs, ↓z_Eq, ↓z_InL, ↓z_InK, ↓z_InT, ↓z_In1, ↓z_In2, ↓z_In3, ↓z_In4, ↓z_IxS, ↓z_Ix1, ↓z_Ix2, ↓z_Ix3, ↓z_Ix4, ↓z_Ix5, ↓z_put1, ↓z_put2, ↓z_put3, ↓z_Len, ↓z_TupC, ↓z_LstC, ↓z_Repr, ↓z_NewD, ↓z_DisK, ↓z_DisT, ↓z_Get1, ↓z_Get2, ↓z_get2K, ↓z_get2T, ↓z_fin, ↓z_Rng1, ↓z_Rng2, ↓rng1F_i, ↓rng2F_i, ↓z_Enm, ↓z_EnmA, ↓enmAF_l, ↓enmAF_t, ↓enmF_l, ↓z_Zip, ↓zipF_l, ↓zipF_t, ↓z_Par, ↓parF_r, ↓z_Par3, ↓par3F_r, ↓z_Never, ↓z_NevE, ↓z_getK, ↓z_getT, ↓z_AddI, ↓z_AddT, ↓z_AddO, ↓z_AddS, ↓z_MulI, ↓z_MulT, ↓z_LtI, ↓z_LtT, ↓z_IsN, ↓z_IntI, ↓z_SlT, ↓z_SlL, ↓z_SlO, ↓z_SlS, ↓z_Sub, ↓z_Mod, ↓z_Div, ↓z_Pow, ↓z_Le, ↓z_Gt, ↓z_Ge, ↓z_II, ↓varF_v, ↓varF_l, ↓mvF_o, ↓mvF_v, ↓mvF_s, ndF_some, ifB_t, ifB_f, con, sl, frzS, isB, tuO_t, daO, sqO_l, sqO_t, sqO_o, sqO_s, lsO, lenO_K, lenO_T, lenO_o, lenO_l, lenO_t, lenO_s, ngO, consO, argO, varsO, wrB, untag, owL, tyS, tyD_n, tyD_b, tyD_i, tyD_s, tyD_l, tyD_t, tyD_d, entryE, tagA, backA, wipeE, backE, keepS, seqD_l, seqD_t, seqV_l, seqV_t, liD_l, kyS, ksS, keyD_i, keyD_s, keysD, ixS, tupD_t, isDic, isT, eq_self, isNone_n, isNone_i, isNone_t, isNone_l, isNone_b, isNone_s, isNone_o, need_some, atI_0, atI_1, atI_2, atI_3, ixN_30, ixN_31, ixN_32, eqv_int, eqv_str, Int.toNat_natCast, List.getElem?_cons_zero, List.getElem?_cons_succ, List.getElem?_nil, List.set_cons_zero, List.set_cons_succ, List.length_cons, List.length_nil, Option.join_some, Option.join_none, List.replicate_succ, List.replicate_zero, List.cons_append, List.nil_append, Option.map_some, Nat.zero_add, Nat.reduceAdd, Nat.reduceSub, Bool.not_true, Bool.not_false, if_true, if_false, Bool.false_eq_true, true_and, and_true, decide_true, decide_false, Nat.reduceLeDiff, Nat.reduceEqDiff, reduceIte, reduceCtorEq, Bool.or_false, Bool.or_true, Bool.and_true, Bool.and_false, Bool.true_and, Bool.false_and, Bool.true_or, Bool.false_or, List.map_cons, List.map_nil, List.nodup_cons, List.nodup_nil, List.mem_cons, List.not_mem_nil, not_false_eq_true, or_false, false_or, seqV_S, seqV_R, str_beq]
          refine ⟨repr_nat (by omega), repr_nat (by omega), eqOk_str, ?_⟩
          refine sp_shorter (by omega) (by omega) fun ws hws hwd => ?_
          simp -dsimp only [↓z_K, ↓z_VarO, ↓z_Var, ↓z_Move, ↓z_Of, ↓z_Fz, ↓z_Res, ↓z_VNil, ↓z_VCons, ↓z_Tup, ↓z_Lst, ↓z_Op2, ↓z_Tst, ↓z_Not, ↓z_Chain, ↓z_AndV, ↓z_OrV, ↓z_NotV, ↓z_And, ↓z_Or, ↓z_If, ↓z_Next, ↓z_Seq, ↓z_Break, ↓z_Cont, ↓z_Exp, ↓z_Ret, ↓z_RetN, ↓z_IfS, ↓z_Nm, ↓z_Tp, ↓z_GN, ↓z_GC, ↓z_Asg, ↓z_ONil, ↓z_OCons, ↓z_SetIx, ↓z_Call, ↓z_Sq, ↓z_Rev, ↓z_For, ↓z_Wh, ↓z_Lc, ↓z_Lc2, ↓z_All, ↓z_All2, ↓z_Yes, ↓z_CB, ↓z_Isi, ↓z_Neg, ↓z_NoP, ↓z_Prt, ↓z_Sl, ↓z_App, ↓z_Pop, ↓z_VK, ↓z_VKs, ↓z_Eq, ↓z_InL, ↓z_InK, ↓z_InT, ↓z_In1, ↓z_In2, ↓z_In3, ↓z_In4, ↓z_IxS, ↓z_Ix1, ↓z_Ix2, ↓z_Ix3, ↓z_Ix4, ↓z_Ix5, ↓z_put1, ↓z_put2, ↓z_put3, ↓z_Len, ↓z_TupC, ↓z_LstC, ↓z_Repr, ↓z_NewD, ↓z_DisK, ↓z_DisT, ↓z_Get1, ↓z_Get2, ↓z_get2K, ↓z_get2T, ↓z_fin, ↓z_Rng1, ↓z_Rng2, ↓rng1F_i, ↓rng2F_i, ↓z_Enm, ↓z_EnmA, ↓enmAF_l, ↓enmAF_t, ↓enmF_l, ↓z_Zip, ↓zipF_l, ↓zipF_t, ↓z_Par, ↓parF_r, ↓z_Par3, ↓par3F_r, ↓z_Never, ↓z_NevE, ↓z_getK, ↓z_getT, ↓z_AddI, ↓z_AddT, ↓z_AddO, ↓z_AddS, ↓z_MulI, ↓z_MulT, ↓z_LtI, ↓z_LtT, ↓z_IsN, ↓z_IntI, ↓z_SlT, ↓z_SlL, ↓z_SlO, ↓z_SlS, ↓z_Sub, ↓z_Mod, ↓z_Div, ↓z_Pow, ↓z_Le, ↓z_Gt, ↓z_Ge, ↓z_II, ↓varF_v, ↓varF_l, ↓mvF_o, ↓mvF_v, ↓mvF_s, ndF_some, ifB_t, ifB_f, con, sl, frzS, isB, tuO_t, daO, sqO_l, sqO_t, sqO_o, sqO_s, lsO, lenO_K, lenO_T, lenO_o, lenO_l, lenO_t, lenO_s, ngO, consO, argO, varsO, wrB, untag, owL, tyS, tyD_n, tyD_b, tyD_i, tyD_s, tyD_l, tyD_t, tyD_d, entryE, tagA, backA, wipeE, backE, keepS, seqD_l, seqD_t, seqV_l, seqV_t, liD_l, kyS, ksS, keyD_i, keyD_s, keysD, ixS, tupD_t, isDic, isT, eq_self, isNone_n, isNone_i, isNone_t, isNone_l, isNone_b, isNone_s, isNone_o, need_some, atI_0, atI_1, atI_2, atI_3, ixN_30, ixN_31, ixN_32, eqv_int, eqv_str, Int.toNat_natCast, List.getElem?_cons_zero, List.getElem?_cons_succ, List.getElem?_nil, List.set_cons_zero, List.set_cons_succ, List.length_cons, List.length_nil, Option.join_some, Option.join_none, List.replicate_succ, List.replicate_zero, List.cons_append, List.nil_append, Option.map_some, Nat.zero_add, Nat.reduceAdd, Nat.reduceSub, Bool.not_true, Bool.not_false, if_true, if_false, Bool.false_eq_true, true_and, and_true, decide_true, decide_false, Nat.reduceLeDiff, Nat.reduceEqDiff, reduceIte, reduceCtorEq, Bool.or_false, Bool.or_true, Bool.and_true, Bool.and_false, Bool.true_and, Bool.false_and, Bool.true_or, Bool.false_or, List.map_cons, List.map_nil, List.nodup_cons, List.nodup_nil, List.mem_cons, List.not_mem_nil, not_false_eq_true, or_false, false_or, seqV_S, seqV_R, List.length_map]
          refine ⟨Nat.le_of_lt (szlt (by omega)), ?_⟩
          refine lc_inv (fun q ys e => ∃ z16, e = [some (.scr ns), some (.val (.int i)), some (.val (.int cell)), un u5, some (.val (.int (1 + l : Nat))), some (.val (.int (2 + a : Nat))), some (.val (eS m)), y7, some (.val (.str (PyData.shown (eS m)))), some (.val (.tuple ((acc m).map eO))), some (.val (.tuple ((acc m).map eO))), some (.val (.int j)), some (.val (eN w)), y13, y14, y15, z16] ∧ ys = []) ⟨_, rfl, rfl⟩ ?_ ?_
          · rintro q d ys e N1 N0 hd3 ⟨z16, rfl, rfl⟩ hN1 hN0
            rw [List.getElem?_map, Option.map_eq_some_iff] at hd3
            obtain ⟨v, hv, rfl⟩ := hd3
            obtain ⟨hv1, hv2⟩ := hwd v (List.mem_of_getElem? hv)
            have hvL : ∀ x ∈ v, x < m.L := fun x hx => by rw [hL]; exact hv1.1 x hx
            have hne := F_least hm hwF hvL hv2
            have ne : ((runS m 0 v : Int) == (j : Int)) = false := by rw [int_ne]; exact decide_eq_false hne
            unfold w_law_t1
            simp -dsimp only [↓z_K, ↓z_VarO, ↓z_Var, ↓z_Move, ↓z_Of, ↓z_Fz, ↓z_Res, ↓z_VNil, ↓z_VCons, ↓z_Tup, ↓z_Lst, ↓z_Op2, ↓z_Tst, ↓z_Not, ↓z_Chain, ↓z_AndV, ↓z_OrV, ↓z_NotV, ↓z_And, ↓z_Or, ↓z_If, ↓z_Next, ↓z_Seq, ↓z_Break, ↓z_Cont, ↓z_Exp, ↓z_Ret, ↓z_RetN, ↓z_IfS, ↓z_Nm, ↓z_Tp, ↓z_GN, ↓z_GC, ↓z_Asg, ↓z_ONil, ↓z_OCons, ↓z_SetIx, ↓z_Call, ↓z_Sq, ↓z_Rev, ↓z_For, ↓z_Wh, ↓z_Lc, ↓z_Lc2, ↓z_All, ↓z_All2, ↓z_Yes, ↓z_CB, ↓z_Isi, ↓z_Neg, ↓z_NoP, ↓z_Prt, ↓z_Sl, ↓z_App, ↓z_Pop, ↓z_VK, ↓z_VKs, ↓z_Eq, ↓z_InL, ↓z_InK, ↓z_InT, ↓z_In1, ↓z_In2, ↓z_In3, ↓z_In4, ↓z_IxS, ↓z_Ix1, ↓z_Ix2, ↓z_Ix3, ↓z_Ix4, ↓z_Ix5, ↓z_put1, ↓z_put2, ↓z_put3, ↓z_Len, ↓z_TupC, ↓z_LstC, ↓z_Repr, ↓z_NewD, ↓z_DisK, ↓z_DisT, ↓z_Get1, ↓z_Get2, ↓z_get2K, ↓z_get2T, ↓z_fin, ↓z_Rng1, ↓z_Rng2, ↓rng1F_i, ↓rng2F_i, ↓z_Enm, ↓z_EnmA, ↓enmAF_l, ↓enmAF_t, ↓enmF_l, ↓z_Zip, ↓zipF_l, ↓zipF_t, ↓z_Par, ↓parF_r, ↓z_Par3, ↓par3F_r, ↓z_Never, ↓z_NevE, ↓z_getK, ↓z_getT, ↓z_AddI, ↓z_AddT, ↓z_AddO, ↓z_AddS, ↓z_MulI, ↓z_MulT, ↓z_LtI, ↓z_LtT, ↓z_IsN, ↓z_IntI, ↓z_SlT, ↓z_SlL, ↓z_SlO, ↓z_SlS, ↓z_Sub, ↓z_Mod, ↓z_Div, ↓z_Pow, ↓z_Le, ↓z_Gt, ↓z_Ge, ↓z_II, ↓varF_v, ↓varF_l, ↓mvF_o, ↓mvF_v, ↓mvF_s, ndF_some, ifB_t, ifB_f, con, sl, frzS, isB, tuO_t, daO, sqO_l, sqO_t, sqO_o, sqO_s, lsO, lenO_K, lenO_T, lenO_o, lenO_l, lenO_t, lenO_s, ngO, consO, argO, varsO, wrB, untag, owL, tyS, tyD_n, tyD_b, tyD_i, tyD_s, tyD_l, tyD_t, tyD_d, entryE, tagA, backA, wipeE, backE, keepS, seqD_l, seqD_t, seqV_l, seqV_t, liD_l, kyS, ksS, keyD_i, keyD_s, keysD, ixS, tupD_t, isDic, isT, eq_self, isNone_n, isNone_i, isNone_t, isNone_l, isNone_b, isNone_s, isNone_o, need_some, atI_0, atI_1, atI_2, atI_3, ixN_30, ixN_31, ixN_32, eqv_int, eqv_str, Int.toNat_natCast, List.getElem?_cons_zero, List.getElem?_cons_succ, List.getElem?_nil, List.set_cons_zero, List.set_cons_succ, List.length_cons, List.length_nil, Option.join_some, Option.join_none, List.replicate_succ, List.replicate_zero, List.cons_append, List.nil_append, Option.map_some, Nat.zero_add, Nat.reduceAdd, Nat.reduceSub, Bool.not_true, Bool.not_false, if_true, if_false, Bool.false_eq_true, true_and, and_true, decide_true, decide_false, Nat.reduceLeDiff, Nat.reduceEqDiff, reduceIte, reduceCtorEq, Bool.or_false, Bool.or_true, Bool.and_true, Bool.and_false, Bool.true_and, Bool.false_and, Bool.true_or, Bool.false_or, List.map_cons, List.map_nil, List.nodup_cons, List.nodup_nil, List.mem_cons, List.not_mem_nil, not_false_eq_true, or_false, false_or, seqV_S, seqV_R, eS]
            refine sp_lrun hm hvL (by have := hv1.2; omega) fun as => ?_
            simp -dsimp only [↓z_K, ↓z_VarO, ↓z_Var, ↓z_Move, ↓z_Of, ↓z_Fz, ↓z_Res, ↓z_VNil, ↓z_VCons, ↓z_Tup, ↓z_Lst, ↓z_Op2, ↓z_Tst, ↓z_Not, ↓z_Chain, ↓z_AndV, ↓z_OrV, ↓z_NotV, ↓z_And, ↓z_Or, ↓z_If, ↓z_Next, ↓z_Seq, ↓z_Break, ↓z_Cont, ↓z_Exp, ↓z_Ret, ↓z_RetN, ↓z_IfS, ↓z_Nm, ↓z_Tp, ↓z_GN, ↓z_GC, ↓z_Asg, ↓z_ONil, ↓z_OCons, ↓z_SetIx, ↓z_Call, ↓z_Sq, ↓z_Rev, ↓z_For, ↓z_Wh, ↓z_Lc, ↓z_Lc2, ↓z_All, ↓z_All2, ↓z_Yes, ↓z_CB, ↓z_Isi, ↓z_Neg, ↓z_NoP, ↓z_Prt, ↓z_Sl, ↓z_App, ↓z_Pop, ↓z_VK, ↓z_VKs, ↓z_Eq, ↓z_InL, ↓z_InK, ↓z_InT, ↓z_In1, ↓z_In2, ↓z_In3, ↓z_In4, ↓z_IxS, ↓z_Ix1, ↓z_Ix2, ↓z_Ix3, ↓z_Ix4, ↓z_Ix5, ↓z_put1, ↓z_put2, ↓z_put3, ↓z_Len, ↓z_TupC, ↓z_LstC, ↓z_Repr, ↓z_NewD, ↓z_DisK, ↓z_DisT, ↓z_Get1, ↓z_Get2, ↓z_get2K, ↓z_get2T, ↓z_fin, ↓z_Rng1, ↓z_Rng2, ↓rng1F_i, ↓rng2F_i, ↓z_Enm, ↓z_EnmA, ↓enmAF_l, ↓enmAF_t, ↓enmF_l, ↓z_Zip, ↓zipF_l, ↓zipF_t, ↓z_Par, ↓parF_r, ↓z_Par3, ↓par3F_r, ↓z_Never, ↓z_NevE, ↓z_getK, ↓z_getT, ↓z_AddI, ↓z_AddT, ↓z_AddO, ↓z_AddS, ↓z_MulI, ↓z_MulT, ↓z_LtI, ↓z_LtT, ↓z_IsN, ↓z_IntI, ↓z_SlT, ↓z_SlL, ↓z_SlO, ↓z_SlS, ↓z_Sub, ↓z_Mod, ↓z_Div, ↓z_Pow, ↓z_Le, ↓z_Gt, ↓z_Ge, ↓z_II, ↓varF_v, ↓varF_l, ↓mvF_o, ↓mvF_v, ↓mvF_s, ndF_some, ifB_t, ifB_f, con, sl, frzS, isB, tuO_t, daO, sqO_l, sqO_t, sqO_o, sqO_s, lsO, lenO_K, lenO_T, lenO_o, lenO_l, lenO_t, lenO_s, ngO, consO, argO, varsO, wrB, untag, owL, tyS, tyD_n, tyD_b, tyD_i, tyD_s, tyD_l, tyD_t, tyD_d, entryE, tagA, backA, wipeE, backE, keepS, seqD_l, seqD_t, seqV_l, seqV_t, liD_l, kyS, ksS, keyD_i, keyD_s, keysD, ixS, tupD_t, isDic, isT, eq_self, isNone_n, isNone_i, isNone_t, isNone_l, isNone_b, isNone_s, isNone_o, need_some, atI_0, atI_1, atI_2, atI_3, ixN_30, ixN_31, ixN_32, eqv_int, eqv_str, Int.toNat_natCast, List.getElem?_cons_zero, List.getElem?_cons_succ, List.getElem?_nil, List.set_cons_zero, List.set_cons_succ, List.length_cons, List.length_nil, Option.join_some, Option.join_none, List.replicate_succ, List.replicate_zero, List.cons_append, List.nil_append, Option.map_some, Nat.zero_add, Nat.reduceAdd, Nat.reduceSub, Bool.not_true, Bool.not_false, if_true, if_false, Bool.false_eq_true, true_and, and_true, decide_true, decide_false, Nat.reduceLeDiff, Nat.reduceEqDiff, reduceIte, reduceCtorEq, Bool.or_false, Bool.or_true, Bool.and_true, Bool.and_false, Bool.true_and, Bool.false_and, Bool.true_or, Bool.false_or, List.map_cons, List.map_nil, List.nodup_cons, List.nodup_nil, List.mem_cons, List.not_mem_nil, not_false_eq_true, or_false, false_or, seqV_S, seqV_R, ne]
            exact ⟨eqOk_int, hN0 _ ⟨_, rfl, rfl⟩⟩
          · rintro ys e ⟨z16, rfl, rfl⟩
            simp -dsimp only [↓z_K, ↓z_VarO, ↓z_Var, ↓z_Move, ↓z_Of, ↓z_Fz, ↓z_Res, ↓z_VNil, ↓z_VCons, ↓z_Tup, ↓z_Lst, ↓z_Op2, ↓z_Tst, ↓z_Not, ↓z_Chain, ↓z_AndV, ↓z_OrV, ↓z_NotV, ↓z_And, ↓z_Or, ↓z_If, ↓z_Next, ↓z_Seq, ↓z_Break, ↓z_Cont, ↓z_Exp, ↓z_Ret, ↓z_RetN, ↓z_IfS, ↓z_Nm, ↓z_Tp, ↓z_GN, ↓z_GC, ↓z_Asg, ↓z_ONil, ↓z_OCons, ↓z_SetIx, ↓z_Call, ↓z_Sq, ↓z_Rev, ↓z_For, ↓z_Wh, ↓z_Lc, ↓z_Lc2, ↓z_All, ↓z_All2, ↓z_Yes, ↓z_CB, ↓z_Isi, ↓z_Neg, ↓z_NoP, ↓z_Prt, ↓z_Sl, ↓z_App, ↓z_Pop, ↓z_VK, ↓z_VKs, ↓z_Eq, ↓z_InL, ↓z_InK, ↓z_InT, ↓z_In1, ↓z_In2, ↓z_In3, ↓z_In4, ↓z_IxS, ↓z_Ix1, ↓z_Ix2, ↓z_Ix3, ↓z_Ix4, ↓z_Ix5, ↓z_put1, ↓z_put2, ↓z_put3, ↓z_Len, ↓z_TupC, ↓z_LstC, ↓z_Repr, ↓z_NewD, ↓z_DisK, ↓z_DisT, ↓z_Get1, ↓z_Get2, ↓z_get2K, ↓z_get2T, ↓z_fin, ↓z_Rng1, ↓z_Rng2, ↓rng1F_i, ↓rng2F_i, ↓z_Enm, ↓z_EnmA, ↓enmAF_l, ↓enmAF_t, ↓enmF_l, ↓z_Zip, ↓zipF_l, ↓zipF_t, ↓z_Par, ↓parF_r, ↓z_Par3, ↓par3F_r, ↓z_Never, ↓z_NevE, ↓z_getK, ↓z_getT, ↓z_AddI, ↓z_AddT, ↓z_AddO, ↓z_AddS, ↓z_MulI, ↓z_MulT, ↓z_LtI, ↓z_LtT, ↓z_IsN, ↓z_IntI, ↓z_SlT, ↓z_SlL, ↓z_SlO, ↓z_SlS, ↓z_Sub, ↓z_Mod, ↓z_Div, ↓z_Pow, ↓z_Le, ↓z_Gt, ↓z_Ge, ↓z_II, ↓varF_v, ↓varF_l, ↓mvF_o, ↓mvF_v, ↓mvF_s, ndF_some, ifB_t, ifB_f, con, sl, frzS, isB, tuO_t, daO, sqO_l, sqO_t, sqO_o, sqO_s, lsO, lenO_K, lenO_T, lenO_o, lenO_l, lenO_t, lenO_s, ngO, consO, argO, varsO, wrB, untag, owL, tyS, tyD_n, tyD_b, tyD_i, tyD_s, tyD_l, tyD_t, tyD_d, entryE, tagA, backA, wipeE, backE, keepS, seqD_l, seqD_t, seqV_l, seqV_t, liD_l, kyS, ksS, keyD_i, keyD_s, keysD, ixS, tupD_t, isDic, isT, eq_self, isNone_n, isNone_i, isNone_t, isNone_l, isNone_b, isNone_s, isNone_o, need_some, atI_0, atI_1, atI_2, atI_3, ixN_30, ixN_31, ixN_32, eqv_int, eqv_str, Int.toNat_natCast, List.getElem?_cons_zero, List.getElem?_cons_succ, List.getElem?_nil, List.set_cons_zero, List.set_cons_succ, List.length_cons, List.length_nil, Option.join_some, Option.join_none, List.replicate_succ, List.replicate_zero, List.cons_append, List.nil_append, Option.map_some, Nat.zero_add, Nat.reduceAdd, Nat.reduceSub, Bool.not_true, Bool.not_false, if_true, if_false, Bool.false_eq_true, true_and, and_true, decide_true, decide_false, Nat.reduceLeDiff, Nat.reduceEqDiff, reduceIte, reduceCtorEq, Bool.or_false, Bool.or_true, Bool.and_true, Bool.and_false, Bool.true_and, Bool.false_and, Bool.true_or, Bool.false_or, List.map_cons, List.map_nil, List.nodup_cons, List.nodup_nil, List.mem_cons, List.not_mem_nil, not_false_eq_true, or_false, false_or, seqV_S, seqV_R]
            refine ⟨Nat.zero_le _, .inl ⟨shaped_nil, shaped_nil⟩, ?_⟩
            rw [eqv_list_nil]
            simp -dsimp only [↓z_K, ↓z_VarO, ↓z_Var, ↓z_Move, ↓z_Of, ↓z_Fz, ↓z_Res, ↓z_VNil, ↓z_VCons, ↓z_Tup, ↓z_Lst, ↓z_Op2, ↓z_Tst, ↓z_Not, ↓z_Chain, ↓z_AndV, ↓z_OrV, ↓z_NotV, ↓z_And, ↓z_Or, ↓z_If, ↓z_Next, ↓z_Seq, ↓z_Break, ↓z_Cont, ↓z_Exp, ↓z_Ret, ↓z_RetN, ↓z_IfS, ↓z_Nm, ↓z_Tp, ↓z_GN, ↓z_GC, ↓z_Asg, ↓z_ONil, ↓z_OCons, ↓z_SetIx, ↓z_Call, ↓z_Sq, ↓z_Rev, ↓z_For, ↓z_Wh, ↓z_Lc, ↓z_Lc2, ↓z_All, ↓z_All2, ↓z_Yes, ↓z_CB, ↓z_Isi, ↓z_Neg, ↓z_NoP, ↓z_Prt, ↓z_Sl, ↓z_App, ↓z_Pop, ↓z_VK, ↓z_VKs, ↓z_Eq, ↓z_InL, ↓z_InK, ↓z_InT, ↓z_In1, ↓z_In2, ↓z_In3, ↓z_In4, ↓z_IxS, ↓z_Ix1, ↓z_Ix2, ↓z_Ix3, ↓z_Ix4, ↓z_Ix5, ↓z_put1, ↓z_put2, ↓z_put3, ↓z_Len, ↓z_TupC, ↓z_LstC, ↓z_Repr, ↓z_NewD, ↓z_DisK, ↓z_DisT, ↓z_Get1, ↓z_Get2, ↓z_get2K, ↓z_get2T, ↓z_fin, ↓z_Rng1, ↓z_Rng2, ↓rng1F_i, ↓rng2F_i, ↓z_Enm, ↓z_EnmA, ↓enmAF_l, ↓enmAF_t, ↓enmF_l, ↓z_Zip, ↓zipF_l, ↓zipF_t, ↓z_Par, ↓parF_r, ↓z_Par3, ↓par3F_r, ↓z_Never, ↓z_NevE, ↓z_getK, ↓z_getT, ↓z_AddI, ↓z_AddT, ↓z_AddO, ↓z_AddS, ↓z_MulI, ↓z_MulT, ↓z_LtI, ↓z_LtT, ↓z_IsN, ↓z_IntI, ↓z_SlT, ↓z_SlL, ↓z_SlO, ↓z_SlS, ↓z_Sub, ↓z_Mod, ↓z_Div, ↓z_Pow, ↓z_Le, ↓z_Gt, ↓z_Ge, ↓z_II, ↓varF_v, ↓varF_l, ↓mvF_o, ↓mvF_v, ↓mvF_s, ndF_some, ifB_t, ifB_f, con, sl, frzS, isB, tuO_t, daO, sqO_l, sqO_t, sqO_o, sqO_s, lsO, lenO_K, lenO_T, lenO_o, lenO_l, lenO_t, lenO_s, ngO, consO, argO, varsO, wrB, untag, owL, tyS, tyD_n, tyD_b, tyD_i, tyD_s, tyD_l, tyD_t, tyD_d, entryE, tagA, backA, wipeE, backE, keepS, seqD_l, seqD_t, seqV_l, seqV_t, liD_l, kyS, ksS, keyD_i, keyD_s, keysD, ixS, tupD_t, isDic, isT, eq_self, isNone_n, isNone_i, isNone_t, isNone_l, isNone_b, isNone_s, isNone_o, need_some, atI_0, atI_1, atI_2, atI_3, ixN_30, ixN_31, ixN_32, eqv_int, eqv_str, Int.toNat_natCast, List.getElem?_cons_zero, List.getElem?_cons_succ, List.getElem?_nil, List.set_cons_zero, List.set_cons_succ, List.length_cons, List.length_nil, Option.join_some, Option.join_none, List.replicate_succ, List.replicate_zero, List.cons_append, List.nil_append, Option.map_some, Nat.zero_add, Nat.reduceAdd, Nat.reduceSub, Bool.not_true, Bool.not_false, if_true, if_false, Bool.false_eq_true, true_and, and_true, decide_true, decide_false, Nat.reduceLeDiff, Nat.reduceEqDiff, reduceIte, reduceCtorEq, Bool.or_false, Bool.or_true, Bool.and_true, Bool.and_false, Bool.true_and, Bool.false_and, Bool.true_or, Bool.false_or, List.map_cons, List.map_nil, List.nodup_cons, List.nodup_nil, List.mem_cons, List.not_mem_nil, not_false_eq_true, or_false, false_or, seqV_S, seqV_R, List.isEmpty_nil]
            exact hN2 _ ⟨_, _, _, rfl⟩
      · rintro e ⟨z11, z12, z16, rfl⟩
        exact hN _ ⟨_, _, _, _, _, _, _, _, _, _, _, _, _, _, _, _, rfl⟩)
    simp -dsimp only [↓z_K, ↓z_VarO, ↓z_Var, ↓z_Move, ↓z_Of, ↓z_Fz, ↓z_Res, ↓z_VNil, ↓z_VCons, ↓z_Tup, ↓z_Lst, ↓z_Op2, ↓z_Tst, ↓z_Not, ↓z_Chain, ↓z_AndV, ↓z_OrV, ↓z_NotV, ↓z_And, ↓z_Or, ↓z_If, ↓z_Next, ↓z_Seq, ↓z_Break, ↓z_Cont, ↓z_Exp, ↓z_Ret, ↓z_RetN, ↓z_IfS, ↓z_Nm, ↓z_Tp, ↓z_GN, ↓z_GC, ↓z_Asg, ↓z_ONil, ↓z_OCons, ↓z_SetIx, ↓z_Call, ↓z_Sq, ↓z_Rev, ↓z_For, ↓z_Wh, ↓z_Lc, ↓z_Lc2, ↓z_All, ↓z_All2, ↓z_Yes, ↓z_CB, ↓z_Isi, ↓z_Neg, ↓z_NoP, ↓z_Prt, ↓z_Sl, ↓z_App, ↓z_Pop, ↓z_VK, ↓z_VKs, ↓z_Eq, ↓z_InL, ↓z_InK, ↓z_InT, ↓z_In1, ↓z_In2, ↓z_In3, ↓z_In4, ↓z_IxS, ↓z_Ix1, ↓z_Ix2, ↓z_Ix3, ↓z_Ix4, ↓z_Ix5, ↓z_put1, ↓z_put2, ↓z_put3, ↓z_Len, ↓z_TupC, ↓z_LstC, ↓z_Repr, ↓z_NewD, ↓z_DisK, ↓z_DisT, ↓z_Get1, ↓z_Get2, ↓z_get2K, ↓z_get2T, ↓z_fin, ↓z_Rng1, ↓z_Rng2, ↓rng1F_i, ↓rng2F_i, ↓z_Enm, ↓z_EnmA, ↓enmAF_l, ↓enmAF_t, ↓enmF_l, ↓z_Zip, ↓zipF_l, ↓zipF_t, ↓z_Par, ↓parF_r, ↓z_Par3, ↓par3F_r, ↓z_Never, ↓z_NevE, ↓z_getK, ↓z_getT, ↓z_AddI, ↓z_AddT, ↓z_AddO, ↓z_AddS, ↓z_MulI, ↓z_MulT, ↓z_LtI, ↓z_LtT, ↓z_IsN, ↓z_IntI, ↓z_SlT, ↓z_SlL, ↓z_SlO, ↓z_SlS, ↓z_Sub, ↓z_Mod, ↓z_Div, ↓z_Pow, ↓z_Le, ↓z_Gt, ↓z_Ge, ↓z_II, ↓varF_v, ↓varF_l, ↓mvF_o, ↓mvF_v, ↓mvF_s, ndF_some, ifB_t, ifB_f, con, sl, frzS, isB, tuO_t, daO, sqO_l, sqO_t, sqO_o, sqO_s, lsO, lenO_K, lenO_T, lenO_o, lenO_l, lenO_t, lenO_s, ngO, consO, argO, varsO, wrB, untag, owL, tyS, tyD_n, tyD_b, tyD_i, tyD_s, tyD_l, tyD_t, tyD_d, entryE, tagA, backA, wipeE, backE, keepS, seqD_l, seqD_t, seqV_l, seqV_t, liD_l, kyS, ksS, keyD_i, keyD_s, keysD, ixS, tupD_t, isDic, isT, eq_self, isNone_n, isNone_i, isNone_t, isNone_l, isNone_b, isNone_s, isNone_o, need_some, atI_0, atI_1, atI_2, atI_3, ixN_30, ixN_31, ixN_32, eqv_int, eqv_str, Int.toNat_natCast, List.getElem?_cons_zero, List.getElem?_cons_succ, List.getElem?_nil, List.set_cons_zero, List.set_cons_succ, List.length_cons, List.length_nil, Option.join_some, Option.join_none, List.replicate_succ, List.replicate_zero, List.cons_append, List.nil_append, Option.map_some, Nat.zero_add, Nat.reduceAdd, Nat.reduceSub, Bool.not_true, Bool.not_false, if_true, if_false, Bool.false_eq_true, true_and, and_true, decide_true, decide_false, Nat.reduceLeDiff, Nat.reduceEqDiff, reduceIte, reduceCtorEq, Bool.or_false, Bool.or_true, Bool.and_true, Bool.and_false, Bool.true_and, Bool.false_and, Bool.true_or, Bool.false_or, List.map_cons, List.map_nil, List.nodup_cons, List.nodup_nil, List.mem_cons, List.not_mem_nil, not_false_eq_true, or_false, false_or, seqV_S, seqV_R]
    refine sp_take (m := 3) hu4 (by decide) fun c u5 hc3 hu5 => ?_
    simp -dsimp only [↓z_K, ↓z_VarO, ↓z_Var, ↓z_Move, ↓z_Of, ↓z_Fz, ↓z_Res, ↓z_VNil, ↓z_VCons, ↓z_Tup, ↓z_Lst, ↓z_Op2, ↓z_Tst, ↓z_Not, ↓z_Chain, ↓z_AndV, ↓z_OrV, ↓z_NotV, ↓z_And, ↓z_Or, ↓z_If, ↓z_Next, ↓z_Seq, ↓z_Break, ↓z_Cont, ↓z_Exp, ↓z_Ret, ↓z_RetN, ↓z_IfS, ↓z_Nm, ↓z_Tp, ↓z_GN, ↓z_GC, ↓z_Asg, ↓z_ONil, ↓z_OCons, ↓z_SetIx, ↓z_Call, ↓z_Sq, ↓z_Rev, ↓z_For, ↓z_Wh, ↓z_Lc, ↓z_Lc2, ↓z_All, ↓z_All2, ↓z_Yes, ↓z_CB, ↓z_Isi, ↓z_Neg, ↓z_NoP, ↓z_Prt, ↓z_Sl, ↓z_App, ↓z_Pop, ↓z_VK, ↓z_VKs, ↓z_Eq, ↓z_InL, ↓z_InK, ↓z_InT, ↓z_In1, ↓z_In2, ↓z_In3, ↓z_In4, ↓z_IxS, ↓z_Ix1, ↓z_Ix2, ↓z_Ix3, ↓z_Ix4, ↓z_Ix5, ↓z_put1, ↓z_put2, ↓z_put3, ↓z_Len, ↓z_TupC, ↓z_LstC, ↓z_Repr, ↓z_NewD, ↓z_DisK, ↓z_DisT, ↓z_Get1, ↓z_Get2, ↓z_get2K, ↓z_get2T, ↓z_fin, ↓z_Rng1, ↓z_Rng2, ↓rng1F_i, ↓rng2F_i, ↓z_Enm, ↓z_EnmA, ↓enmAF_l, ↓enmAF_t, ↓enmF_l, ↓z_Zip, ↓zipF_l, ↓zipF_t, ↓z_Par, ↓parF_r, ↓z_Par3, ↓par3F_r, ↓z_Never, ↓z_NevE, ↓z_getK, ↓z_getT, ↓z_AddI, ↓z_AddT, ↓z_AddO, ↓z_AddS, ↓z_MulI, ↓z_MulT, ↓z_LtI, ↓z_LtT, ↓z_IsN, ↓z_IntI, ↓z_SlT, ↓z_SlL, ↓z_SlO, ↓z_SlS, ↓z_Sub, ↓z_Mod, ↓z_Div, ↓z_Pow, ↓z_Le, ↓z_Gt, ↓z_Ge, ↓z_II, ↓varF_v, ↓varF_l, ↓mvF_o, ↓mvF_v, ↓mvF_s, ndF_some, ifB_t, ifB_f, con, sl, frzS, isB, tuO_t, daO, sqO_l, sqO_t, sqO_o, sqO_s, lsO, lenO_K, lenO_T, lenO_o, lenO_l, lenO_t, lenO_s, ngO, consO, argO, varsO, wrB, untag, owL, tyS, tyD_n, tyD_b, tyD_i, tyD_s, tyD_l, tyD_t, tyD_d, entryE, tagA, backA, wipeE, backE, keepS, seqD_l, seqD_t, seqV_l, seqV_t, liD_l, kyS, ksS, keyD_i, keyD_s, keysD, ixS, tupD_t, isDic, isT, eq_self, isNone_n, isNone_i, isNone_t, isNone_l, isNone_b, isNone_s, isNone_o, need_some, atI_0, atI_1, atI_2, atI_3, ixN_30, ixN_31, ixN_32, eqv_int, eqv_str, Int.toNat_natCast, List.getElem?_cons_zero, List.getElem?_cons_succ, List.getElem?_nil, List.set_cons_zero, List.set_cons_succ, List.length_cons, List.length_nil, Option.join_some, Option.join_none, List.replicate_succ, List.replicate_zero, List.cons_append, List.nil_append, Option.map_some, Nat.zero_add, Nat.reduceAdd, Nat.reduceSub, Bool.not_true, Bool.not_false, if_true, if_false, Bool.false_eq_true, true_and, and_true, decide_true, decide_false, Nat.reduceLeDiff, Nat.reduceEqDiff, reduceIte, reduceCtorEq, Bool.or_false, Bool.or_true, Bool.and_true, Bool.and_false, Bool.true_and, Bool.false_and, Bool.true_or, Bool.false_or, List.map_cons, List.map_nil, List.nodup_cons, List.nodup_nil, List.mem_cons, List.not_mem_nil, not_false_eq_true, or_false, false_or, seqV_S, seqV_R]
    refine ⟨eqOk_int, brB (fun _ => ?_) fun _ => ?_⟩
    · simp -dsimp only [↓z_K, ↓z_VarO, ↓z_Var, ↓z_Move, ↓z_Of, ↓z_Fz, ↓z_Res, ↓z_VNil, ↓z_VCons, ↓z_Tup, ↓z_Lst, ↓z_Op2, ↓z_Tst, ↓z_Not, ↓z_Chain, ↓z_AndV, ↓z_OrV, ↓z_NotV, ↓z_And, ↓z_Or, ↓z_If, ↓z_Next, ↓z_Seq, ↓z_Break, ↓z_Cont, ↓z_Exp, ↓z_Ret, ↓z_RetN, ↓z_IfS, ↓z_Nm, ↓z_Tp, ↓z_GN, ↓z_GC, ↓z_Asg, ↓z_ONil, ↓z_OCons, ↓z_SetIx, ↓z_Call, ↓z_Sq, ↓z_Rev, ↓z_For, ↓z_Wh, ↓z_Lc, ↓z_Lc2, ↓z_All, ↓z_All2, ↓z_Yes, ↓z_CB, ↓z_Isi, ↓z_Neg, ↓z_NoP, ↓z_Prt, ↓z_Sl, ↓z_App, ↓z_Pop, ↓z_VK, ↓z_VKs, ↓z_Eq, ↓z_InL, ↓z_InK, ↓z_InT, ↓z_In1, ↓z_In2, ↓z_In3, ↓z_In4, ↓z_IxS, ↓z_Ix1, ↓z_Ix2, ↓z_Ix3, ↓z_Ix4, ↓z_Ix5, ↓z_put1, ↓z_put2, ↓z_put3, ↓z_Len, ↓z_TupC, ↓z_LstC, ↓z_Repr, ↓z_NewD, ↓z_DisK, ↓z_DisT, ↓z_Get1, ↓z_Get2, ↓z_get2K, ↓z_get2T, ↓z_fin, ↓z_Rng1, ↓z_Rng2, ↓rng1F_i, ↓rng2F_i, ↓z_Enm, ↓z_EnmA, ↓enmAF_l, ↓enmAF_t, ↓enmF_l, ↓z_Zip, ↓zipF_l, ↓zipF_t, ↓z_Par, ↓parF_r, ↓z_Par3, ↓par3F_r, ↓z_Never, ↓z_NevE, ↓z_getK, ↓z_getT, ↓z_AddI, ↓z_AddT, ↓z_AddO, ↓z_AddS, ↓z_MulI, ↓z_MulT, ↓z_LtI, ↓z_LtT, ↓z_IsN, ↓z_IntI, ↓z_SlT, ↓z_SlL, ↓z_SlO, ↓z_SlS, ↓z_Sub, ↓z_Mod, ↓z_Div, ↓z_Pow, ↓z_Le, ↓z_Gt, ↓z_Ge, ↓z_II, ↓varF_v, ↓varF_l, ↓mvF_o, ↓mvF_v, ↓mvF_s, ndF_some, ifB_t, ifB_f, con, sl, frzS, isB, tuO_t, daO, sqO_l, sqO_t, sqO_o, sqO_s, lsO, lenO_K, lenO_T, lenO_o, lenO_l, lenO_t, lenO_s, ngO, consO, argO, varsO, wrB, untag, owL, tyS, tyD_n, tyD_b, tyD_i, tyD_s, tyD_l, tyD_t, tyD_d, entryE, tagA, backA, wipeE, backE, keepS, seqD_l, seqD_t, seqV_l, seqV_t, liD_l, kyS, ksS, keyD_i, keyD_s, keysD, ixS, tupD_t, isDic, isT, eq_self, isNone_n, isNone_i, isNone_t, isNone_l, isNone_b, isNone_s, isNone_o, need_some, atI_0, atI_1, atI_2, atI_3, ixN_30, ixN_31, ixN_32, eqv_int, eqv_str, Int.toNat_natCast, List.getElem?_cons_zero, List.getElem?_cons_succ, List.getElem?_nil, List.set_cons_zero, List.set_cons_succ, List.length_cons, List.length_nil, Option.join_some, Option.join_none, List.replicate_succ, List.replicate_zero, List.cons_append, List.nil_append, Option.map_some, Nat.zero_add, Nat.reduceAdd, Nat.reduceSub, Bool.not_true, Bool.not_false, if_true, if_false, Bool.false_eq_true, true_and, and_true, decide_true, decide_false, Nat.reduceLeDiff, Nat.reduceEqDiff, reduceIte, reduceCtorEq, Bool.or_false, Bool.or_true, Bool.and_true, Bool.and_false, Bool.true_and, Bool.false_and, Bool.true_or, Bool.false_or, List.map_cons, List.map_nil, List.nodup_cons, List.nodup_nil, List.mem_cons, List.not_mem_nil, not_false_eq_true, or_false, false_or, seqV_S, seqV_R]
      refine sp_take (m := 6) hu5 (by decide) fun n2 u6 hn2 hu6 => ?_
      simp -dsimp only [↓z_K, ↓z_VarO, ↓z_Var, ↓z_Move, ↓z_Of, ↓z_Fz, ↓z_Res, ↓z_VNil, ↓z_VCons, ↓z_Tup, ↓z_Lst, ↓z_Op2, ↓z_Tst, ↓z_Not, ↓z_Chain, ↓z_AndV, ↓z_OrV, ↓z_NotV, ↓z_And, ↓z_Or, ↓z_If, ↓z_Next, ↓z_Seq, ↓z_Break, ↓z_Cont, ↓z_Exp, ↓z_Ret, ↓z_RetN, ↓z_IfS, ↓z_Nm, ↓z_Tp, ↓z_GN, ↓z_GC, ↓z_Asg, ↓z_ONil, ↓z_OCons, ↓z_SetIx, ↓z_Call, ↓z_Sq, ↓z_Rev, ↓z_For, ↓z_Wh, ↓z_Lc, ↓z_Lc2, ↓z_All, ↓z_All2, ↓z_Yes, ↓z_CB, ↓z_Isi, ↓z_Neg, ↓z_NoP, ↓z_Prt, ↓z_Sl, ↓z_App, ↓z_Pop, ↓z_VK, ↓z_VKs, ↓z_Eq, ↓z_InL, ↓z_InK, ↓z_InT, ↓z_In1, ↓z_In2, ↓z_In3, ↓z_In4, ↓z_IxS, ↓z_Ix1, ↓z_Ix2, ↓z_Ix3, ↓z_Ix4, ↓z_Ix5, ↓z_put1, ↓z_put2, ↓z_put3, ↓z_Len, ↓z_TupC, ↓z_LstC, ↓z_Repr, ↓z_NewD, ↓z_DisK, ↓z_DisT, ↓z_Get1, ↓z_Get2, ↓z_get2K, ↓z_get2T, ↓z_fin, ↓z_Rng1, ↓z_Rng2, ↓rng1F_i, ↓rng2F_i, ↓z_Enm, ↓z_EnmA, ↓enmAF_l, ↓enmAF_t, ↓enmF_l, ↓z_Zip, ↓zipF_l, ↓zipF_t, ↓z_Par, ↓parF_r, ↓z_Par3, ↓par3F_r, ↓z_Never, ↓z_NevE, ↓z_getK, ↓z_getT, ↓z_AddI, ↓z_AddT, ↓z_AddO, ↓z_AddS, ↓z_MulI, ↓z_MulT, ↓z_LtI, ↓z_LtT, ↓z_IsN, ↓z_IntI, ↓z_SlT, ↓z_SlL, ↓z_SlO, ↓z_SlS, ↓z_Sub, ↓z_Mod, ↓z_Div, ↓z_Pow, ↓z_Le, ↓z_Gt, ↓z_Ge, ↓z_II, ↓varF_v, ↓varF_l, ↓mvF_o, ↓mvF_v, ↓mvF_s, ndF_some, ifB_t, ifB_f, con, sl, frzS, isB, tuO_t, daO, sqO_l, sqO_t, sqO_o, sqO_s, lsO, lenO_K, lenO_T, lenO_o, lenO_l, lenO_t, lenO_s, ngO, consO, argO, varsO, wrB, untag, owL, tyS, tyD_n, tyD_b, tyD_i, tyD_s, tyD_l, tyD_t, tyD_d, entryE, tagA, backA, wipeE, backE, keepS, seqD_l, seqD_t, seqV_l, seqV_t, liD_l, kyS, ksS, keyD_i, keyD_s, keysD, ixS, tupD_t, isDic, isT, eq_self, isNone_n, isNone_i, isNone_t, isNone_l, isNone_b, isNone_s, isNone_o, need_some, atI_0, atI_1, atI_2, atI_3, ixN_30, ixN_31, ixN_32, eqv_int, eqv_str, Int.toNat_natCast, List.getElem?_cons_zero, List.getElem?_cons_succ, List.getElem?_nil, List.set_cons_zero, List.set_cons_succ, List.length_cons, List.length_nil, Option.join_some, Option.join_none, List.replicate_succ, List.replicate_zero, List.cons_append, List.nil_append, Option.map_some, Nat.zero_add, Nat.reduceAdd, Nat.reduceSub, Bool.not_true, Bool.not_false, if_true, if_false, Bool.false_eq_true, true_and, and_true, decide_true, decide_false, Nat.reduceLeDiff, Nat.reduceEqDiff, reduceIte, reduceCtorEq, Bool.or_false, Bool.or_true, Bool.and_true, Bool.and_false, Bool.true_and, Bool.false_and, Bool.true_or, Bool.false_or, List.map_cons, List.map_nil, List.nodup_cons, List.nodup_nil, List.mem_cons, List.not_mem_nil, not_false_eq_true, or_false, false_or, seqV_S, seqV_R, el]
      refine sp_wmachine hu6 (by omega) (by omega) (by omega) (by omega) (by omega) (by omega) fun u7 R1 hu7 hR1 hM1 => ?_
      simp -dsimp only [↓z_K, ↓z_VarO, ↓z_Var, ↓z_Move, ↓z_Of, ↓z_Fz, ↓z_Res, ↓z_VNil, ↓z_VCons, ↓z_Tup, ↓z_Lst, ↓z_Op2, ↓z_Tst, ↓z_Not, ↓z_Chain, ↓z_AndV, ↓z_OrV, ↓z_NotV, ↓z_And, ↓z_Or, ↓z_If, ↓z_Next, ↓z_Seq, ↓z_Break, ↓z_Cont, ↓z_Exp, ↓z_Ret, ↓z_RetN, ↓z_IfS, ↓z_Nm, ↓z_Tp, ↓z_GN, ↓z_GC, ↓z_Asg, ↓z_ONil, ↓z_OCons, ↓z_SetIx, ↓z_Call, ↓z_Sq, ↓z_Rev, ↓z_For, ↓z_Wh, ↓z_Lc, ↓z_Lc2, ↓z_All, ↓z_All2, ↓z_Yes, ↓z_CB, ↓z_Isi, ↓z_Neg, ↓z_NoP, ↓z_Prt, ↓z_Sl, ↓z_App, ↓z_Pop, ↓z_VK, ↓z_VKs, ↓z_Eq, ↓z_InL, ↓z_InK, ↓z_InT, ↓z_In1, ↓z_In2, ↓z_In3, ↓z_In4, ↓z_IxS, ↓z_Ix1, ↓z_Ix2, ↓z_Ix3, ↓z_Ix4, ↓z_Ix5, ↓z_put1, ↓z_put2, ↓z_put3, ↓z_Len, ↓z_TupC, ↓z_LstC, ↓z_Repr, ↓z_NewD, ↓z_DisK, ↓z_DisT, ↓z_Get1, ↓z_Get2, ↓z_get2K, ↓z_get2T, ↓z_fin, ↓z_Rng1, ↓z_Rng2, ↓rng1F_i, ↓rng2F_i, ↓z_Enm, ↓z_EnmA, ↓enmAF_l, ↓enmAF_t, ↓enmF_l, ↓z_Zip, ↓zipF_l, ↓zipF_t, ↓z_Par, ↓parF_r, ↓z_Par3, ↓par3F_r, ↓z_Never, ↓z_NevE, ↓z_getK, ↓z_getT, ↓z_AddI, ↓z_AddT, ↓z_AddO, ↓z_AddS, ↓z_MulI, ↓z_MulT, ↓z_LtI, ↓z_LtT, ↓z_IsN, ↓z_IntI, ↓z_SlT, ↓z_SlL, ↓z_SlO, ↓z_SlS, ↓z_Sub, ↓z_Mod, ↓z_Div, ↓z_Pow, ↓z_Le, ↓z_Gt, ↓z_Ge, ↓z_II, ↓varF_v, ↓varF_l, ↓mvF_o, ↓mvF_v, ↓mvF_s, ndF_some, ifB_t, ifB_f, con, sl, frzS, isB, tuO_t, daO, sqO_l, sqO_t, sqO_o, sqO_s, lsO, lenO_K, lenO_T, lenO_o, lenO_l, lenO_t, lenO_s, ngO, consO, argO, varsO, wrB, untag, owL, tyS, tyD_n, tyD_b, tyD_i, tyD_s, tyD_l, tyD_t, tyD_d, entryE, tagA, backA, wipeE, backE, keepS, seqD_l, seqD_t, seqV_l, seqV_t, liD_l, kyS, ksS, keyD_i, keyD_s, keysD, ixS, tupD_t, isDic, isT, eq_self, isNone_n, isNone_i, isNone_t, isNone_l, isNone_b, isNone_s, isNone_o, need_some, atI_0, atI_1, atI_2, atI_3, ixN_30, ixN_31, ixN_32, eqv_int, eqv_str, Int.toNat_natCast, List.getElem?_cons_zero, List.getElem?_cons_succ, List.getElem?_nil, List.set_cons_zero, List.set_cons_succ, List.length_cons, List.length_nil, Option.join_some, Option.join_none, List.replicate_succ, List.replicate_zero, List.cons_append, List.nil_append, Option.map_some, Nat.zero_add, Nat.reduceAdd, Nat.reduceSub, Bool.not_true, Bool.not_false, if_true, if_false, Bool.false_eq_true, true_and, and_true, decide_true, decide_false, Nat.reduceLeDiff, Nat.reduceEqDiff, reduceIte, reduceCtorEq, Bool.or_false, Bool.or_true, Bool.and_true, Bool.and_false, Bool.true_and, Bool.false_and, Bool.true_or, Bool.false_or, List.map_cons, List.map_nil, List.nodup_cons, List.nodup_nil, List.mem_cons, List.not_mem_nil, not_false_eq_true, or_false, false_or, seqV_S, seqV_R, eS]
      rw [show cutD (R.map eR) none (some 6) = (R.take 6).map eR by rw [show (6 : Int) = ((6 : Nat) : Int) from rfl, cut_take, List.map_take], ← List.map_append]
      have hlen : R1.length + (R.take 6).length ≤ 12 := by rw [List.length_take]; omega
      have hfull : ∀ r ∈ R1 ++ R.take 6, FullR (1 + l) 12 (2 + a) r := mem_app (fun r hr => (hM1.full r hr).mono hM1.n12) fun r hr => (hM.full r (List.mem_of_mem_take hr)).mono hM.n12
      have hpos : 0 < (R1 ++ R.take 6).length := by rw [List.length_append]; omega
      have hlen2 : (R1 ++ R.take 6).length ≤ 12 := by rw [List.length_append]; omega
      generalize R1 ++ R.take 6 = R2 at hfull hpos hlen2 ⊢
      refine ⟨by simp only [List.length_map]; exact Nat.le_of_lt (szlt (by omega)), sz3, by rw [List.length_map]; exact Nat.le_of_lt (szlt (by omega)), ?_⟩
      refine lc_inv (fun j ys e => ∃ (us : List Row) (y13 y14 y15 : Option Slot), e = [some (.scr ns), some (.val (.int i)), some (.val (.int cell)), un u7, some (.val (.int (1 + l : Nat))), some (.val (.int (2 + a : Nat))), some (.val (.tuple [.int (1 + l : Nat), .int (2 + a : Nat), .tuple (R2.map eR)])), x7, x8, x9, x10, x11, x12, y13, y14, y15, x16] ∧ ys = us.map eR ∧ us.length = j ∧ ∀ r ∈ us, FullR (1 + l) R2.length (2 + a) r)
        ⟨[], _, _, _, rfl, rfl, rfl, by simp⟩ ?_ ?_
      · rintro j d ys e N1 N0 hd2 ⟨us, y13, y14, y15, rfl, rfl, hus, huw⟩ hN1 hN0
        rw [List.getElem?_map, Option.map_eq_some_iff] at hd2
        obtain ⟨r, hr, rfl⟩ := hd2
        obtain ⟨hr1, hr2⟩ := hfull r (List.mem_of_getElem? hr)
        unfold w_law_e2
        simp -dsimp only [↓z_K, ↓z_VarO, ↓z_Var, ↓z_Move, ↓z_Of, ↓z_Fz, ↓z_Res, ↓z_VNil, ↓z_VCons, ↓z_Tup, ↓z_Lst, ↓z_Op2, ↓z_Tst, ↓z_Not, ↓z_Chain, ↓z_AndV, ↓z_OrV, ↓z_NotV, ↓z_And, ↓z_Or, ↓z_If, ↓z_Next, ↓z_Seq, ↓z_Break, ↓z_Cont, ↓z_Exp, ↓z_Ret, ↓z_RetN, ↓z_IfS, ↓z_Nm, ↓z_Tp, ↓z_GN, ↓z_GC, ↓z_Asg, ↓z_ONil, ↓z_OCons, ↓z_SetIx, ↓z_Call, ↓z_Sq, ↓z_Rev, ↓z_For, ↓z_Wh, ↓z_Lc, ↓z_Lc2, ↓z_All, ↓z_All2, ↓z_Yes, ↓z_CB, ↓z_Isi, ↓z_Neg, ↓z_NoP, ↓z_Prt, ↓z_Sl, ↓z_App, ↓z_Pop, ↓z_VK, ↓z_VKs, ↓z_Eq, ↓z_InL, ↓z_InK, ↓z_InT, ↓z_In1, ↓z_In2, ↓z_In3, ↓z_In4, ↓z_IxS, ↓z_Ix1, ↓z_Ix2, ↓z_Ix3, ↓z_Ix4, ↓z_Ix5, ↓z_put1, ↓z_put2, ↓z_put3, ↓z_Len, ↓z_TupC, ↓z_LstC, ↓z_Repr, ↓z_NewD, ↓z_DisK, ↓z_DisT, ↓z_Get1, ↓z_Get2, ↓z_get2K, ↓z_get2T, ↓z_fin, ↓z_Rng1, ↓z_Rng2, ↓rng1F_i, ↓rng2F_i, ↓z_Enm, ↓z_EnmA, ↓enmAF_l, ↓enmAF_t, ↓enmF_l, ↓z_Zip, ↓zipF_l, ↓zipF_t, ↓z_Par, ↓parF_r, ↓z_Par3, ↓par3F_r, ↓z_Never, ↓z_NevE, ↓z_getK, ↓z_getT, ↓z_AddI, ↓z_AddT, ↓z_AddO, ↓z_AddS, ↓z_MulI, ↓z_MulT, ↓z_LtI, ↓z_LtT, ↓z_IsN, ↓z_IntI, ↓z_SlT, ↓z_SlL, ↓z_SlO, ↓z_SlS, ↓z_Sub, ↓z_Mod, ↓z_Div, ↓z_Pow, ↓z_Le, ↓z_Gt, ↓z_Ge, ↓z_II, ↓varF_v, ↓varF_l, ↓mvF_o, ↓mvF_v, ↓mvF_s, ndF_some, ifB_t, ifB_f, con, sl, frzS, isB, tuO_t, daO, sqO_l, sqO_t, sqO_o, sqO_s, lsO, lenO_K, lenO_T, lenO_o, lenO_l, lenO_t, lenO_s, ngO, consO, argO, varsO, wrB, untag, owL, tyS, tyD_n, tyD_b, tyD_i, tyD_s, tyD_l, tyD_t, tyD_d, entryE, tagA, backA, wipeE, backE, keepS, seqD_l, seqD_t, seqV_l, seqV_t, liD_l, kyS, ksS, keyD_i, keyD_s, keysD, ixS, tupD_t, isDic, isT, eq_self, isNone_n, isNone_i, isNone_t, isNone_l, isNone_b, isNone_s, isNone_o, need_some, atI_0, atI_1, atI_2, atI_3, ixN_30, ixN_31, ixN_32, eqv_int, eqv_str, Int.toNat_natCast, List.getElem?_cons_zero, List.getElem?_cons_succ, List.getElem?_nil, List.set_cons_zero, List.set_cons_succ, List.length_cons, List.length_nil, Option.join_some, Option.join_none, List.replicate_succ, List.replicate_zero, List.cons_append, List.nil_append, Option.map_some, Nat.zero_add, Nat.reduceAdd, Nat.reduceSub, Bool.not_true, Bool.not_false, if_true, if_false, Bool.false_eq_true, true_and, and_true, decide_true, decide_false, Nat.reduceLeDiff, Nat.reduceEqDiff, reduceIte, reduceCtorEq, Bool.or_false, Bool.or_true, Bool.and_true, Bool.and_false, Bool.true_and, Bool.false_and, Bool.true_or, Bool.false_or, List.map_cons, List.map_nil, List.nodup_cons, List.nodup_nil, List.mem_cons, List.not_mem_nil, not_false_eq_true, or_false, false_or, seqV_S, seqV_R, eR, List.length_map]
        refine ⟨Nat.le_of_lt (szlt (by omega)), ?_⟩
        refine lc_inv (fun q ys e => ∃ (row : Row) (y14 y15 : Option Slot), e = [some (.scr ns), some (.val (.int i)), some (.val (.int cell)), un u7, some (.val (.int (1 + l : Nat))), some (.val (.int (2 + a : Nat))), some (.val (.tuple [.int (1 + l : Nat), .int (2 + a : Nat), .tuple (R2.map eR)])), x7, x8, x9, x10, x11, x12, some (.val (eR r)), y14, y15, x16] ∧ ys = row.map eE ∧ row.length = q ∧ ∀ x ∈ row, FullE R2.length (2 + a) x)
          ⟨[], _, _, rfl, rfl, rfl, by simp⟩ ?_ ?_
        · rintro q d ys e N3 N4 hd3 ⟨row, y14, y15, rfl, rfl, hro, hrw⟩ hN3 hN4
          rw [List.getElem?_map, Option.map_eq_some_iff] at hd3
          obtain ⟨x, hx, rfl⟩ := hd3
          obtain ⟨s, b, rfl, hs, hb⟩ := hr2 x (List.mem_of_getElem? hx)
          unfold w_law_e1
          have em : ((s : Int) % (R2.length : Int)) = ((s % R2.length : Nat) : Int) := by omega
          simp -dsimp only [↓z_K, ↓z_VarO, ↓z_Var, ↓z_Move, ↓z_Of, ↓z_Fz, ↓z_Res, ↓z_VNil, ↓z_VCons, ↓z_Tup, ↓z_Lst, ↓z_Op2, ↓z_Tst, ↓z_Not, ↓z_Chain, ↓z_AndV, ↓z_OrV, ↓z_NotV, ↓z_And, ↓z_Or, ↓z_If, ↓z_Next, ↓z_Seq, ↓z_Break, ↓z_Cont, ↓z_Exp, ↓z_Ret, ↓z_RetN, ↓z_IfS, ↓z_Nm, ↓z_Tp, ↓z_GN, ↓z_GC, ↓z_Asg, ↓z_ONil, ↓z_OCons, ↓z_SetIx, ↓z_Call, ↓z_Sq, ↓z_Rev, ↓z_For, ↓z_Wh, ↓z_Lc, ↓z_Lc2, ↓z_All, ↓z_All2, ↓z_Yes, ↓z_CB, ↓z_Isi, ↓z_Neg, ↓z_NoP, ↓z_Prt, ↓z_Sl, ↓z_App, ↓z_Pop, ↓z_VK, ↓z_VKs, ↓z_Eq, ↓z_InL, ↓z_InK, ↓z_InT, ↓z_In1, ↓z_In2, ↓z_In3, ↓z_In4, ↓z_IxS, ↓z_Ix1, ↓z_Ix2, ↓z_Ix3, ↓z_Ix4, ↓z_Ix5, ↓z_put1, ↓z_put2, ↓z_put3, ↓z_Len, ↓z_TupC, ↓z_LstC, ↓z_Repr, ↓z_NewD, ↓z_DisK, ↓z_DisT, ↓z_Get1, ↓z_Get2, ↓z_get2K, ↓z_get2T, ↓z_fin, ↓z_Rng1, ↓z_Rng2, ↓rng1F_i, ↓rng2F_i, ↓z_Enm, ↓z_EnmA, ↓enmAF_l, ↓enmAF_t, ↓enmF_l, ↓z_Zip, ↓zipF_l, ↓zipF_t, ↓z_Par, ↓parF_r, ↓z_Par3, ↓par3F_r, ↓z_Never, ↓z_NevE, ↓z_getK, ↓z_getT, ↓z_AddI, ↓z_AddT, ↓z_AddO, ↓z_AddS, ↓z_MulI, ↓z_MulT, ↓z_LtI, ↓z_LtT, ↓z_IsN, ↓z_IntI, ↓z_SlT, ↓z_SlL, ↓z_SlO, ↓z_SlS, ↓z_Sub, ↓z_Mod, ↓z_Div, ↓z_Pow, ↓z_Le, ↓z_Gt, ↓z_Ge, ↓z_II, ↓varF_v, ↓varF_l, ↓mvF_o, ↓mvF_v, ↓mvF_s, ndF_some, ifB_t, ifB_f, con, sl, frzS, isB, tuO_t, daO, sqO_l, sqO_t, sqO_o, sqO_s, lsO, lenO_K, lenO_T, lenO_o, lenO_l, lenO_t, lenO_s, ngO, consO, argO, varsO, wrB, untag, owL, tyS, tyD_n, tyD_b, tyD_i, tyD_s, tyD_l, tyD_t, tyD_d, entryE, tagA, backA, wipeE, backE, keepS, seqD_l, seqD_t, seqV_l, seqV_t, liD_l, kyS, ksS, keyD_i, keyD_s, keysD, ixS, tupD_t, isDic, isT, eq_self, isNone_n, isNone_i, isNone_t, isNone_l, isNone_b, isNone_s, isNone_o, need_some, atI_0, atI_1, atI_2, atI_3, ixN_30, ixN_31, ixN_32, eqv_int, eqv_str, Int.toNat_natCast, List.getElem?_cons_zero, List.getElem?_cons_succ, List.getElem?_nil, List.set_cons_zero, List.set_cons_succ, List.length_cons, List.length_nil, Option.join_some, Option.join_none, List.replicate_succ, List.replicate_zero, List.cons_append, List.nil_append, Option.map_some, Nat.zero_add, Nat.reduceAdd, Nat.reduceSub, Bool.not_true, Bool.not_false, if_true, if_false, Bool.false_eq_true, true_and, and_true, decide_true, decide_false, Nat.reduceLeDiff, Nat.reduceEqDiff, reduceIte, reduceCtorEq, Bool.or_false, Bool.or_true, Bool.and_true, Bool.and_false, Bool.true_and, Bool.false_and, Bool.true_or, Bool.false_or, List.map_cons, List.map_nil, List.nodup_cons, List.nodup_nil, List.mem_cons, List.not_mem_nil, not_false_eq_true, or_false, false_or, seqV_S, seqV_R, eE, List.length_map, em]
          refine ⟨by omega, sz2, hN3 _ _ ⟨row ++ [some (s % R2.length, b)], _, _, rfl, by simp [eE], by simp [hro], mem_snoc' hrw ⟨_, _, rfl, Nat.mod_lt _ hpos, hb⟩⟩⟩
        · rintro ys e ⟨row, y14, y15, rfl, rfl, hro, hrw⟩
          rw [List.length_map] at hro
          simp -dsimp only [↓z_K, ↓z_VarO, ↓z_Var, ↓z_Move, ↓z_Of, ↓z_Fz, ↓z_Res, ↓z_VNil, ↓z_VCons, ↓z_Tup, ↓z_Lst, ↓z_Op2, ↓z_Tst, ↓z_Not, ↓z_Chain, ↓z_AndV, ↓z_OrV, ↓z_NotV, ↓z_And, ↓z_Or, ↓z_If, ↓z_Next, ↓z_Seq, ↓z_Break, ↓z_Cont, ↓z_Exp, ↓z_Ret, ↓z_RetN, ↓z_IfS, ↓z_Nm, ↓z_Tp, ↓z_GN, ↓z_GC, ↓z_Asg, ↓z_ONil, ↓z_OCons, ↓z_SetIx, ↓z_Call, ↓z_Sq, ↓z_Rev, ↓z_For, ↓z_Wh, ↓z_Lc, ↓z_Lc2, ↓z_All, ↓z_All2, ↓z_Yes, ↓z_CB, ↓z_Isi, ↓z_Neg, ↓z_NoP, ↓z_Prt, ↓z_Sl, ↓z_App, ↓z_Pop, ↓z_VK, ↓z_VKs, ↓z_Eq, ↓z_InL, ↓z_InK, ↓z_InT, ↓z_In1, ↓z_In2, ↓z_In3, ↓z_In4, ↓z_IxS, ↓z_Ix1, ↓z_Ix2, ↓z_Ix3, ↓z_Ix4, ↓z_Ix5, ↓z_put1, ↓z_put2, ↓z_put3, ↓z_Len, ↓z_TupC, ↓z_LstC, ↓z_Repr, ↓z_NewD, ↓z_DisK, ↓z_DisT, ↓z_Get1, ↓z_Get2, ↓z_get2K, ↓z_get2T, ↓z_fin, ↓z_Rng1, ↓z_Rng2, ↓rng1F_i, ↓rng2F_i, ↓z_Enm, ↓z_EnmA, ↓enmAF_l, ↓enmAF_t, ↓enmF_l, ↓z_Zip, ↓zipF_l, ↓zipF_t, ↓z_Par, ↓parF_r, ↓z_Par3, ↓par3F_r, ↓z_Never, ↓z_NevE, ↓z_getK, ↓z_getT, ↓z_AddI, ↓z_AddT, ↓z_AddO, ↓z_AddS, ↓z_MulI, ↓z_MulT, ↓z_LtI, ↓z_LtT, ↓z_IsN, ↓z_IntI, ↓z_SlT, ↓z_SlL, ↓z_SlO, ↓z_SlS, ↓z_Sub, ↓z_Mod, ↓z_Div, ↓z_Pow, ↓z_Le, ↓z_Gt, ↓z_Ge, ↓z_II, ↓varF_v, ↓varF_l, ↓mvF_o, ↓mvF_v, ↓mvF_s, ndF_some, ifB_t, ifB_f, con, sl, frzS, isB, tuO_t, daO, sqO_l, sqO_t, sqO_o, sqO_s, lsO, lenO_K, lenO_T, lenO_o, lenO_l, lenO_t, lenO_s, ngO, consO, argO, varsO, wrB, untag, owL, tyS, tyD_n, tyD_b, tyD_i, tyD_s, tyD_l, tyD_t, tyD_d, entryE, tagA, backA, wipeE, backE, keepS, seqD_l, seqD_t, seqV_l, seqV_t, liD_l, kyS, ksS, keyD_i, keyD_s, keysD, ixS, tupD_t, isDic, isT, eq_self, isNone_n, isNone_i, isNone_t, isNone_l, isNone_b, isNone_s, isNone_o, need_some, atI_0, atI_1, atI_2, atI_3, ixN_30, ixN_31, ixN_32, eqv_int, eqv_str, Int.toNat_natCast, List.getElem?_cons_zero, List.getElem?_cons_succ, List.getElem?_nil, List.set_cons_zero, List.set_cons_succ, List.length_cons, List.length_nil, Option.join_some, Option.join_none, List.replicate_succ, List.replicate_zero, List.cons_append, List.nil_append, Option.map_some, Nat.zero_add, Nat.reduceAdd, Nat.reduceSub, Bool.not_true, Bool.not_false, if_true, if_false, Bool.false_eq_true, true_and, and_true, decide_true, decide_false, Nat.reduceLeDiff, Nat.reduceEqDiff, reduceIte, reduceCtorEq, Bool.or_false, Bool.or_true, Bool.and_true, Bool.and_false, Bool.true_and, Bool.false_and, Bool.true_or, Bool.false_or, List.map_cons, List.map_nil, List.nodup_cons, List.nodup_nil, List.mem_cons, List.not_mem_nil, not_false_eq_true, or_false, false_or, seqV_S, seqV_R, eR_of]
          exact hN1 _ _ ⟨us ++ [row], _, _, _, rfl, by simp, by simp [hus], mem_snoc' huw ⟨by omega, hrw⟩⟩
      · rintro ys e ⟨us, y13, y14, y15, rfl, rfl, hus, huw⟩
        rw [List.length_map] at hus
        simp -dsimp only [↓z_K, ↓z_VarO, ↓z_Var, ↓z_Move, ↓z_Of, ↓z_Fz, ↓z_Res, ↓z_VNil, ↓z_VCons, ↓z_Tup, ↓z_Lst, ↓z_Op2, ↓z_Tst, ↓z_Not, ↓z_Chain, ↓z_AndV, ↓z_OrV, ↓z_NotV, ↓z_And, ↓z_Or, ↓z_If, ↓z_Next, ↓z_Seq, ↓z_Break, ↓z_Cont, ↓z_Exp, ↓z_Ret, ↓z_RetN, ↓z_IfS, ↓z_Nm, ↓z_Tp, ↓z_GN, ↓z_GC, ↓z_Asg, ↓z_ONil, ↓z_OCons, ↓z_SetIx, ↓z_Call, ↓z_Sq, ↓z_Rev, ↓z_For, ↓z_Wh, ↓z_Lc, ↓z_Lc2, ↓z_All, ↓z_All2, ↓z_Yes, ↓z_CB, ↓z_Isi, ↓z_Neg, ↓z_NoP, ↓z_Prt, ↓z_Sl, ↓z_App, ↓z_Pop, ↓z_VK, ↓z_VKs, ↓z_Eq, ↓z_InL, ↓z_InK, ↓z_InT, ↓z_In1, ↓z_In2, ↓z_In3, ↓z_In4, ↓z_IxS, ↓z_Ix1, ↓z_Ix2, ↓z_Ix3, ↓z_Ix4, ↓z_Ix5, ↓z_put1, ↓z_put2, ↓z_put3, ↓z_Len, ↓z_TupC, ↓z_LstC, ↓z_Repr, ↓z_NewD, ↓z_DisK, ↓z_DisT, ↓z_Get1, ↓z_Get2, ↓z_get2K, ↓z_get2T, ↓z_fin, ↓z_Rng1, ↓z_Rng2, ↓rng1F_i, ↓rng2F_i, ↓z_Enm, ↓z_EnmA, ↓enmAF_l, ↓enmAF_t, ↓enmF_l, ↓z_Zip, ↓zipF_l, ↓zipF_t, ↓z_Par, ↓parF_r, ↓z_Par3, ↓par3F_r, ↓z_Never, ↓z_NevE, ↓z_getK, ↓z_getT, ↓z_AddI, ↓z_AddT, ↓z_AddO, ↓z_AddS, ↓z_MulI, ↓z_MulT, ↓z_LtI, ↓z_LtT, ↓z_IsN, ↓z_IntI, ↓z_SlT, ↓z_SlL, ↓z_SlO, ↓z_SlS, ↓z_Sub, ↓z_Mod, ↓z_Div, ↓z_Pow, ↓z_Le, ↓z_Gt, ↓z_Ge, ↓z_II, ↓varF_v, ↓varF_l, ↓mvF_o, ↓mvF_v, ↓mvF_s, ndF_some, ifB_t, ifB_f, con, sl, frzS, isB, tuO_t, daO, sqO_l, sqO_t, sqO_o, sqO_s, lsO, lenO_K, lenO_T, lenO_o, lenO_l, lenO_t, lenO_s, ngO, consO, argO, varsO, wrB, untag, owL, tyS, tyD_n, tyD_b, tyD_i, tyD_s, tyD_l, tyD_t, tyD_d, entryE, tagA, backA, wipeE, backE, keepS, seqD_l, seqD_t, seqV_l, seqV_t, liD_l, kyS, ksS, keyD_i, keyD_s, keysD, ixS, tupD_t, isDic, isT, eq_self, isNone_n, isNone_i, isNone_t, isNone_l, isNone_b, isNone_s, isNone_o, need_some, atI_0, atI_1, atI_2, atI_3, ixN_30, ixN_31, ixN_32, eqv_int, eqv_str, Int.toNat_natCast, List.getElem?_cons_zero, List.getElem?_cons_succ, List.getElem?_nil, List.set_cons_zero, List.set_cons_succ, List.length_cons, List.length_nil, Option.join_some, Option.join_none, List.replicate_succ, List.replicate_zero, List.cons_append, List.nil_append, Option.map_some, Nat.zero_add, Nat.reduceAdd, Nat.reduceSub, Bool.not_true, Bool.not_false, if_true, if_false, Bool.false_eq_true, true_and, and_true, decide_true, decide_false, Nat.reduceLeDiff, Nat.reduceEqDiff, reduceIte, reduceCtorEq, Bool.or_false, Bool.or_true, Bool.and_true, Bool.and_false, Bool.true_and, Bool.false_and, Bool.true_or, Bool.false_or, List.map_cons, List.map_nil, List.nodup_cons, List.nodup_nil, List.mem_cons, List.not_mem_nil, not_false_eq_true, or_false, false_or, seqV_S, seqV_R]
        exact ⟨sz3, rest _ ⟨1 + l, 2 + a, us⟩ _ _ _ _ ⟨by show 1 ≤ 1 + l; omega, by show 1 + l ≤ 3; omega, by show 2 ≤ 2 + a; omega, by show 2 + a ≤ 9; omega, by show 1 ≤ us.length; omega, by show us.length ≤ 12; omega, by rw [show (Sk.rows ⟨1 + l, 2 + a, us⟩).length = R2.length from hus]; exact huw⟩ rfl⟩
    · simp -dsimp only [↓z_K, ↓z_VarO, ↓z_Var, ↓z_Move, ↓z_Of, ↓z_Fz, ↓z_Res, ↓z_VNil, ↓z_VCons, ↓z_Tup, ↓z_Lst, ↓z_Op2, ↓z_Tst, ↓z_Not, ↓z_Chain, ↓z_AndV, ↓z_OrV, ↓z_NotV, ↓z_And, ↓z_Or, ↓z_If, ↓z_Next, ↓z_Seq, ↓z_Break, ↓z_Cont, ↓z_Exp, ↓z_Ret, ↓z_RetN, ↓z_IfS, ↓z_Nm, ↓z_Tp, ↓z_GN, ↓z_GC, ↓z_Asg, ↓z_ONil, ↓z_OCons, ↓z_SetIx, ↓z_Call, ↓z_Sq, ↓z_Rev, ↓z_For, ↓z_Wh, ↓z_Lc, ↓z_Lc2, ↓z_All, ↓z_All2, ↓z_Yes, ↓z_CB, ↓z_Isi, ↓z_Neg, ↓z_NoP, ↓z_Prt, ↓z_Sl, ↓z_App, ↓z_Pop, ↓z_VK, ↓z_VKs, ↓z_Eq, ↓z_InL, ↓z_InK, ↓z_InT, ↓z_In1, ↓z_In2, ↓z_In3, ↓z_In4, ↓z_IxS, ↓z_Ix1, ↓z_Ix2, ↓z_Ix3, ↓z_Ix4, ↓z_Ix5, ↓z_put1, ↓z_put2, ↓z_put3, ↓z_Len, ↓z_TupC, ↓z_LstC, ↓z_Repr, ↓z_NewD, ↓z_DisK, ↓z_DisT, ↓z_Get1, ↓z_Get2, ↓z_get2K, ↓z_get2T, ↓z_fin, ↓z_Rng1, ↓z_Rng2, ↓rng1F_i, ↓rng2F_i, ↓z_Enm, ↓z_EnmA, ↓enmAF_l, ↓enmAF_t, ↓enmF_l, ↓z_Zip, ↓zipF_l, ↓zipF_t, ↓z_Par, ↓parF_r, ↓z_Par3, ↓par3F_r, ↓z_Never, ↓z_NevE, ↓z_getK, ↓z_getT, ↓z_AddI, ↓z_AddT, ↓z_AddO, ↓z_AddS, ↓z_MulI, ↓z_MulT, ↓z_LtI, ↓z_LtT, ↓z_IsN, ↓z_IntI, ↓z_SlT, ↓z_SlL, ↓z_SlO, ↓z_SlS, ↓z_Sub, ↓z_Mod, ↓z_Div, ↓z_Pow, ↓z_Le, ↓z_Gt, ↓z_Ge, ↓z_II, ↓varF_v, ↓varF_l, ↓mvF_o, ↓mvF_v, ↓mvF_s, ndF_some, ifB_t, ifB_f, con, sl, frzS, isB, tuO_t, daO, sqO_l, sqO_t, sqO_o, sqO_s, lsO, lenO_K, lenO_T, lenO_o, lenO_l, lenO_t, lenO_s, ngO, consO, argO, varsO, wrB, untag, owL, tyS, tyD_n, tyD_b, tyD_i, tyD_s, tyD_l, tyD_t, tyD_d, entryE, tagA, backA, wipeE, backE, keepS, seqD_l, seqD_t, seqV_l, seqV_t, liD_l, kyS, ksS, keyD_i, keyD_s, keysD, ixS, tupD_t, isDic, isT, eq_self, isNone_n, isNone_i, isNone_t, isNone_l, isNone_b, isNone_s, isNone_o, need_some, atI_0, atI_1, atI_2, atI_3, ixN_30, ixN_31, ixN_32, eqv_int, eqv_str, Int.toNat_natCast, List.getElem?_cons_zero, List.getElem?_cons_succ, List.getElem?_nil, List.set_cons_zero, List.set_cons_succ, List.length_cons, List.length_nil, Option.join_some, Option.join_none, List.replicate_succ, List.replicate_zero, List.cons_append, List.nil_append, Option.map_some, Nat.zero_add, Nat.reduceAdd, Nat.reduceSub, Bool.not_true, Bool.not_false, if_true, if_false, Bool.false_eq_true, true_and, and_true, decide_true, decide_false, Nat.reduceLeDiff, Nat.reduceEqDiff, reduceIte, reduceCtorEq, Bool.or_false, Bool.or_true, Bool.and_true, Bool.and_false, Bool.true_and, Bool.false_and, Bool.true_or, Bool.false_or, List.map_cons, List.map_nil, List.nodup_cons, List.nodup_nil, List.mem_cons, List.not_mem_nil, not_false_eq_true, or_false, false_or, seqV_S, seqV_R]
      exact rest _ _ _ _ _ _ hM rfl
  · rintro e ⟨x1, x2, x3, x4, x5, x6, x7, x8, x9, x10, x11, x12, x13, x14, x15, x16, rfl⟩
    simp -dsimp only [↓z_K, ↓z_VarO, ↓z_Var, ↓z_Move, ↓z_Of, ↓z_Fz, ↓z_Res, ↓z_VNil, ↓z_VCons, ↓z_Tup, ↓z_Lst, ↓z_Op2, ↓z_Tst, ↓z_Not, ↓z_Chain, ↓z_AndV, ↓z_OrV, ↓z_NotV, ↓z_And, ↓z_Or, ↓z_If, ↓z_Next, ↓z_Seq, ↓z_Break, ↓z_Cont, ↓z_Exp, ↓z_Ret, ↓z_RetN, ↓z_IfS, ↓z_Nm, ↓z_Tp, ↓z_GN, ↓z_GC, ↓z_Asg, ↓z_ONil, ↓z_OCons, ↓z_SetIx, ↓z_Call, ↓z_Sq, ↓z_Rev, ↓z_For, ↓z_Wh, ↓z_Lc, ↓z_Lc2, ↓z_All, ↓z_All2, ↓z_Yes, ↓z_CB, ↓z_Isi, ↓z_Neg, ↓z_NoP, ↓z_Prt, ↓z_Sl, ↓z_App, ↓z_Pop, ↓z_VK, ↓z_VKs, ↓z_Eq, ↓z_InL, ↓z_InK, ↓z_InT, ↓z_In1, ↓z_In2, ↓z_In3, ↓z_In4, ↓z_IxS, ↓z_Ix1, ↓z_Ix2, ↓z_Ix3, ↓z_Ix4, ↓z_Ix5, ↓z_put1, ↓z_put2, ↓z_put3, ↓z_Len, ↓z_TupC, ↓z_LstC, ↓z_Repr, ↓z_NewD, ↓z_DisK, ↓z_DisT, ↓z_Get1, ↓z_Get2, ↓z_get2K, ↓z_get2T, ↓z_fin, ↓z_Rng1, ↓z_Rng2, ↓rng1F_i, ↓rng2F_i, ↓z_Enm, ↓z_EnmA, ↓enmAF_l, ↓enmAF_t, ↓enmF_l, ↓z_Zip, ↓zipF_l, ↓zipF_t, ↓z_Par, ↓parF_r, ↓z_Par3, ↓par3F_r, ↓z_Never, ↓z_NevE, ↓z_getK, ↓z_getT, ↓z_AddI, ↓z_AddT, ↓z_AddO, ↓z_AddS, ↓z_MulI, ↓z_MulT, ↓z_LtI, ↓z_LtT, ↓z_IsN, ↓z_IntI, ↓z_SlT, ↓z_SlL, ↓z_SlO, ↓z_SlS, ↓z_Sub, ↓z_Mod, ↓z_Div, ↓z_Pow, ↓z_Le, ↓z_Gt, ↓z_Ge, ↓z_II, ↓varF_v, ↓varF_l, ↓mvF_o, ↓mvF_v, ↓mvF_s, ndF_some, ifB_t, ifB_f, con, sl, frzS, isB, tuO_t, daO, sqO_l, sqO_t, sqO_o, sqO_s, lsO, lenO_K, lenO_T, lenO_o, lenO_l, lenO_t, lenO_s, ngO, consO, argO, varsO, wrB, untag, owL, tyS, tyD_n, tyD_b, tyD_i, tyD_s, tyD_l, tyD_t, tyD_d, entryE, tagA, backA, wipeE, backE, keepS, seqD_l, seqD_t, seqV_l, seqV_t, liD_l, kyS, ksS, keyD_i, keyD_s, keysD, ixS, tupD_t, isDic, isT, eq_self, isNone_n, isNone_i, isNone_t, isNone_l, isNone_b, isNone_s, isNone_o, need_some, atI_0, atI_1, atI_2, atI_3, ixN_30, ixN_31, ixN_32, eqv_int, eqv_str, Int.toNat_natCast, List.getElem?_cons_zero, List.getElem?_cons_succ, List.getElem?_nil, List.set_cons_zero, List.set_cons_succ, List.length_cons, List.length_nil, Option.join_some, Option.join_none, List.replicate_succ, List.replicate_zero, List.cons_append, List.nil_append, Option.map_some, Nat.zero_add, Nat.reduceAdd, Nat.reduceSub, Bool.not_true, Bool.not_false, if_true, if_false, Bool.false_eq_true, true_and, and_true, decide_true, decide_false, Nat.reduceLeDiff, Nat.reduceEqDiff, reduceIte, reduceCtorEq, Bool.or_false, Bool.or_true, Bool.and_true, Bool.and_false, Bool.true_and, Bool.false_and, Bool.true_or, Bool.false_or, List.map_cons, List.map_nil, List.nodup_cons, List.nodup_nil, List.mem_cons, List.not_mem_nil, not_false_eq_true, or_false, false_or, seqV_S, seqV_R]
end DV

set_option Elab.async false
set_option linter.all false
set_option maxRecDepth 100000
set_option maxHeartbeats 0
namespace DV
open PySem PySem.Spec PyProof.Rows L2
theorem law_end {w : World} {mg : Str → Option Value} {fa : Addr} {h : Heap} {K : Frag} (KX : K.In h) (c : He.SaysX DV.fa fn [] tf (fun _ => true) w h K) (G : h.Ns mainGlobals mg) (hmg : mg ("law" : Str) = some (.ref fa)) :
      ∃ (fd : FuncData) (fs : FS), (∀ (s : Shared) (u : Value), BindsTo s fd ⟨[u], []⟩ [("script", u)]) ∧
        (∀ base : Heap, K.In base → base.Ns mainGlobals mg → (∀ p ∈ tf.map (He.cT K), GxR.TabB base mg p.1 p.2) → FnG (PySem.Challenge.rw_answertests_k10_words_that_lead_to_state).prog w K mg base CX0 ((tf.map (He.cT K)).map (·.2)) 10 fa fd ["script"] fs) ∧
        ∀ ns : List Int, ns.length ≤ 63 → (∀ z ∈ ns, Builtin.Int.intBits z ≤ 1048576) → fs [.scr ns] (fun r _ => r = .val (.bool true)) fun _ => False := by
  have cd : He.SaysD DV.fa fn K := congrArg (fun z : He.AlT => z.1) c.t
  obtain ⟨fd, F0⟩ := cd.def_ 24 rfl
  have F := fun_of (st := s_law) F0
  have e := hmg.symm.trans (He.glo_ok KX G (cd.fact 24 (f := .glo "law") rfl))
  cases e
  refine ⟨fd, fs_law, ?_, fun base hK hn TB => f_law (facts KX G c TB) F, spec_law⟩
  obtain ⟨oc, od, kV, doc, pm, an, cdv, ct, osl, efd, lk, hcd⟩ := F.ex
  subst efd
  exact fun s u => .of_eq rfl
end DV
open PySem PySem.W PySem.Calls PyProof.Rows
theorem PySem.Challenge.cw_answertests_k10_words_that_lead_to_state_holds : PySem.Challenge.rw_answertests_k10_words_that_lead_to_state.Holds := by
  w_on; o_law
  refine HandSHeadRun.head_any (r := OpenLaw.row PySem.Challenge.rw_answertests_k10_words_that_lead_to_state) (q := view (OpenLaw.row PySem.Challenge.rw_answertests_k10_words_that_lead_to_state).prog [39]) (H := DV.hk) (ob := DV.ob) (M := 6000) (loose := DV.loose) (d := HandSHeadRun.topDef (OpenLaw.row PySem.Challenge.rw_answertests_k10_words_that_lead_to_state).prog 39) (kwd := []) DV.ob_eq
    (by kernel_rfl) (fun s => by kernel_rfl) DV.run (by kernel_rfl) (by kernel_rfl) (by kernel_rfl) (by rfl) (by first | assumption | decide +kernel) (by decide +kernel) ⟨rfl, rfl, rfl, rfl, rfl, by decide +kernel⟩ ?hw ?hc
  case hw => w_witness2
  case hc =>
    refine DV.walk_ofG (l := PySem.Challenge.rw_answertests_k10_words_that_lead_to_state) (n := 63) (k := 10) (x := "script") (nf := 6) (fa0 := DV.fa) (fn := DV.fn) (ts := []) (tf := DV.tf) (ex := fun _ => true) rfl (by decide) (by kernel_rfl) (DV.room_top (by decide)) ?F
    intro w mg fa h K KX c G hmg0
    have hmg : mg ("law" : PySem.Str) = some (.ref fa) := by
      have e : (HandSHeadRun.topDef (OpenLaw.row PySem.Challenge.rw_answertests_k10_words_that_lead_to_state).prog 39).name = ("law" : PySem.Str) := by kernel_rfl
      rw [← e]
      exact hmg0
    exact DV.law_end KX c G hmg
