import PyProof.Rows.All
import Wide.All
import OpenK.AllK
import Wide.FinOn
import HandS.ForMost
import HandS.Defaults
import HandS.TupSets
import HandS.Deep
import HandS.IsInst
import HandS.Zip
import HandS.Conv
import HandS.Style
import HandS.TupAny
import HandS.DictComp
import HandS.More
import HandS.SetFor
import HandS.Strs
import HandS.SortInts
import KE.KDictKeyed
import KE.KDictWalk
import KE.KDictPairs
import HandS.Iter
import PyProof.Rows.SetFrom
import HandS.CallLocal
import HandS.MakeKwOnly
import PyProof.ReprLen
import PySem.Challenge.RW_stillopen_k31_whole_one_least_stack_a_cl
import HandS.NoneIn
import HandS.HeadEnd
import HandS.Head0
import HandS.Head1
import HandS.Head2
import HandS.HeadHook1
import HandS.HeadHook2
/-! G1 -/
set_option Elab.async false
set_option linter.all false
set_option maxRecDepth 100000
set_option maxHeartbeats 1000000
namespace G
open PySem L2

/-! ## 1. Data, and how they stand in the abstract heap -/
abbrev Ex (H H' : Hp) : Prop := ∀ a o, H a = some o → H' a = some o
theorem ex_refl (H : Hp) : Ex H H := fun _ _ h => h
theorem ex_trans {A B C : Hp} (x : Ex A B) (y : Ex B C) : Ex A C := fun a o h => y a o (x a o h)
theorem ex_new {H : Hp} {p : Addr} {o : HO} (h : H p = none) : Ex H (upd H p o) := fun a u e => by
  rw [upd_ne (ne_of_none e h)]; exact e
theorem ex_free {H H' : Hp} {p : Addr} (x : Ex H H') (h : H' p = none) : H p = none := by
  cases q : H p with
  | none => rfl
  | some o => rw [x p o q] at h; cases h

/-- data: dI a dict whose keys are ints, dT a dict whose keys are tuples (its keys, its values) -/
inductive D where
  | non
  | bl (b : Bool)
  | int (i : Int)
  | str (x : Str)
  | fn (a : Addr)
  | tup (l : List D)
  | lst (l : List D)
  | dI (ks : List Int)
  | dT (ks xs : List D)
  /-- a list known to the object, never written -/
  | fz (K : PySem.W.Frag) (l : List D)

mutual
def nk : D → NestedKey
  | .int i => .num i
  | .bl b => .num (if b = true then 1 else 0)
  | .str x => .text x
  | .tup l => .tup (nks l)
  | _ => .none
def nks : List D → List NestedKey
  | [] => []
  | d :: l => nk d :: nks l
end
mutual
def py : D → PyData
  | .bl b => .bool b
  | .int i => .int i
  | .str x => .str x
  | .tup l => .tuple (pys l)
  | .lst l => .list (pys l)
  | _ => .none
def pys : List D → List PyData
  | [] => []
  | d :: l => py d :: pys l
end
mutual
/-- without functions and dicts -/
def plain : D → Bool
  | .non => true
  | .bl _ => true
  | .int _ => true
  | .str _ => true
  | .tup l => plains l
  | .lst l => plains l
  | .fn _ => false
  | .dI _ => false
  | .dT _ _ => false
  | .fz _ _ => false
def plains : List D → Bool
  | [] => true
  | d :: l => plain d && plains l
end
mutual
/-- what can be a key: ints, None, tuples of such -/
def keyish : D → Bool
  | .non => true
  | .int _ => true
  | .tup l => keyishs l
  | _ => false
def keyishs : List D → Bool
  | [] => true
  | d :: l => keyish d && keyishs l
end

/-- a dict object with tuple keys: the entries (key, its tuple's address, value) -/
def relN (p : NestedKey × Addr × V) (q : NestedKey × Addr × Value) : Prop := p.1 = q.1 ∧ p.2.1 = q.2.1 ∧ RelV p.2.2 q.2.2
structure NdR (w : World) (h : Heap) (a : Addr) (es : List (NestedKey × Addr × V)) : Prop where
  ex : ∃ o arr ep xs, h.get? a = some o ∧ o.ExactDict ∧ o.data = .dict arr ep ∧ Paired relN es xs ∧ arr.toList = xs.map (fun x => (⟨x.1.hash w, .ref x.2.1, x.2.2⟩ : DictEntry))
  nd : (es.map (·.1)).Nodup
  sys : (a == sysModules) = false
  big : es.length ≤ 100000
def NdO (w : World) (a : Addr) (es : List (NestedKey × Addr × V)) : HO := .ext fun h => NdR w h a es

mutual
/-- the value v stands for the data d -/
inductive Rp (w : World) (F : Hp) : D → V → Prop where
  | non : Rp w F .non .non
  | bl (b : Bool) : Rp w F (.bl b) (.bl b)
  | int (i : Int) : Rp w F (.int i) (.int i)
  | str (x : Str) : Rp w F (.str x) (.str x)
  | fn (a : Addr) : Rp w F (.fn a) (.ref a)
  | tup {a : Addr} {vs : List V} {l : List D} : F a = some (.tup vs) → RpL w F l vs → Rp w F (.tup l) (.ref a)
  | lst {a : Addr} {vs : List V} {l : List D} : F a = some (.lst vs) → RpL w F l vs → Rp w F (.lst l) (.ref a)
  | dI {a : Addr} {o : Obj} {kvs : List (Key × V)} {ks : List Int} : F a = some (.frz o (.dK kvs)) → kvs.map (·.1) = ks.map Sum.inl → Rp w F (.dI ks) (.ref a)
  | dT {a : Addr} {o : Obj} {es : List (NestedKey × Addr × V)} {ks xs : List D} {kv xv : List V} : F a = some (.frz o (NdO w a es)) → kv = es.map (fun e => V.ref e.2.1) → xv = es.map (·.2.2) → es.map (·.1) = ks.map nk →
      RpL w F ks kv → RpL w F xs xv → Rp w F (.dT ks xs) (.ref a)
  | fz {K : PySem.W.Frag} {a : Addr} {vs : List V} {l : List D} : SqL K F a vs → RpL w F l vs → Rp w F (.fz K l) (.ref a)
inductive RpL (w : World) (F : Hp) : List D → List V → Prop where
  | nil : RpL w F [] []
  | cons {d : D} {v : V} {l : List D} {vs : List V} : Rp w F d v → RpL w F l vs → RpL w F (d :: l) (v :: vs)
end

section
variable {w : World} {F F' : Hp}
mutual
theorem Rp.mono (x : Ex F F') : ∀ {d : D} {v : V}, Rp w F d v → Rp w F' d v
  | _, _, .non => .non
  | _, _, .bl b => .bl b
  | _, _, .int i => .int i
  | _, _, .str y => .str y
  | _, _, .fn a => .fn a
  | _, _, .tup h r => .tup (x _ _ h) (RpL.mono x r)
  | _, _, .lst h r => .lst (x _ _ h) (RpL.mono x r)
  | _, _, .dI h e => .dI (x _ _ h) e
  | _, _, .dT h e1 e2 e3 r1 r2 => .dT (x _ _ h) e1 e2 e3 (RpL.mono x r1) (RpL.mono x r2)
  | _, _, .fz h r => .fz (Same.seq x h) (RpL.mono x r)
theorem RpL.mono (x : Ex F F') : ∀ {l : List D} {vs : List V}, RpL w F l vs → RpL w F' l vs
  | _, _, .nil => .nil
  | _, _, .cons r t => .cons (Rp.mono x r) (RpL.mono x t)
end
theorem RpL.length : ∀ {l : List D} {vs : List V}, RpL w F l vs → vs.length = l.length
  | _, _, .nil => rfl
  | _, _, .cons _ t => by simp [RpL.length t]
theorem RpL.get : ∀ {l : List D} {vs : List V} {i : Nat} {d : D}, RpL w F l vs → l[i]? = some d → ∃ v, vs[i]? = some v ∧ Rp w F d v
  | _, _, _, _, .nil, e => by simp at e
  | _, _, 0, _, .cons r _, e => by simp at e; subst e; exact ⟨_, rfl, r⟩
  | _, _, i + 1, d, .cons _ t, e => by
    obtain ⟨v, h1, h2⟩ := RpL.get (i := i) (d := d) t (by simpa using e)
    exact ⟨v, by simpa using h1, h2⟩
theorem RpL.getV : ∀ {l : List D} {vs : List V} {i : Nat} {v : V}, RpL w F l vs → vs[i]? = some v → ∃ d, l[i]? = some d ∧ Rp w F d v
  | _, _, _, _, .nil, e => by simp at e
  | _, _, 0, _, .cons r _, e => by simp at e; subst e; exact ⟨_, rfl, r⟩
  | _, _, i + 1, d, .cons _ t, e => by
    obtain ⟨v, h1, h2⟩ := RpL.getV (i := i) (v := d) t (by simpa using e)
    exact ⟨v, by simpa using h1, h2⟩
theorem RpL.append : ∀ {l l' : List D} {vs vs' : List V}, RpL w F l vs → RpL w F l' vs' → RpL w F (l ++ l') (vs ++ vs')
  | _, _, _, _, .nil, s => s
  | _, _, _, _, .cons r t, s => .cons r (RpL.append t s)
theorem RpL.snoc {l : List D} {vs : List V} {d : D} {v : V} (r : RpL w F l vs) (q : Rp w F d v) : RpL w F (l ++ [d]) (vs ++ [v]) := r.append (.cons q .nil)
theorem RpL.take : ∀ {l : List D} {vs : List V} (n : Nat), RpL w F l vs → RpL w F (l.take n) (vs.take n)
  | _, _, 0, _ => .nil
  | _, _, _ + 1, .nil => .nil
  | _, _, n + 1, .cons r t => .cons r (RpL.take n t)
theorem RpL.drop : ∀ {l : List D} {vs : List V} (n : Nat), RpL w F l vs → RpL w F (l.drop n) (vs.drop n)
  | _, _, 0, r => r
  | _, _, _ + 1, .nil => .nil
  | _, _, n + 1, .cons _ t => RpL.drop n t
theorem RpL.reverse : ∀ {l : List D} {vs : List V}, RpL w F l vs → RpL w F l.reverse vs.reverse
  | _, _, .nil => .nil
  | _, _, .cons r t => by
    rw [List.reverse_cons, List.reverse_cons]
    exact (RpL.reverse t).snoc r
theorem RpL.ints : ∀ {is : List Int} {vs : List V}, RpL w F (is.map D.int) vs → vs = is.map V.int
  | [], _, .nil => rfl
  | _ :: _, _, .cons r t => by
    cases r
    rw [List.map_cons, ← RpL.ints t]
theorem RpL.of_ints : ∀ (is : List Int), RpL w F (is.map D.int) (is.map V.int)
  | [] => .nil
  | i :: is => .cons (.int i) (RpL.of_ints is)
theorem RpL.bls : ∀ {is : List Bool} {vs : List V}, RpL w F (is.map D.bl) vs → vs = is.map V.bl
  | [], _, .nil => rfl
  | _ :: _, _, .cons r t => by
    cases r
    rw [List.map_cons, ← RpL.bls t]
mutual
/-- data as the layer's own data -/
theorem Rp.dp (K : PySem.W.Frag) : ∀ {d : D} {v : V}, plain d = true → Rp w F d v → Dp K F v (py d)
  | _, _, _, .non => .non
  | _, _, _, .bl b => .bl b
  | _, _, _, .int i => .int i
  | _, _, _, .str y => .str y
  | .fn _, _, p, _ => by cases p
  | _, _, p, .tup h r => .tup (SqT.of h) (RpL.dp K p r)
  | _, _, p, .lst h r => .lst (SqL.of h) (RpL.dp K p r)
  | .dI _, _, p, _ => by cases p
  | .dT _ _, _, p, _ => by cases p
  | .fz _ _, _, p, _ => by cases p
theorem RpL.dp (K : PySem.W.Frag) : ∀ {l : List D} {vs : List V}, plains l = true → RpL w F l vs → DpAll K F vs (pys l)
  | _, _, _, .nil => .nil
  | d :: l, _, p, .cons r t => by
    have p' : (plain d && plains l) = true := p
    rw [Bool.and_eq_true] at p'
    exact .cons (Rp.dp K p'.1 r) (RpL.dp K p'.2 t)
end
end
mutual
theorem dp_mono {K : PySem.W.Frag} {F F' : Hp} (x : Ex F F') : ∀ {v : V} {d : PyData}, Dp K F v d → Dp K F' v d
  | _, _, .non => .non
  | _, _, .bl b => .bl b
  | _, _, .int i => .int i
  | _, _, .str y => .str y
  | _, _, .lst h r => .lst (Same.seq x h) (dpAll_mono x r)
  | _, _, .tup h r => .tup (by
      rcases h with (h | ⟨o, h⟩) | h
      · exact .inl (.inl (x _ _ h))
      · exact .inl (.inr ⟨o, x _ _ h⟩)
      · exact .inr h) (dpAll_mono x r)
theorem dpAll_mono {K : PySem.W.Frag} {F F' : Hp} (x : Ex F F') : ∀ {vs : List V} {ds : List PyData}, DpAll K F vs ds → DpAll K F' vs ds
  | _, _, .nil => .nil
  | _, _, .cons r t => .cons (dp_mono x r) (dpAll_mono x t)
end

/-! ## 2. Worlds: a frozen part F of the heap H; slots that hold data; slots that own what may change -/
inductive Own where
  /-- the list that stands at b -/
  | box (b : Addr) (l : List D)
  | lst (l : List D)
  | dct (ks xs : List D)
def OwnAt (w : World) (F H : Hp) (a : Addr) : Own → Prop
  | .box b l => a = b ∧ F a = none ∧ ∃ vs, H a = some (.lst vs) ∧ RpL w F l vs
  | .lst l => F a = none ∧ ∃ vs, H a = some (.lst vs) ∧ RpL w F l vs
  | .dct ks xs => F a = none ∧ ∃ es, H a = some (NdO w a es) ∧ es.map (·.1) = ks.map nk ∧ RpL w F ks (es.map (fun e => V.ref e.2.1)) ∧ RpL w F xs (es.map (·.2.2))
theorem OwnAt.fr {w : World} {F H : Hp} {a : Addr} {o : Own} (x : OwnAt w F H a o) : F a = none := by
  cases o with
  | box b l => exact x.2.1
  | lst l => exact x.1
  | dct ks xs => exact x.1
theorem OwnAt.there {w : World} {F H : Hp} {a : Addr} {o : Own} (x : OwnAt w F H a o) : H a ≠ none := by
  cases o with
  | box b l => obtain ⟨_, _, vs, h, _⟩ := x; rw [h]; simp
  | lst l => obtain ⟨_, vs, h, _⟩ := x; rw [h]; simp
  | dct ks xs => obtain ⟨_, vs, h, _⟩ := x; rw [h]; simp
theorem OwnAt.mono {w : World} {F H F' H' : Hp} {a : Addr} {o : Own} (x : OwnAt w F H a o) (e : Ex F F') (h : H' a = H a) (n : F' a = none) : OwnAt w F' H' a o := by
  cases o with
  | box b l => obtain ⟨z, _, vs, q, r⟩ := x; exact ⟨z, n, vs, h.trans q, r.mono e⟩
  | lst l => obtain ⟨_, vs, q, r⟩ := x; exact ⟨n, vs, h.trans q, r.mono e⟩
  | dct ks xs => obtain ⟨_, es, q, e1, r1, r2⟩ := x; exact ⟨n, es, h.trans q, e1, r1.mono e, r2.mono e⟩

structure Base where
  F : Hp
  H : Hp
  M : Addr → Prop
structure Grow (B : Base) (F H : Hp) : Prop where
  f : Ex B.F F
  h : ∀ a o, ¬ B.M a → B.H a = some o → H a = some o
  s : Ex F H
  n : ∀ a, B.H a ≠ none → B.F a = none → F a = none
  m : ∀ a, B.M a → H a ≠ none ∧ F a = none
abbrev Rho := List (Option D)
abbrev Om := List (Nat × Own)
theorem nil_om {i : Nat} : ∀ p ∈ ([] : Om), p.1 ≠ i := fun p hp => nomatch hp
theorem room65 {k : Nat} {A : Around} (h : Room k A) : A.units + 65 < cLine := by have := h.un; omega
structure Wd (w : World) (B : Base) (F H : Hp) (σ : St) (ρ : Rho) (ω : Om) : Prop where
  g : Grow B F H
  len : σ.length = ρ.length
  dat : ∀ (i : Nat) (d : D), ρ[i]? = some (some d) → ∃ v, σ[i]? = some (some v) ∧ Rp w F d v
  own : ∀ p ∈ ω, ∃ a, σ[p.1]? = some (some (.ref a)) ∧ OwnAt w F H a p.2 ∧ (B.M a ∨ B.H a = none)
  apart : ω.Pairwise fun p q => ∀ a, σ[p.1]? = some (some (.ref a)) → σ[q.1]? ≠ some (some (.ref a))

def owned (σ : St) (ω : Om) (a : Addr) : Prop := ∃ p ∈ ω, σ[p.1]? = some (some (.ref a))
def cur (F H : Hp) (σ : St) (ω : Om) : Base := ⟨F, H, owned σ ω⟩
section
variable {w : World} {B : Base} {F H F' H' : Hp} {σ σ' : St} {ρ ρ' : Rho} {ω ω' : Om}
theorem Wd.there (W : Wd w B F H σ ρ ω) {a : Addr} (h : owned σ ω a) : H a ≠ none ∧ F a = none := by
  obtain ⟨p, hp, e⟩ := h
  obtain ⟨b, e', o, _⟩ := W.own p hp
  rw [e] at e'; cases e'
  exact ⟨o.there, o.fr⟩
theorem Wd.re (W : Wd w B F H σ ρ ω) : Wd w (cur F H σ ω) F H σ ρ ω where
  g := ⟨ex_refl _, fun _ _ _ e => e, W.g.s, fun _ _ e => e, fun a h => W.there h⟩
  len := W.len
  dat := W.dat
  own := fun p hp => let ⟨a, e, o, _⟩ := W.own p hp; ⟨a, e, o, .inl ⟨p, hp, e⟩⟩
  apart := W.apart
theorem Wd.ownB (W : Wd w B F H σ ρ ω) {a : Addr} (h : owned σ ω a) : B.M a ∨ B.H a = none := by
  obtain ⟨p, hp, e⟩ := h
  obtain ⟨b, e', o, q⟩ := W.own p hp
  rw [e] at e'; cases e'
  exact q
theorem Grow.back (W : Wd w B F H σ ρ ω) (g : Grow (cur F H σ ω) F' H') : Grow B F' H' where
  f := ex_trans W.g.f g.f
  h := fun a o hm e => g.h a o (fun q => (W.ownB q).elim hm fun z => by rw [z] at e; cases e) (W.g.h a o hm e)
  s := g.s
  n := fun a h1 h2 => g.n a (fun z => by
    by_cases hm : B.M a
    · exact (W.g.m a hm).1 z
    · cases q : B.H a with
      | none => exact h1 q
      | some o =>
        have := W.g.h a o hm q
        have z' : H a = none := z
        rw [z'] at this; cases this) (W.g.n a h1 h2)
  m := fun a hm => by
    obtain ⟨h1, h2⟩ := W.g.m a hm
    refine ⟨?_, g.n a h1 h2⟩
    by_cases q : owned σ ω a
    · exact (g.m a q).1
    · cases z : H a with
      | none => exact absurd z h1
      | some o => rw [g.h a o q z]; simp
theorem Wd.back (W : Wd w B F H σ ρ ω) (W' : Wd w (cur F H σ ω) F' H' σ' ρ' ω') : Wd w B F' H' σ' ρ' ω' where
  g := Grow.back W W'.g
  len := W'.len
  dat := W'.dat
  own := fun p hp => by
    obtain ⟨a, e, o, q⟩ := W'.own p hp
    refine ⟨a, e, o, ?_⟩
    rcases q with q | q
    · exact W.ownB q
    · by_cases hm : B.M a
      · exact .inl hm
      · refine .inr ?_
        cases z : B.H a with
        | none => rfl
        | some u =>
          have := W.g.h a u hm z
          have q' : H a = none := q
          rw [q'] at this; cases this
  apart := W'.apart
theorem Grow.fresh {p : Addr} (g : Grow B F H) (h : H p = none) : B.H p = none ∧ ¬ B.M p ∧ F p = none := by
  have nm : ¬ B.M p := fun q => (g.m p q).1 h
  refine ⟨?_, nm, ex_free g.s h⟩
  cases q : B.H p with
  | none => rfl
  | some o => rw [g.h p o nm q] at h; cases h
theorem Grow.laidF {p : Addr} {o : HO} (g : Grow B F H) (h : H p = none) : Grow B (upd F p o) (upd H p o) where
  f := ex_trans g.f (ex_new (g.fresh h).2.2)
  h := fun a u hm e => ex_new h a u (g.h a u hm e)
  s := fun a u e => by
    by_cases q : a = p
    · subst q; rw [upd_same] at e ⊢; exact e
    · rw [upd_ne q] at e ⊢; exact g.s a u e
  n := fun a h1 h2 => by
    have q : a ≠ p := fun z => h1 (by rw [z]; exact (g.fresh h).1)
    rw [upd_ne q]; exact g.n a h1 h2
  m := fun a hm => by
    have q : a ≠ p := fun z => (g.fresh h).2.1 (by rw [← z]; exact hm)
    rw [upd_ne q, upd_ne q]; exact g.m a hm
theorem Grow.laid {p : Addr} {o : HO} (g : Grow B F H) (h : H p = none) : Grow B F (upd H p o) where
  f := g.f
  h := fun a u hm e => ex_new h a u (g.h a u hm e)
  s := ex_trans g.s (ex_new h)
  n := g.n
  m := fun a hm => by
    have q : a ≠ p := fun z => (g.fresh h).2.1 (by rw [← z]; exact hm)
    rw [upd_ne q]; exact g.m a hm
theorem Wd.ne {p : Addr} (W : Wd w B F H σ ρ ω) (h : H p = none) {a : Addr} (q : owned σ ω a) : a ≠ p := fun z => by
  subst z; exact (W.there q).1 h
/-- something new is laid and frozen -/
theorem Wd.laidF {p : Addr} {o : HO} (W : Wd w B F H σ ρ ω) (h : H p = none) : Wd w B (upd F p o) (upd H p o) σ ρ ω where
  g := W.g.laidF h
  len := W.len
  dat := fun i d e => let ⟨v, e1, r⟩ := W.dat i d e; ⟨v, e1, r.mono (ex_new (W.g.fresh h).2.2)⟩
  own := fun q hq => by
    obtain ⟨a, e, x, y⟩ := W.own q hq
    have n := W.ne h ⟨q, hq, e⟩
    exact ⟨a, e, x.mono (ex_new (W.g.fresh h).2.2) (upd_ne n) (by rw [upd_ne n]; exact x.fr), y⟩
  apart := W.apart
/-- something new is laid, not frozen -/
theorem Wd.laid {p : Addr} {o : HO} (W : Wd w B F H σ ρ ω) (h : H p = none) : Wd w B F (upd H p o) σ ρ ω where
  g := W.g.laid h
  len := W.len
  dat := W.dat
  own := fun q hq => by
    obtain ⟨a, e, x, y⟩ := W.own q hq
    have n := W.ne h ⟨q, hq, e⟩
    exact ⟨a, e, x.mono (ex_refl _) (upd_ne n) x.fr, y⟩
  apart := W.apart
/-- a thing is new here and belongs to none -/
structure NewAt (w : World) (B : Base) (F H : Hp) (σ : St) (ω : Om) (a : Addr) (o : Own) : Prop where
  at_ : OwnAt w F H a o
  b : B.H a = none
  nm : ¬ B.M a
  no : ¬ owned σ ω a
/-- .. and is frozen -/
theorem Wd.frz {a : Addr} {o : Own} {u : HO} (W : Wd w B F H σ ρ ω) (N : NewAt w B F H σ ω a o) : Wd w B (upd F a u) (upd H a u) σ ρ ω where
  g := {
    f := ex_trans W.g.f (ex_new N.at_.fr)
    h := fun b x hm e => by
      have q : b ≠ a := fun z => by rw [z, N.b] at e; cases e
      rw [upd_ne q]; exact W.g.h b x hm e
    s := fun b x e => by
      by_cases q : b = a
      · subst q; rw [upd_same] at e ⊢; exact e
      · rw [upd_ne q] at e ⊢; exact W.g.s b x e
    n := fun b h1 h2 => by
      have q : b ≠ a := fun z => h1 (by rw [z]; exact N.b)
      rw [upd_ne q]; exact W.g.n b h1 h2
    m := fun b hm => by
      have q : b ≠ a := fun z => N.nm (by rw [← z]; exact hm)
      rw [upd_ne q, upd_ne q]; exact W.g.m b hm }
  len := W.len
  dat := fun i d e => let ⟨v, e1, r⟩ := W.dat i d e; ⟨v, e1, r.mono (ex_new N.at_.fr)⟩
  own := fun q hq => by
    obtain ⟨b, e, x, y⟩ := W.own q hq
    have n : b ≠ a := fun z => N.no (by rw [← z]; exact ⟨q, hq, e⟩)
    exact ⟨b, e, x.mono (ex_new N.at_.fr) (upd_ne n) (by rw [upd_ne n]; exact x.fr), y⟩
  apart := W.apart
/-- a slot takes data -/
theorem Wd.set {i : Nat} {d : D} {v : V} (W : Wd w B F H σ ρ ω) (r : Rp w F d v) (h : ∀ p ∈ ω, p.1 ≠ i) : Wd w B F H (σ.set i (some v)) (ρ.set i (some d)) ω := by
  have keep : ∀ p ∈ ω, (σ.set i (some v))[p.1]? = σ[p.1]? := fun p hp => List.getElem?_set_ne (fun e => h p hp e.symm)
  refine ⟨W.g, by simpa using W.len, fun j x e => ?_, fun p hp => ?_, ?_⟩
  · by_cases q : i = j
    · subst q
      have hl : i < ρ.length := by
        by_cases z : i < ρ.length
        · exact z
        · rw [List.getElem?_eq_none (by simpa using z)] at e; cases e
      rw [List.getElem?_set_self hl] at e
      cases e
      exact ⟨v, List.getElem?_set_self (by rw [W.len]; exact hl), r⟩
    · rw [List.getElem?_set_ne q] at e
      obtain ⟨y, e1, r1⟩ := W.dat j x e
      exact ⟨y, by rw [List.getElem?_set_ne q]; exact e1, r1⟩
  · obtain ⟨a, e, x⟩ := W.own p hp
    exact ⟨a, (keep p hp).trans e, x⟩
  · refine W.apart.imp_of_mem fun {p q} hp hq f a e => ?_
    rw [keep p hp] at e
    rw [keep q hq]
    exact f a e
/-- a slot comes to own what is new -/
theorem Wd.setO {i : Nat} {o : Own} {a : Addr} (W : Wd w B F H σ ρ ω) (N : NewAt w B F H σ ω a o) (hi : i < σ.length) (h : ∀ p ∈ ω, p.1 ≠ i) : Wd w B F H (σ.set i (some (.ref a))) (ρ.set i none) ((i, o) :: ω) := by
  have keep : ∀ p ∈ ω, (σ.set i (some (.ref a)))[p.1]? = σ[p.1]? := fun p hp => List.getElem?_set_ne (fun e => h p hp e.symm)
  refine ⟨W.g, by simpa using W.len, fun j x e => ?_, fun p hp => ?_, List.pairwise_cons.mpr ⟨fun p hp b e => ?_, ?_⟩⟩
  · by_cases q : i = j
    · subst q
      rw [List.getElem?_set_self (by rw [← W.len]; exact hi)] at e
      cases e
    · rw [List.getElem?_set_ne q] at e
      obtain ⟨y, e1, r1⟩ := W.dat j x e
      exact ⟨y, by rw [List.getElem?_set_ne q]; exact e1, r1⟩
  · rcases List.mem_cons.mp hp with rfl | hp
    · exact ⟨a, List.getElem?_set_self hi, N.at_, .inr N.b⟩
    · obtain ⟨b, e, x⟩ := W.own p hp
      exact ⟨b, (keep p hp).trans e, x⟩
  · rw [List.getElem?_set_self hi] at e
    cases e
    rw [keep p hp]
    exact fun z => N.no ⟨p, hp, z⟩
  · refine W.apart.imp_of_mem fun {p q} hp hq f b e => ?_
    rw [keep p hp] at e
    rw [keep q hq]
    exact f b e
/-- nothing of the slots is known but what is -/
theorem Wd.weak {ρ1 : Rho} (W : Wd w B F H σ ρ ω) (hl : ρ1.length = ρ.length) (h : ∀ (i : Nat) d, ρ1[i]? = some (some d) → ρ[i]? = some (some d)) : Wd w B F H σ ρ1 ω :=
  ⟨W.g, W.len.trans hl.symm, fun i d e => W.dat i d (h i d e), W.own, W.apart⟩
end
end G

/-! G2 -/
set_option Elab.async false
set_option linter.all false
set_option maxRecDepth 100000
set_option maxHeartbeats 1000000
namespace G
open PySem L2

/-! ## 3. The weakest reading of a piece of syntax, and what it comes to in data -/
def semE (X : Cx) (e : Expr) : TE := fun σ H Q => ∀ pins s, Inv X pins σ H s → wpAny (model X.prog X.w) X.A (eval e X.env) (EP X pins σ Q) X.xe s
def semT (X : Cx) (e : Expr) : TT := fun σ H Q => ∀ pins s, Inv X pins σ H s → wpAny (model X.prog X.w) X.A (isTrue e X.env (eval e X.env)) (TP X pins σ Q) X.xe s
def semW (X : Cx) (e : Expr) : TT := fun σ H Q => ∀ (wh : Sem Value) pins s, Inv X pins σ H s → wpAny (model X.prog X.w) X.A (isTrue e X.env wh) (TP X pins σ Q) X.xe s
def semA (X : Cx) (es : List Expr) : TA := fun σ H Q => ∀ (pos : Pos) pins s, Inv X pins σ H s → wpAny (model X.prog X.w) X.A (spliced (backTo pos (starEach es X.env))) (AP X pins σ Q) X.xe s
def semS (X : Cx) (st : Stmt) : TS := fun D σ H => ∀ pins s, Inv X pins σ H s → wpAny (model X.prog X.w) X.A (exec st X.env) (SP X pins D) X.xe s
def semB (X : Cx) (st : List Stmt) : TS := fun D σ H => ∀ pins s, Inv X pins σ H s → wpAny (model X.prog X.w) X.A (execs st X.env) (SP X pins D) X.xe s
def semG (X : Cx) (tg : Expr) : TG := fun v σ H Q => ∀ pins s u, Inv X pins σ H s → RelV v u → wpAny (model X.prog X.w) X.A (assign tg X.env u) (fun _ s' => ∃ σ' H', Inv X pins σ' H' s' ∧ Q σ' H') X.xe s
def semI (X : Cx) (tg it : Expr) : TI := fun σ H R => ∀ pins s, Inv X pins σ H s → wpAny (model X.prog X.w) X.A (eval it X.env) (fun v s1 => wpAny (model X.prog X.w) X.A (pyIter v) (PIE X pins σ tg R) X.xe s1) X.xe s
def semTs (X : Cx) (ifs : List Expr) : TT := fun σ H Q => ∀ pins s, Inv X pins σ H s →
  wpAny (model X.prog X.w) X.A (forIn ifs true fun c r => if r = true then do let ok ← isTrue c X.env (eval c X.env); pure (ForInStep.yield ok) else pure (ForInStep.yield r)) (TP X pins σ Q) X.xe s
section
variable {X : Cx}
theorem sem_e {e : Expr} : PE X e (semE X e) := ⟨fun pins s _ _ _ I h => h pins s I⟩
theorem sem_t {e : Expr} : PT X e (semT X e) := ⟨fun pins s _ _ _ I h => h pins s I⟩
theorem sem_w {e : Expr} : PW X e (semW X e) := ⟨fun wh pins s _ _ _ I h => h wh pins s I⟩
theorem sem_a {es : List Expr} : PA X es (semA X es) := ⟨fun pos pins s _ _ _ I h => h pos pins s I⟩
theorem sem_s {st : Stmt} : PS X st (semS X st) := ⟨fun pins s _ _ _ I h => h pins s I⟩
theorem sem_b {st : List Stmt} : PSs X st (semB X st) := ⟨fun pins s _ _ _ I h => h pins s I⟩
theorem sem_g {tg : Expr} : PG X tg (semG X tg) := ⟨fun pins s _ _ v u _ I r h => h pins s u I r⟩
theorem sem_i {tg it : Expr} : PI X tg it (semI X tg it) := ⟨fun pins s _ _ _ I h => h pins s I⟩
theorem sem_ts {ifs : List Expr} : PTs X ifs (semTs X ifs) := ⟨fun pins s _ _ _ I h => h pins s I⟩
end

structure Keep (σ : St) (ω : Om) (F H F' H' : Hp) : Prop where
  h : ∀ a o, H a = some o → ¬ owned σ ω a → H' a = some o
  n : ∀ a, H a ≠ none → F a = none → F' a = none
theorem Keep.refl {σ : St} {ω : Om} {F H : Hp} : Keep σ ω F H F H := ⟨fun _ _ e _ => e, fun _ _ e => e⟩
def EvP (w : World) (te : TE) (ρ : Rho) (ω ω' : Om) (d : D) : Prop := ∀ B F H σ, Wd w B F H σ ρ ω → ∀ Q : VK, (∀ v F' H', Wd w B F' H' σ ρ ω' → Rp w F' d v → Q v H') → te σ H Q
def EvT (w : World) (tt : TT) (ρ : Rho) (ω ω' : Om) (b : Bool) : Prop := ∀ B F H σ, Wd w B F H σ ρ ω → ∀ Q : Bool → Hp → Prop, (∀ F' H', Wd w B F' H' σ ρ ω' → Q b H') → tt σ H Q
def EvA (w : World) (ta : TA) (ρ : Rho) (ω ω' : Om) (ds : List D) : Prop := ∀ B F H σ, Wd w B F H σ ρ ω → ∀ Q : List V → Hp → Prop, (∀ vs F' H', Wd w B F' H' σ ρ ω' → RpL w F' ds vs → Q vs H') → ta σ H Q
/-- .. to something new that is not frozen -/
def EvO (w : World) (te : TE) (ρ : Rho) (ω ω' : Om) (o : Own) : Prop := ∀ B F H σ, Wd w B F H σ ρ ω → ∀ Q : VK, (∀ a F' H', Wd w B F' H' σ ρ ω' → NewAt w B F' H' σ ω' a o → Q (.ref a) H') → te σ H Q
abbrev DE (X : Cx) (ρ : Rho) (ω ω' : Om) (e : Expr) (d : D) : Prop := EvP X.w (semE X e) ρ ω ω' d
abbrev DT (X : Cx) (ρ : Rho) (ω ω' : Om) (e : Expr) (b : Bool) : Prop := EvT X.w (semT X e) ρ ω ω' b
abbrev DW (X : Cx) (ρ : Rho) (ω ω' : Om) (e : Expr) (b : Bool) : Prop := EvT X.w (semW X e) ρ ω ω' b
abbrev DTs (X : Cx) (ρ : Rho) (ω ω' : Om) (ifs : List Expr) (b : Bool) : Prop := EvT X.w (semTs X ifs) ρ ω ω' b
abbrev DA (X : Cx) (ρ : Rho) (ω ω' : Om) (es : List Expr) (ds : List D) : Prop := EvA X.w (semA X es) ρ ω ω' ds
abbrev DO (X : Cx) (ρ : Rho) (ω ω' : Om) (e : Expr) (o : Own) : Prop := EvO X.w (semE X e) ρ ω ω' o

section
variable {w : World} {B : Base} {F H : Hp} {σ : St} {ρ : Rho} {ω ω' ω1 ω2 ω3 : Om} {te ta tb : TE} {d x y z : D}
theorem EvP.go (h : EvP w te ρ ω ω' d) (W : Wd w B F H σ ρ ω) {Q : VK} (k : ∀ v F' H', Wd w B F' H' σ ρ ω' → Ex F F' → Keep σ ω F H F' H' → Rp w F' d v → Q v H') : te σ H Q :=
  h _ F H σ W.re Q fun v F' H' W' r => k v F' H' (W.back W') W'.g.f ⟨fun a o e n => W'.g.h a o n e, W'.g.n⟩ r
theorem EvT.go {tt : TT} {b : Bool} (h : EvT w tt ρ ω ω' b) (W : Wd w B F H σ ρ ω) {Q : Bool → Hp → Prop} (k : ∀ F' H', Wd w B F' H' σ ρ ω' → Ex F F' → Keep σ ω F H F' H' → Q b H') : tt σ H Q :=
  h _ F H σ W.re Q fun F' H' W' => k F' H' (W.back W') W'.g.f ⟨fun a o e n => W'.g.h a o n e, W'.g.n⟩
theorem EvA.go {ta : TA} {ds : List D} (h : EvA w ta ρ ω ω' ds) (W : Wd w B F H σ ρ ω) {Q : List V → Hp → Prop} (k : ∀ vs F' H', Wd w B F' H' σ ρ ω' → Ex F F' → Keep σ ω F H F' H' → RpL w F' ds vs → Q vs H') : ta σ H Q :=
  h _ F H σ W.re Q fun v F' H' W' r => k v F' H' (W.back W') W'.g.f ⟨fun a o e n => W'.g.h a o n e, W'.g.n⟩ r
/-- what is new in the base of now is new in the base of then -/
theorem NewAt.back {F' H' : Hp} {σ' : St} {a : Addr} {o : Own} (W : Wd w B F H σ ρ ω) (N : NewAt w (cur F H σ ω) F' H' σ' ω' a o) : NewAt w B F' H' σ' ω' a o := by
  have e : H a = none := N.b
  have g := W.g.fresh e
  exact ⟨N.at_, g.1, g.2.1, N.no⟩
theorem EvO.go {o : Own} (h : EvO w te ρ ω ω' o) (W : Wd w B F H σ ρ ω) {Q : VK} (k : ∀ a F' H', Wd w B F' H' σ ρ ω' → Ex F F' → Keep σ ω F H F' H' → H a = none → NewAt w B F' H' σ ω' a o → Q (.ref a) H') : te σ H Q :=
  h _ F H σ W.re Q fun v F' H' W' N => k v F' H' (W.back W') W'.g.f ⟨fun a o e n => W'.g.h a o n e, W'.g.n⟩ N.b (NewAt.back W N)
theorem EvP.of {te te' : TE} (h : ∀ σ H Q, te σ H Q → te' σ H Q) (e : EvP w te ρ ω ω' d) : EvP w te' ρ ω ω' d := fun B F H σ W Q k => h σ H Q (e B F H σ W Q k)
theorem EvP.is {d' : D} (h : EvP w te ρ ω ω' d) (e : d = d') : EvP w te ρ ω ω' d' := e ▸ h
theorem EvT.is {tt : TT} {b b' : Bool} (h : EvT w tt ρ ω ω' b) (e : b = b') : EvT w tt ρ ω ω' b' := e ▸ h
/-- a new list as data -/
theorem EvO.data {l : List D} (h : EvO w te ρ ω ω' (.lst l)) : EvP w te ρ ω ω' (.lst l) := fun B F H σ W Q k =>
  h B F H σ W Q fun a F' H' W' N => by
    obtain ⟨fr, vs, hh, r⟩ := N.at_
    have W2 := W'.frz (u := .lst vs) N
    have e : upd H' a (.lst vs) = H' := by
      funext b
      by_cases q : b = a
      · subst q; rw [upd_same]; exact hh.symm
      · rw [upd_ne q]
    rw [e] at W2
    exact k _ _ _ W2 (.lst upd_same (r.mono (ex_new fr)))
end
section
variable {X : Cx} {ρ : Rho} {ω ω' ω1 ω2 ω3 : Om} {e a b c : Expr} {es : List Expr} {te ta tb : TE} {d x y z : D} {pos : Pos}
theorem de_of (h : PE X e te) (v : EvP X.w te ρ ω ω' d) : DE X ρ ω ω' e d := fun B F H σ W Q k pins s I => h.run pins s σ H Q I (v B F H σ W Q k)
theorem do_of {o : Own} (h : PE X e te) (v : EvO X.w te ρ ω ω' o) : DO X ρ ω ω' e o := fun B F H σ W Q k pins s I => h.run pins s σ H Q I (v B F H σ W Q k)
theorem dt_of {tt : TT} {b : Bool} (h : PT X e tt) (v : EvT X.w tt ρ ω ω' b) : DT X ρ ω ω' e b := fun B F H σ W Q k pins s I => h.run pins s σ H Q I (v B F H σ W Q k)
theorem dw_of {tt : TT} {b : Bool} (h : PW X e tt) (v : EvT X.w tt ρ ω ω' b) : DW X ρ ω ω' e b := fun B F H σ W Q k wh pins s I => h.run wh pins s σ H Q I (v B F H σ W Q k)
theorem dw_t {b : Bool} (h : DW X ρ ω ω' e b) : DT X ρ ω ω' e b := fun B F H σ W Q k pins s I => h B F H σ W Q k _ pins s I
theorem da_of {t : TA} {ds : List D} (h : PA X es t) (v : EvA X.w t ρ ω ω' ds) : DA X ρ ω ω' es ds := fun B F H σ W Q k pos pins s I => h.run pos pins s σ H Q I (v B F H σ W Q k)
theorem dts_of {tt : TT} {ifs : List Expr} {b : Bool} (h : PTs X ifs tt) (v : EvT X.w tt ρ ω ω' b) : DTs X ρ ω ω' ifs b := fun B F H σ W Q k pins s I => h.run pins s σ H Q I (v B F H σ W Q k)

/-! ### names, constants -/
theorem de_var (i : Nat) {n : Str} (hd : ρ[i]? = some (some d)) (hN : X.N[i]? = some n := by rfl) (hv : Vis X.env.scope n := by first | exact Or.inl rfl | exact Or.inr (Or.inl rfl) | exact Or.inr (Or.inr rfl))
    (h1 : (n == ("__debug__" : Str)) = false := by decide) (h2 : (n == ("__classdict__" : Str)) = false := by decide) : DE X ρ ω ω (.Name n pos) d :=
  de_of (pe_var hN hv h1 h2) fun B F H σ W Q k => let ⟨v, e, r⟩ := W.dat i d hd; ⟨v, e, k v F H W r⟩
theorem ev_c {v : V} (h : ∀ F, Rp X.w F d v) : EvP X.w (tC v) ρ ω ω d := fun B F H σ W Q k => k v F H W (h F)
theorem de_int {i : Int} {j : Nat} : DE X ρ ω ω (.Constant (.int i) j pos) (.int i) := de_of pe_int (ev_c fun _ => .int i)
theorem de_bl {b : Bool} {j : Nat} : DE X ρ ω ω (.Constant (.bool b) j pos) (.bl b) := de_of pe_bl (ev_c fun _ => .bl b)
theorem de_non {j : Nat} : DE X ρ ω ω (.Constant .none j pos) .non := de_of pe_non (ev_c fun _ => .non)
theorem de_str {x : Str} {j : Nat} : DE X ρ ω ω (.Constant (.str x) j pos) (.str x) := de_of pe_str (ev_c fun _ => .str x)
theorem de_globI {n : Str} {i : Int} {t : Tok} (hg : Gl X n) (hm : X.mg n = some (.int i t)) (hd : (n == ("__debug__" : Str)) = false := by decide) : DE X ρ ω ω (.Name n pos) (.int i) := de_of (pe_glob (v := .int i) hg hm ⟨t, rfl⟩ hd) (ev_c fun _ => .int i)
theorem de_globS {n x : Str} {t : Tok} (hg : Gl X n) (hm : X.mg n = some (.str x t)) (hd : (n == ("__debug__" : Str)) = false := by decide) : DE X ρ ω ω (.Name n pos) (.str x) := de_of (pe_glob (v := .str x) hg hm ⟨t, rfl⟩ hd) (ev_c fun _ => .str x)
theorem de_globF {n : Str} {f : Addr} (hg : Gl X n) (hm : X.mg n = some (.ref f)) (hd : (n == ("__debug__" : Str)) = false := by decide) : DE X ρ ω ω (.Name n pos) (.fn f) := de_of (pe_glob (v := .ref f) hg hm rfl hd) (ev_c fun _ => .fn f)

/-! ### argument lists, displays -/
theorem da_nil : DA X ρ ω ω [] [] := da_of pa_nil fun B F H σ W Q k => k [] F H W .nil
theorem da_cons {ds : List D} (ha : DE X ρ ω ω1 e d) (hr : DA X ρ ω1 ω2 es ds) (hs : starEach (e :: es) X.env = (false, eval e X.env) :: starEach es X.env := by rfl) : DA X ρ ω ω2 (e :: es) (d :: ds) :=
  da_of (pa_cons sem_e sem_a hs) fun B F H σ W Q k => ha.go W fun v F1 H1 W1 _ _ r1 => hr.go W1 fun vs F2 H2 W2 x2 _ r2 => k (v :: vs) F2 H2 W2 (.cons (r1.mono x2) r2)
theorem sz {n : Nat} (h : n ≤ 100000) : n ≤ sizeLine := Nat.le_trans h (by decide)
theorem sz' {n : Nat} (h : n < 100000) : n < sizeLine := Nat.lt_of_lt_of_le h (by decide)
theorem de_tup {x1} {ds : List D} (h : DA X ρ ω ω1 es ds) (hl : ds.length ≤ 100000) : DE X ρ ω ω1 (.Tuple es x1 pos) (.tup ds) :=
  de_of (pe_tup sem_a) fun B F H σ W Q k => h.go W fun vs F1 H1 W1 _ _ r1 => ⟨by rw [r1.length]; exact sz hl, fun p hp =>
    k _ _ _ (W1.laidF hp) (.tup upd_same (r1.mono (ex_new (W1.g.fresh hp).2.2)))⟩
theorem newAt {w : World} {B : Base} {F H : Hp} {σ : St} {p : Addr} {u : HO} {o : Own} (W : Wd w B F H σ ρ ω) (hp : H p = none) (h : OwnAt w F (upd H p u) p o) : NewAt w B F (upd H p u) σ ω p o :=
  ⟨h, (W.g.fresh hp).1, (W.g.fresh hp).2.1, fun q => W.ne hp q rfl⟩
theorem do_lst {ds : List D} (h : DA X ρ ω ω1 es ds) (hl : ds.length ≤ 100000) : DO X ρ ω ω1 (.List es pos) (.lst ds) :=
  do_of (pe_lst sem_a) fun B F H σ W Q k => h.go W fun vs F1 H1 W1 _ _ r1 => ⟨by rw [r1.length]; exact sz hl, fun p hp =>
    k _ _ _ (W1.laid hp) (newAt W1 hp ⟨(W1.g.fresh hp).2.2, vs, upd_same, r1⟩)⟩
theorem de_lst {ds : List D} (h : DA X ρ ω ω1 es ds) (hl : ds.length ≤ 100000) : DE X ρ ω ω1 (.List es pos) (.lst ds) := (do_lst h hl).data

/-! ### operators -/
def RR (w : World) (r : R2) (x y z : D) : Prop := ∀ B F H σ ρ ω, Wd w B F H σ ρ ω → ∀ u v, Rp w F x u → Rp w F y v → ∀ Q : VK, (∀ z' F' H', Wd w B F' H' σ ρ ω → Rp w F' z z' → Q z' H') → r u v H Q
theorem ev_op {r : R2} (ha : EvP X.w ta ρ ω ω1 x) (hb : EvP X.w tb ρ ω1 ω2 y) (hr : RR X.w r x y z) : EvP X.w (tOp r ta tb) ρ ω ω2 z := fun B F H σ W Q k =>
  ha.go W fun u F1 H1 W1 _ _ r1 => hb.go W1 fun v F2 H2 W2 x2 _ r2 => hr B F2 H2 σ ρ ω2 W2 u v (r1.mono x2) r2 Q k
theorem de_op {op : Operator} {r : R2} (ho : OpR X (binaryOp op) r) (hr : RR X.w r x y z) (ha : DE X ρ ω ω1 a x) (hb : DE X ρ ω1 ω2 b y) : DE X ρ ω ω2 (.BinOp a op b pos) z := de_of (pe_op ho sem_e sem_e) (ev_op ha hb hr)
theorem de_cmp {op : CmpOp} {r : R2} (ho : OpR X (compareOp op) r) (hr : RR X.w r x y z) (hm : behindInMarks op b = false) (ha : DE X ρ ω ω1 a x) (hb : DE X ρ ω1 ω2 b y) : DE X ρ ω ω2 (.Compare a [op] [b] pos) z := de_of (pe_cmpR ho sem_e sem_e hm) (ev_op ha hb hr)
theorem dt_cmp {op : CmpOp} {r : R2} {k : Bool} (ho : OpR X (compareOp op) r) (hr : RR X.w r x y (.bl k)) (hm : behindInMarks op b = false) (ha : DE X ρ ω ω1 a x) (hb : DE X ρ ω1 ω2 b y) : DT X ρ ω ω2 (.Compare a [op] [b] pos) k :=
  dt_of (pt_cmpR ho sem_e sem_e hm) fun B F H σ W Q q => ev_op ha hb hr B F H σ W _ fun v F' H' W' r => by cases r; exact ⟨k, rfl, q F' H' W'⟩
/-- a value that is a bool, as a test -/
theorem dt_val {k : Bool} (h : DE X ρ ω ω1 e (.bl k)) (he : ∀ whole, isTrue e X.env whole = (do let v ← whole; standAt e.pos; holding [v] (truthy v)) := by intro _; rfl) : DT X ρ ω ω1 e k :=
  dt_of (pt_val sem_e he) fun B F H σ W Q q => h B F H σ W _ fun v F' H' W' r => by cases r; exact ⟨k, rfl, q F' H' W'⟩
theorem rr_I0 {g : Int → Int → V} {i j : Int} {z : D} (h : ∀ F, Rp X.w F z (g i j)) : RR X.w (rI0 g) (.int i) (.int j) z := fun B F H σ ρ ω W u v r1 r2 Q k => by
  cases r1; cases r2
  exact ⟨i, j, rfl, rfl, k _ F H W (h F)⟩
theorem rr_I {C : Int → Int → Prop} {g : Int → Int → V} {i j : Int} {z : D} (hc : C i j) (h : ∀ F, Rp X.w F z (g i j)) : RR X.w (rI C g) (.int i) (.int j) z := fun B F H σ ρ ω W u v r1 r2 Q k => by
  cases r1; cases r2
  exact ⟨i, j, rfl, rfl, hc, k _ F H W (h F)⟩
theorem de_add {i j : Int} (ha : DE X ρ ω ω1 a (.int i)) (hb : DE X ρ ω1 ω2 b (.int j)) : DE X ρ ω ω2 (.BinOp a .Add b pos) (.int (i + j)) := de_op op_add (rr_I0 fun _ => .int _) ha hb
theorem de_sub {i j : Int} (ha : DE X ρ ω ω1 a (.int i)) (hb : DE X ρ ω1 ω2 b (.int j)) : DE X ρ ω ω2 (.BinOp a .Sub b pos) (.int (i - j)) := de_op op_sub (rr_I0 fun _ => .int _) ha hb
theorem de_mul {i j : Int} (hc : CMul i j) (ha : DE X ρ ω ω1 a (.int i)) (hb : DE X ρ ω1 ω2 b (.int j)) : DE X ρ ω ω2 (.BinOp a .Mult b pos) (.int (i * j)) := de_op op_mul (rr_I hc fun _ => .int _) ha hb
theorem de_mod {i j : Int} (hc : 0 < j) (ha : DE X ρ ω ω1 a (.int i)) (hb : DE X ρ ω1 ω2 b (.int j)) : DE X ρ ω ω2 (.BinOp a .Mod b pos) (.int (i % j)) := de_op op_mod (rr_I hc fun _ => .int _) ha hb
theorem de_fdiv {i j : Int} (hc : CDiv i j) (ha : DE X ρ ω ω1 a (.int i)) (hb : DE X ρ ω1 ω2 b (.int j)) : DE X ρ ω ω2 (.BinOp a .FloorDiv b pos) (.int (i / j)) := de_op op_fdiv (rr_I hc fun _ => .int _) ha hb
theorem de_pow {i j : Int} (hc : CPow i j) (ha : DE X ρ ω ω1 a (.int i)) (hb : DE X ρ ω1 ω2 b (.int j)) : DE X ρ ω ω2 (.BinOp a .Pow b pos) (.int (i ^ j.toNat)) := de_op op_pow (rr_I hc fun _ => .int _) ha hb
theorem de_neg {i : Int} (ha : DE X ρ ω ω1 a (.int i)) : DE X ρ ω ω1 (.UnaryOp .USub a pos) (.int (-i)) := de_of (pe_un un_neg sem_e) fun B F H σ W Q k => ha.go W fun u F1 H1 W1 _ _ r1 => by
  cases r1
  exact ⟨i, rfl, k _ F1 H1 W1 (.int _)⟩
theorem de_lt {i j : Int} (ha : DE X ρ ω ω1 a (.int i)) (hb : DE X ρ ω1 ω2 b (.int j)) : DE X ρ ω ω2 (.Compare a [.Lt] [b] pos) (.bl (decide (i < j))) := de_cmp op_lt (rr_I0 fun _ => .bl _) (nomark _) ha hb
theorem de_ge {i j : Int} (ha : DE X ρ ω ω1 a (.int i)) (hb : DE X ρ ω1 ω2 b (.int j)) : DE X ρ ω ω2 (.Compare a [.GtE] [b] pos) (.bl (decide (j ≤ i))) := de_cmp op_ge (rr_I0 fun _ => .bl _) (nomark _) ha hb
theorem dt_lt {i j : Int} (ha : DE X ρ ω ω1 a (.int i)) (hb : DE X ρ ω1 ω2 b (.int j)) : DT X ρ ω ω2 (.Compare a [.Lt] [b] pos) (decide (i < j)) := dt_cmp op_lt (rr_I0 fun _ => .bl _) (nomark _) ha hb
theorem dt_gt {i j : Int} (ha : DE X ρ ω ω1 a (.int i)) (hb : DE X ρ ω1 ω2 b (.int j)) : DT X ρ ω ω2 (.Compare a [.Gt] [b] pos) (decide (j < i)) := dt_cmp op_gt (rr_I0 fun _ => .bl _) (nomark _) ha hb
theorem dt_ge {i j : Int} (ha : DE X ρ ω ω1 a (.int i)) (hb : DE X ρ ω1 ω2 b (.int j)) : DT X ρ ω ω2 (.Compare a [.GtE] [b] pos) (decide (j ≤ i)) := dt_cmp op_ge (rr_I0 fun _ => .bl _) (nomark _) ha hb
theorem dt_le {i j : Int} (ha : DE X ρ ω ω1 a (.int i)) (hb : DE X ρ ω1 ω2 b (.int j)) : DT X ρ ω ω2 (.Compare a [.LtE] [b] pos) (decide (i ≤ j)) := dt_cmp op_le (rr_I0 fun _ => .bl _) (nomark _) ha hb
theorem rr_eqI {i j : Int} : RR X.w rEq (.int i) (.int j) (.bl (decide (i = j))) := fun B F H σ ρ ω W u v r1 r2 Q k => by
  cases r1; cases r2
  have e : decide (V.int i = V.int j) = decide (i = j) := by rw [Bool.eq_iff_iff]; simp
  exact ⟨rfl, by rw [e]; exact k _ F H W (.bl _)⟩
theorem rr_neI {i j : Int} : RR X.w rNe (.int i) (.int j) (.bl (!decide (i = j))) := fun B F H σ ρ ω W u v r1 r2 Q k => by
  cases r1; cases r2
  have e : decide (V.int i = V.int j) = decide (i = j) := by rw [Bool.eq_iff_iff]; simp
  exact ⟨rfl, by rw [e]; exact k _ F H W (.bl _)⟩
theorem rr_neS {i j : Str} : RR X.w rNe (.str i) (.str j) (.bl (!decide (i = j))) := fun B F H σ ρ ω W u v r1 r2 Q k => by
  cases r1; cases r2
  have e : decide (V.str i = V.str j) = decide (i = j) := by rw [Bool.eq_iff_iff]; simp
  exact ⟨rfl, by rw [e]; exact k _ F H W (.bl _)⟩
theorem de_eqI {i j : Int} (ha : DE X ρ ω ω1 a (.int i)) (hb : DE X ρ ω1 ω2 b (.int j)) : DE X ρ ω ω2 (.Compare a [.Eq] [b] pos) (.bl (decide (i = j))) := de_cmp op_eq rr_eqI (nomark _) ha hb
theorem dt_eqI {i j : Int} (ha : DE X ρ ω ω1 a (.int i)) (hb : DE X ρ ω1 ω2 b (.int j)) : DT X ρ ω ω2 (.Compare a [.Eq] [b] pos) (decide (i = j)) := dt_cmp op_eq rr_eqI (nomark _) ha hb
theorem dt_neI {i j : Int} (ha : DE X ρ ω ω1 a (.int i)) (hb : DE X ρ ω1 ω2 b (.int j)) : DT X ρ ω ω2 (.Compare a [.NotEq] [b] pos) (!decide (i = j)) := dt_cmp op_ne rr_neI (nomark _) ha hb
theorem dt_neS {i j : Str} (ha : DE X ρ ω ω1 a (.str i)) (hb : DE X ρ ω1 ω2 b (.str j)) : DT X ρ ω ω2 (.Compare a [.NotEq] [b] pos) (!decide (i = j)) := dt_cmp op_ne rr_neS (nomark _) ha hb
theorem de_eqI' {i j : Int} (ha : DE X ρ ω ω1 a (.int i)) (hb : DE X ρ ω1 ω2 b (.int j)) : DE X ρ ω ω2 (.Compare a [.NotEq] [b] pos) (.bl (!decide (i = j))) := de_cmp op_ne rr_neI (nomark _) ha hb
/-- deep ==, !=, in, not in -/
def eqD (x y : D) : Bool := PyData.eqv (py x) (py y)
theorem rr_eqD {K : PySem.W.Frag} (p1 : plain x = true) (p2 : plain y = true) (s1 : SeqAt.shaped (py x) = true) (s2 : SeqAt.shaped (py y) = true) : RR X.w (rEqD K) x y (.bl (eqD x y)) := fun B F H σ ρ ω W u v r1 r2 Q k =>
  ⟨py x, py y, dp_mono W.g.s (r1.dp K p1), dp_mono W.g.s (r2.dp K p2), s1, s2, k _ F H W (.bl _)⟩
theorem rr_neD {K : PySem.W.Frag} (p1 : plain x = true) (p2 : plain y = true) (s1 : SeqAt.shaped (py x) = true) (s2 : SeqAt.shaped (py y) = true) : RR X.w (rNeD K) x y (.bl (!eqD x y)) := fun B F H σ ρ ω W u v r1 r2 Q k =>
  ⟨py x, py y, dp_mono W.g.s (r1.dp K p1), dp_mono W.g.s (r2.dp K p2), s1, s2, k _ F H W (.bl _)⟩
theorem rr_inD {K : PySem.W.Frag} {l : List D} (p1 : plain x = true) (p2 : plains l = true) (s1 : SeqAt.shaped (py x) = true) (s2 : SeqAt.shaped (.list (pys l)) = true) : RR X.w (rInD K) x (.lst l) (.bl ((pys l).any fun z => PyData.eqv z (py x))) := fun B F H σ ρ ω W u v r1 r2 Q k =>
  ⟨py x, pys l, dp_mono W.g.s (r1.dp K p1), dp_mono W.g.s (r2.dp K (d := .lst l) p2), s1, s2, k _ F H W (.bl _)⟩
theorem rr_niD {K : PySem.W.Frag} {l : List D} (p1 : plain x = true) (p2 : plains l = true) (s1 : SeqAt.shaped (py x) = true) (s2 : SeqAt.shaped (.list (pys l)) = true) : RR X.w (rNotInD K) x (.lst l) (.bl (!(pys l).any fun z => PyData.eqv z (py x))) := fun B F H σ ρ ω W u v r1 r2 Q k =>
  ⟨py x, pys l, dp_mono W.g.s (r1.dp K p1), dp_mono W.g.s (r2.dp K (d := .lst l) p2), s1, s2, k _ F H W (.bl _)⟩
/-- is None -/
def isNon : D → Bool
  | .non => true
  | _ => false
theorem rr_isN : RR X.w (fun x y H Q => y = .non ∧ Q (.bl (decide (x = .non))) H) x .non (.bl (isNon x)) := fun B F H σ ρ ω W u v r1 r2 Q k => by
  cases r2
  refine ⟨rfl, ?_⟩
  have e : decide (u = V.non) = isNon x := by cases r1 <;> simp [isNon]
  rw [e]
  exact k _ F H W (.bl _)
theorem dt_isN (ha : DE X ρ ω ω1 a x) (hb : DE X ρ ω1 ω2 b .non) : DT X ρ ω ω2 (.Compare a [.Is] [b] pos) (isNon x) := dt_cmp op_isN rr_isN (nomark _) ha hb
/-- lists, tuples joined -/
theorem rr_cat {l l' : List D} (hz : l.length + l'.length ≤ 100000) : RR X.w rCat (.lst l) (.lst l') (.lst (l ++ l')) := fun B F H σ ρ ω W u v r1 r2 Q k => by
  cases r1 with
  | lst h1 q1 =>
    cases r2 with
    | lst h2 q2 =>
      refine ⟨_, _, _, _, rfl, rfl, W.g.s _ _ h1, W.g.s _ _ h2, by rw [q1.length, q2.length]; exact sz hz, fun p hp => ?_⟩
      exact k _ _ _ (W.laidF hp) (.lst upd_same ((q1.append q2).mono (ex_new (W.g.fresh hp).2.2)))
theorem de_cat {l l' : List D} (hz : l.length + l'.length ≤ 100000) (ha : DE X ρ ω ω1 a (.lst l)) (hb : DE X ρ ω1 ω2 b (.lst l')) : DE X ρ ω ω2 (.BinOp a .Add b pos) (.lst (l ++ l')) := de_op op_cat (rr_cat hz) ha hb
theorem rr_catA {K : PySem.W.Frag} {l l' : List D} (hz : l.length + l'.length ≤ 100000) : RR X.w (rCatA K) (.tup l) (.tup l') (.tup (l ++ l')) := fun B F H σ ρ ω W u v r1 r2 Q k => by
  cases r1 with
  | tup h1 q1 =>
    cases r2 with
    | tup h2 q2 =>
      refine ⟨_, _, _, _, rfl, rfl, SqT.of (W.g.s _ _ h1), SqT.of (W.g.s _ _ h2), by rw [q1.length, q2.length]; exact sz hz, fun e => ?_, fun _ e => ?_, fun _ _ p hp => ?_⟩
      · subst e
        cases q1
        exact k _ F H W (.tup h2 q2)
      · subst e
        cases q2
        exact k _ F H W (.tup h1 (by rw [List.append_nil]; exact q1))
      · exact k _ _ _ (W.laidF hp) (.tup upd_same ((q1.append q2).mono (ex_new (W.g.fresh hp).2.2)))
theorem de_catT {l l' : List D} (hz : l.length + l'.length ≤ 100000) (ha : DE X ρ ω ω1 a (.tup l)) (hb : DE X ρ ω1 ω2 b (.tup l')) : DE X ρ ω ω2 (.BinOp a .Add b pos) (.tup (l ++ l')) := de_op op_catA (rr_catA hz) ha hb

/-! ### subscripts by ints -/
theorem RpL.atI {w : World} {F : Hp} {l : List D} {vs : List V} {i : Int} (r : RpL w F l vs) (e : L2.atI l i = some d) : ∃ v, L2.atI vs i = some v ∧ Rp w F d v := by
  unfold L2.atI at e ⊢
  rw [r.length]
  cases h : ixN l.length i with
  | none => rw [h] at e; cases e
  | some j =>
    rw [h] at e
    exact r.get (i := j) e
theorem rr_ixL {K : PySem.W.Frag} {l : List D} {i : Int} (h : L2.atI l i = some z) : RR X.w (rIxL K) (.lst l) (.int i) z := fun B F H σ ρ ω W u v r1 r2 Q k => by
  cases r1 with
  | lst h1 q1 =>
    cases r2
    obtain ⟨v, e, r⟩ := q1.atI h
    exact ⟨_, _, _, v, rfl, rfl, SqL.of (W.g.s _ _ h1), e, k _ F H W r⟩
theorem rr_ixT {K : PySem.W.Frag} {l : List D} {i : Int} (h : L2.atI l i = some z) : RR X.w (rIxT K) (.tup l) (.int i) z := fun B F H σ ρ ω W u v r1 r2 Q k => by
  cases r1 with
  | tup h1 q1 =>
    cases r2
    obtain ⟨v, e, r⟩ := q1.atI h
    exact ⟨_, _, _, v, rfl, rfl, SqT.of (W.g.s _ _ h1), e, k _ F H W r⟩
theorem de_ixL {l : List D} {i : Int} (h : L2.atI l i = some z) (ha : DE X ρ ω ω1 a (.lst l)) (hb : DE X ρ ω1 ω2 b (.int i)) (hs : PlainIx b := by exact fun _ _ => rfl) : DE X ρ ω ω2 (.Subscript a b pos) z := de_of (pe_ix ix_list sem_e sem_e hs) (ev_op ha hb (rr_ixL h))
theorem de_ixT {l : List D} {i : Int} (h : L2.atI l i = some z) (ha : DE X ρ ω ω1 a (.tup l)) (hb : DE X ρ ω1 ω2 b (.int i)) (hs : PlainIx b := by exact fun _ _ => rfl) : DE X ρ ω ω2 (.Subscript a b pos) z := de_of (pe_ix ix_tup sem_e sem_e hs) (ev_op ha hb (rr_ixT h))
/-- by a number -/
theorem atN {l : List D} {j : Nat} (h : l[j]? = some z) : L2.atI l (j : Int) = some z := atI_nat h

/-! ### and, or, not, if else -/
theorem dw_one {op : BoolOp} {k : Bool} (h : DT X ρ ω ω1 a k) : DW X ρ ω ω1 (.BoolOp op [a] pos) k := by
  cases op with
  | And => exact dw_of (pw_and1 sem_t) h
  | Or => exact dw_of (pw_or1 sem_t) h
theorem dw_or {k k2 : Bool} (h1 : DT X ρ ω ω a k) (h2 : k = false → DW X ρ ω ω (.BoolOp .Or (b :: es) pos) k2) : DW X ρ ω ω (.BoolOp .Or (a :: b :: es) pos) (k || k2) :=
  dw_of (pw_or sem_t sem_w) fun B F H σ W Q q => h1.go W fun F1 H1 W1 _ _ => by
    cases k with
    | true => rw [if_pos rfl]; exact q F1 H1 W1
    | false => rw [if_neg Bool.false_ne_true]; exact h2 rfl B F1 H1 σ W1 Q q
theorem dw_and {k k2 : Bool} (h1 : DT X ρ ω ω a k) (h2 : k = true → DW X ρ ω ω (.BoolOp .And (b :: es) pos) k2) : DW X ρ ω ω (.BoolOp .And (a :: b :: es) pos) (k && k2) :=
  dw_of (pw_and sem_t sem_w) fun B F H σ W Q q => h1.go W fun F1 H1 W1 _ _ => by
    cases k with
    | true => rw [if_pos rfl]; exact h2 rfl B F1 H1 σ W1 Q q
    | false => rw [if_neg Bool.false_ne_true]; exact q F1 H1 W1
theorem dt_not {k : Bool} (h : DT X ρ ω ω1 a k) : DT X ρ ω ω1 (.UnaryOp .Not a pos) (!k) := dt_of (pt_not sem_t) fun B F H σ W Q q => h.go W fun F1 H1 W1 _ _ => q F1 H1 W1
theorem de_one {op : BoolOp} (h : DE X ρ ω ω1 a x) : DE X ρ ω ω1 (.BoolOp op [a] pos) x := de_of (pe_one sem_e) h
theorem de_and {k k2 : Bool} (h1 : DE X ρ ω ω a (.bl k)) (h2 : k = true → DE X ρ ω ω (.BoolOp .And (b :: es) pos) (.bl k2)) : DE X ρ ω ω (.BoolOp .And (a :: b :: es) pos) (.bl (k && k2)) :=
  de_of (pe_and sem_e sem_e) fun B F H σ W Q q => h1.go W fun v F1 H1 W1 _ _ r => by
    cases r
    refine ⟨k, rfl, ?_⟩
    cases k with
    | true => rw [if_pos rfl]; exact h2 rfl B F1 H1 σ W1 Q q
    | false => rw [if_neg Bool.false_ne_true]; exact q _ F1 H1 W1 (.bl _)
theorem de_not {k : Bool} (h : DE X ρ ω ω1 a (.bl k)) : DE X ρ ω ω1 (.UnaryOp .Not a pos) (.bl (!k)) := de_of (pe_not sem_e) fun B F H σ W Q q => h.go W fun v F1 H1 W1 _ _ r => by
  cases r
  exact ⟨k, rfl, q _ F1 H1 W1 (.bl _)⟩
theorem de_if {k : Bool} (ht : DT X ρ ω ω1 c k) (h1 : k = true → DE X ρ ω1 ω2 a z) (h2 : k = false → DE X ρ ω1 ω2 b z) : DE X ρ ω ω2 (.IfExp c a b pos) z :=
  de_of (pe_ifExp sem_t sem_e sem_e) fun B F H σ W Q q => ht.go W fun F1 H1 W1 _ _ => by
    cases k with
    | true => rw [if_pos rfl]; exact h1 rfl B F1 H1 σ W1 Q q
    | false => rw [if_neg Bool.false_ne_true]; exact h2 rfl B F1 H1 σ W1 Q q
/-- a op b op c -/
theorem de_chain {op op' : CmpOp} {r r' : R2} {k : Bool} (ho : OpR X (compareOp op) r) (ho' : OpR X (compareOp op') r') (hr : RR X.w r x y (.bl k)) (hr' : k = true → RR X.w r' y z d) (hf : k = false → d = .bl false)
    (ha : DE X ρ ω ω a x) (hb : DE X ρ ω ω b y) (hc : DE X ρ ω ω c z) (hm : lastMarks [op, op'] [b, c] = false := by with_unfolding_all rfl) : DE X ρ ω ω (.Compare a [op, op'] [b, c] pos) d :=
  de_of (pe_chain ho ho' sem_e sem_e sem_e hm) fun B F H σ W Q q => ha.go W fun v1 F1 H1 W1 x1 _ r1 => hb.go W1 fun v2 F2 H2 W2 x2 _ r2 =>
    hr _ F2 H2 σ ρ ω W2.re v1 v2 (r1.mono x2) r2 _ fun v3 F3 H3 W3 r3 => by
      cases r3
      refine ⟨k, rfl, ?_⟩
      cases k with
      | true =>
        rw [if_pos rfl]
        refine hc.go (W2.back W3) fun v4 F4 H4 W4 x4 _ r4 => ?_
        exact hr' rfl B F4 H4 σ ρ ω W4 v2 v4 ((r2.mono W3.g.f).mono x4) r4 Q q
      | false =>
        rw [if_neg Bool.false_ne_true]
        refine q _ F3 H3 (W2.back W3) ?_
        rw [hf rfl]
        exact .bl _
end
end G

/-! G3 -/
set_option Elab.async false
set_option linter.all false
set_option maxRecDepth 100000
set_option maxHeartbeats 1000000
namespace G
open PySem L2

/-! ## 4. Promises of pure defs; calls -/
def PSp (w : World) (n : Nat) (R : List D → D → Prop) : Sp := fun vs H Q _ => vs.length = n ∧ ∃ F ds d, Ex F H ∧ RpL w F ds vs ∧ R ds d ∧ ∀ v F' H', Grow ⟨F, H, fun _ => False⟩ F' H' → Rp w F' d v → Q v H'
structure Callee (P : Program) (w : World) (K : PySem.W.Frag) (mg : Str → Option Value) (base : Heap) (j : Nat) (x : Str) (n : Nat) (R : List D → D → Prop) : Prop where
  ex : ∃ f fd ps, ps.length = n ∧ FnOk P w K mg base CX0 j f fd ps (PSp w n R) ∧ mg x = some (.ref f) ∧ PySem.W.keepIn K (.ref f) = true ∧ Binds K fd ps []
theorem Callee.up {P : Program} {w : World} {K : PySem.W.Frag} {mg : Str → Option Value} {base : Heap} {j k : Nat} {x : Str} {n : Nat} {R : List D → D → Prop} (C : Callee P w K mg base j x n R) (h : j ≤ k) : Callee P w K mg base k x n R := by
  obtain ⟨f, fd, ps, hl, F, r⟩ := C.ex
  exact ⟨f, fd, ps, hl, F.mono h, r⟩

section
variable {X : Cx} {ρ : Rho} {ω ω' ω1 ω2 ω3 : Om} {e a b c : Expr} {es : List Expr} {te ta tb : TE} {d x y z : D} {pos p : Pos}
/-- what a pure def gives back, in a world -/
theorem PSp.use {w : World} {n : Nat} {R : List D → D → Prop} {B : Base} {F H : Hp} {σ : St} {vs : List V} {ds : List D} {Q : VK} {E : XK} (W : Wd w B F H σ ρ ω) (r : RpL w F ds vs) (hR : R ds d) (hn : ds.length = n)
    (k : ∀ v F' H', Wd w B F' H' σ ρ ω → Rp w F' d v → Q v H') : PSp w n R vs H Q E := by
  refine ⟨by rw [r.length, hn], F, ds, d, W.g.s, r, hR, fun v F' H' g q => k v F' H' ?_ q⟩
  have keepH : ∀ a o, H a = some o → H' a = some o := fun a o e => g.h a o (fun z => z) e
  have gm : ∀ a, owned σ ω a → H' a ≠ none ∧ F' a = none := fun a ha => by
    obtain ⟨h1, h2⟩ := W.there ha
    refine ⟨?_, g.n a h1 h2⟩
    cases q2 : H a with
    | none => exact absurd q2 h1
    | some o => rw [keepH a o q2]; simp
  have gW : Grow (cur F H σ ω) F' H' := ⟨g.f, fun a o _ e => keepH a o e, g.s, g.n, gm⟩
  have oW : ∀ p ∈ ω, ∃ a, σ[p.1]? = some (some (.ref a)) ∧ OwnAt w F' H' a p.2 ∧ ((cur F H σ ω).M a ∨ (cur F H σ ω).H a = none) := fun q hq => by
    obtain ⟨b, e1, x1, y1⟩ := W.own q hq
    have hb : H' b = H b := by
      cases q2 : H b with
      | none => exact absurd q2 x1.there
      | some o => exact keepH b o q2
    exact ⟨b, e1, x1.mono g.f hb (g.n b x1.there x1.fr), .inl ⟨q, hq, e1⟩⟩
  have W' : Wd w (cur F H σ ω) F' H' σ ρ ω := ⟨gW, W.len, fun i x e => let ⟨v, e1, r⟩ := W.dat i x e; ⟨v, e1, r.mono g.f⟩, oW, W.apart⟩
  exact W.back W'
theorem de_call {n : Str} {m j : Nat} {R : List D → D → Prop} {ds : List D} (C : Callee X.prog X.w X.K X.mg X.base j n m R) (hr : Room j X.A) (hg : Gl X n) (hR : R ds z) (ha : DA X ρ ω ω1 (e :: es) ds) (hn : ds.length = m := by rfl)
    (hdb : (n == ("__debug__" : Str)) = false := by decide) (he : starEach (e :: es) X.env = (false, eval e X.env) :: starEach es X.env := by rfl) (hpl : (backTo pos (starEach es X.env)).any (·.1) = false := by rfl) :
    DE X ρ ω ω1 (.Call (.Name n p) (e :: es) [] pos) z := by
  obtain ⟨f, fd, ps, hl, F, hm, hk, hb⟩ := C.ex
  refine de_of (pe_call F hr hg hm hk hb .nil pass0 sem_a hdb he hpl) fun B F0 H σ W Q k => ha.go W fun vs F1 H1 W1 _ _ r1 => ?_
  show PSp X.w m R (vs ++ []) H1 Q E0
  rw [List.append_nil]
  exact PSp.use W1 r1 hR hn k
/-- a built-in function, a built-in class -/
def RC (w : World) (r : List V → Hp → VK → Prop) (ds : List D) (z : D) : Prop := ∀ B F H σ ρ ω, Wd w B F H σ ρ ω → ∀ vs, RpL w F ds vs → ∀ Q : VK, (∀ v F' H', Wd w B F' H' σ ρ ω → Rp w F' z v → Q v H') → r vs H Q
theorem ev_cb {r : List V → Hp → VK → Prop} {ta : TA} {ds : List D} (ha : EvA X.w ta ρ ω ω1 ds) (hr : RC X.w r ds z) : EvP X.w (tCB r ta) ρ ω ω1 z := fun B F H σ W Q k => ha.go W fun vs F1 H1 W1 _ _ r1 => hr B F1 H1 σ ρ ω1 W1 vs r1 Q k
theorem de_callB {n : Str} {id : String} {r : List V → Hp → VK → Prop} {ds : List D} (hc : CallR X (.builtin id) r) (hr : RC X.w r ds z) (hm : X.mg n = none) (hg : Gl X n) (hv : bootBuiltins n = some (.builtin id)) (ha : DA X ρ ω ω1 (e :: es) ds) (hn : n ≠ "__name__" := by decide) (hdb : (n == ("__debug__" : Str)) = false := by decide)
    (he : starEach (e :: es) X.env = (false, eval e X.env) :: starEach es X.env := by rfl) (hpl : (backTo pos (starEach es X.env)).any (·.1) = false := by rfl) : DE X ρ ω ω1 (.Call (.Name n p) (e :: es) [] pos) z :=
  de_of (pe_callB hc hg hm hv sem_a hn hdb he hpl) (ev_cb ha hr)
theorem de_callT {n : Str} {id : String} {r : List V → Hp → VK → Prop} {ds : List D} (hc : CallR X (.type id) r) (hr : RC X.w r ds z) (hm : X.mg n = none) (hg : Gl X n) (hv : bootBuiltins n = some (.type id)) (ha : DA X ρ ω ω1 (e :: es) ds) (hn : n ≠ "__name__" := by decide) (hdb : (n == ("__debug__" : Str)) = false := by decide)
    (he : starEach (e :: es) X.env = (false, eval e X.env) :: starEach es X.env := by rfl) (hpl : (backTo pos (starEach es X.env)).any (·.1) = false := by rfl) : DE X ρ ω ω1 (.Call (.Name n p) (e :: es) [] pos) z :=
  de_of (pe_callTy hc hg hm hv sem_a hn hdb he hpl) (ev_cb ha hr)
theorem da_1 (h : DE X ρ ω ω1 e d) (hs : starEach [e] X.env = (false, eval e X.env) :: starEach [] X.env := by rfl) : DA X ρ ω ω1 [e] [d] := da_cons h da_nil hs
theorem RpL.one {w : World} {F : Hp} {vs : List V} (r : RpL w F [d] vs) : ∃ v, vs = [v] ∧ Rp w F d v := by
  cases r with
  | cons r t => cases t; exact ⟨_, rfl, r⟩
theorem rc_lenL {K : PySem.W.Frag} {l : List D} : RC X.w (fun xs H Q => ∃ x n, xs = [x] ∧ LenV K x H n ∧ Q (.int n) H) [.lst l] (.int l.length) := fun B F H σ ρ ω W vs r Q k => by
  obtain ⟨v, rfl, r1⟩ := r.one
  cases r1 with
  | lst h q => exact ⟨_, l.length, rfl, .inl ⟨_, SqL.of (W.g.s _ _ h), q.length.symm⟩, k _ F H W (.int _)⟩
theorem rc_lenT {K : PySem.W.Frag} {l : List D} : RC X.w (fun xs H Q => ∃ x n, xs = [x] ∧ LenV K x H n ∧ Q (.int n) H) [.tup l] (.int l.length) := fun B F H σ ρ ω W vs r Q k => by
  obtain ⟨v, rfl, r1⟩ := r.one
  cases r1 with
  | tup h q => exact ⟨_, l.length, rfl, .inr ⟨_, SqT.of (W.g.s _ _ h), q.length.symm⟩, k _ F H W (.int _)⟩
theorem rc_lenS {K : PySem.W.Frag} {s : Str} (hz : s.length ≤ 100000) : RC X.w (fun xs H Q => ∃ x n, xs = [x] ∧ LenV K x H n ∧ Q (.int n) H) [.str s] (.int s.length) := fun B F H σ ρ ω W vs r Q k => by
  obtain ⟨v, rfl, r1⟩ := r.one
  cases r1
  exact ⟨_, s.length, rfl, ⟨sz hz, rfl⟩, k _ F H W (.int _)⟩
theorem de_lenL {l : List D} (hm : X.mg "len" = none) (hg : Gl X "len") (h : DE X ρ ω ω1 e (.lst l)) (hs : starEach [e] X.env = (false, eval e X.env) :: starEach [] X.env := by rfl) : DE X ρ ω ω1 (.Call (.Name "len" p) [e] [] pos) (.int l.length) := de_callB call_len rc_lenL hm hg boot_len (da_1 h hs) (by decide) (by decide) hs (by rfl)
theorem de_lenT {l : List D} (hm : X.mg "len" = none) (hg : Gl X "len") (h : DE X ρ ω ω1 e (.tup l)) (hs : starEach [e] X.env = (false, eval e X.env) :: starEach [] X.env := by rfl) : DE X ρ ω ω1 (.Call (.Name "len" p) [e] [] pos) (.int l.length) := de_callB call_len rc_lenT hm hg boot_len (da_1 h hs) (by decide) (by decide) hs (by rfl)
theorem de_lenS {s : Str} (hm : X.mg "len" = none) (hg : Gl X "len") (hz : s.length ≤ 100000) (h : DE X ρ ω ω1 e (.str s)) (hs : starEach [e] X.env = (false, eval e X.env) :: starEach [] X.env := by rfl) : DE X ρ ω ω1 (.Call (.Name "len" p) [e] [] pos) (.int s.length) := de_callB call_len (rc_lenS hz) hm hg boot_len (da_1 h hs) (by decide) (by decide) hs (by rfl)
/-- isinstance against one built-in class -/
def tyD : D → String
  | .non => "NoneType"
  | .bl _ => "bool"
  | .int _ => "int"
  | .str _ => "str"
  | .tup _ => "tuple"
  | .lst _ => "list"
  | _ => ""
theorem tyX {K : PySem.W.Frag} {w : World} {F H : Hp} {v : V} (x : Ex F H) (r : Rp w F d v) (hd : (tyD d == "") = false) : TyX K H v (.type (tyD d)) := by
  cases r with
  | non => exact .base .non
  | bl b => exact .base (.bl b)
  | int i => exact .base (.int i)
  | str y => exact .base (.str y)
  | tup h1 q => exact .base (.tup (x _ _ h1))
  | lst h1 q => exact .base (.lst (x _ _ h1))
  | fn a => cases hd
  | dI _ _ => cases hd
  | dT _ _ _ _ _ _ => cases hd
  | fz _ _ => cases hd
end
end G

/-! G4 -/
set_option Elab.async false
set_option linter.all false
set_option maxRecDepth 100000
set_option maxHeartbeats 1000000
namespace G
open PySem L2

/-! ## 5. Built-ins -/
section
variable {X : Cx} {ρ : Rho} {ω ω' ω1 ω2 ω3 : Om} {e a b c : Expr} {es : List Expr} {te ta tb : TE} {d x y z : D} {pos p p1 p2 tpos : Pos}
/-- isinstance(e, T) -/
theorem de_isi1 {n : String} {nm : Str} {k : Bool} (hm : X.mg "isinstance" = none) (hg : Gl X "isinstance") (hmn : X.mg nm = none) (hgn : Gl X nm) (hv : bootBuiltins nm = some (.type n)) (hd : (tyD d == "") = false) (hk : kitB (tyD d) n = some k) (h : DE X ρ ω ω1 e d)
    (hn : nm ≠ "__name__" := by decide) (hdb : (nm == ("__debug__" : Str)) = false := by decide) (hs : starEach [e, .Name nm p1] X.env = (false, eval e X.env) :: starEach [.Name nm p1] X.env := by rfl)
    (hs2 : starEach [.Name nm p1] X.env = (false, eval (.Name nm p1) X.env) :: starEach [] X.env := by rfl) (hpl : (backTo pos (starEach [.Name nm p1] X.env)).any (·.1) = false := by rfl) :
    DE X ρ ω ω1 (.Call (.Name "isinstance" p) [e, .Name nm p1] [] pos) (.bl k) :=
  de_of (pe_callB call_isi hg hm (by decide +kernel) (pa_cons sem_e (pa_cons (pe_bltn (v := .ty n) hgn hmn hv rfl hn hdb) pa_nil hs2) hs) (by decide) (by decide) hs hpl) fun B F H σ W Q q => h.go W fun v F1 H1 W1 _ _ r1 =>
    ⟨v, .ty n, .type (tyD d), .type n, k, rfl, .ty n, tyX W1.g.s r1 hd, kit_ty hk, q _ F1 H1 W1 (.bl k)⟩
/-- isinstance(e, (list, tuple)) of a list or a tuple -/
theorem de_isiLT {k0 : Nat} (hm : X.mg "isinstance" = none) (hg : Gl X "isinstance") (hm1 : X.mg "list" = none) (hg1 : Gl X "list") (hm2 : X.mg "tuple" = none) (hg2 : Gl X "tuple") (hd : tyD d = "list" ∨ tyD d = "tuple") (h : DE X ρ ω ω1 e d)
    (hs : starEach [e, .Tuple [.Name "list" p1, .Name "tuple" p2] k0 tpos] X.env = (false, eval e X.env) :: starEach [.Tuple [.Name "list" p1, .Name "tuple" p2] k0 tpos] X.env := by rfl)
    (hpl : (backTo pos (starEach [.Tuple [.Name "list" p1, .Name "tuple" p2] k0 tpos] X.env)).any (·.1) = false := by rfl) :
    DE X ρ ω ω1 (.Call (.Name "isinstance" p) [e, .Tuple [.Name "list" p1, .Name "tuple" p2] k0 tpos] [] pos) (.bl true) :=
  de_of (pe_callB call_isiT hg hm (by decide +kernel) (pa_cons sem_e (pa_cons (pe_tup (pa_cons (pe_bltn (v := .ty "list") hg1 hm1 (by decide +kernel) rfl) (pa_cons (pe_bltn (v := .ty "tuple") hg2 hm2 (by decide +kernel) rfl) pa_nil))) pa_nil) hs) (by decide) (by decide) hs hpl) fun B F H σ W Q q => h.go W fun v F1 H1 W1 _ _ r1 => by
    refine ⟨by show 2 ≤ sizeLine; decide, fun T hT => ?_⟩
    refine ⟨v, T, [.ty "list", .ty "tuple"], .type (tyD d), [.type "list", .type "tuple"], true, rfl, upd_same, .cons (.ty _) (.cons (.ty _) .nil), ?_, ?_, q _ F1 _ (W1.laid hT) (.bl true)⟩
    · exact tyX (ex_trans W1.g.s (ex_new hT)) r1 (by rcases hd with e | e <;> (rw [e]; decide))
    · rcases hd with e | e
      · rw [e]
        exact kitAny_cons (b := true) (kit_ty (by decide +kernel)) (fun q => nomatch q) fun _ => rfl
      · rw [e]
        exact kitAny_cons (b := false) (kit_ty (by decide +kernel)) (fun _ => kitAny_cons (b := true) (kit_ty (by decide +kernel)) (fun q => nomatch q) fun _ => rfl) (fun q => nomatch q)
theorem rc_all {K : PySem.W.Frag} {bs : List Bool} : RC X.w (rAll K) [.lst (bs.map D.bl)] (.bl (bs.all id)) := fun B F H σ ρ ω W vs r Q k => by
  obtain ⟨v, rfl, r1⟩ := r.one
  cases r1 with
  | lst h q => exact ⟨_, bs, rfl, by rw [← q.bls]; exact SqL.of (W.g.s _ _ h), k _ F H W (.bl _)⟩
theorem rc_any {K : PySem.W.Frag} {bs : List Bool} : RC X.w (rAny K) [.lst (bs.map D.bl)] (.bl (bs.any id)) := fun B F H σ ρ ω W vs r Q k => by
  obtain ⟨v, rfl, r1⟩ := r.one
  cases r1 with
  | lst h q => exact ⟨_, bs, rfl, by rw [← q.bls]; exact SqL.of (W.g.s _ _ h), k _ F H W (.bl _)⟩
theorem de_all {bs : List Bool} (hc : X.calm = true) (hm : X.mg "all" = none) (hg : Gl X "all") (h : DE X ρ ω ω1 e (.lst (bs.map D.bl))) (hs : starEach [e] X.env = (false, eval e X.env) :: starEach [] X.env := by rfl) : DE X ρ ω ω1 (.Call (.Name "all" p) [e] [] pos) (.bl (bs.all id)) :=
  de_callB (cr_all hc) rc_all hm hg (by decide +kernel) (da_1 h hs) (by decide) (by decide) hs (by rfl)
theorem de_any {bs : List Bool} (hc : X.calm = true) (hm : X.mg "any" = none) (hg : Gl X "any") (h : DE X ρ ω ω1 e (.lst (bs.map D.bl))) (hs : starEach [e] X.env = (false, eval e X.env) :: starEach [] X.env := by rfl) : DE X ρ ω ω1 (.Call (.Name "any" p) [e] [] pos) (.bl (bs.any id)) :=
  de_callB (cr_any hc) rc_any hm hg (by decide +kernel) (da_1 h hs) (by decide) (by decide) hs (by rfl)
/-- tuple(e) -/
theorem de_tupleL {l : List D} (hm : X.mg "tuple" = none) (hg : Gl X "tuple") (h : DE X ρ ω ω1 e (.lst l)) (hs : starEach [e] X.env = (false, eval e X.env) :: starEach [] X.env := by rfl) : DE X ρ ω ω1 (.Call (.Name "tuple" p) [e] [] pos) (.tup l) :=
  de_callT call_tuple_of (fun B F H σ ρ ω W vs r Q k => by
    obtain ⟨v, rfl, r1⟩ := r.one
    cases r1 with
    | lst h q => exact ⟨_, _, rfl, .inl ⟨SqL.of (W.g.s _ _ h), fun p hp => k _ _ _ (W.laidF hp) (.tup upd_same (q.mono (ex_new (W.g.fresh hp).2.2)))⟩⟩) hm hg (by decide +kernel) (da_1 h hs) (by decide) (by decide) hs (by rfl)
theorem de_tupleT {l : List D} (hm : X.mg "tuple" = none) (hg : Gl X "tuple") (h : DE X ρ ω ω1 e (.tup l)) (hs : starEach [e] X.env = (false, eval e X.env) :: starEach [] X.env := by rfl) : DE X ρ ω ω1 (.Call (.Name "tuple" p) [e] [] pos) (.tup l) :=
  de_callT call_tuple_of (fun B F H σ ρ ω W vs r Q k => by
    obtain ⟨v, rfl, r1⟩ := r.one
    cases r1 with
    | tup h q => exact ⟨_, _, rfl, .inr ⟨SqT.of (W.g.s _ _ h), k _ F H W (.tup h q)⟩⟩) hm hg (by decide +kernel) (da_1 h hs) (by decide) (by decide) hs (by rfl)
/-- list(e): new -/
theorem do_listL {l : List D} (hm : X.mg "list" = none) (hg : Gl X "list") (h : DE X ρ ω ω1 e (.lst l)) (hs : starEach [e] X.env = (false, eval e X.env) :: starEach [] X.env := by rfl) : DO X ρ ω ω1 (.Call (.Name "list" p) [e] [] pos) (.lst l) :=
  do_of (pe_callTy call_list_of hg hm (by decide +kernel) sem_a (by decide) (by decide) hs (by rfl)) fun B F H σ W Q k => (da_1 h hs).go W fun vs F1 H1 W1 _ _ r => by
    obtain ⟨v, rfl, r1⟩ := r.one
    cases r1 with
    | lst h q => exact ⟨_, _, rfl, .inl (SqL.of (W1.g.s _ _ h)), fun p hp => k _ _ _ (W1.laid hp) (newAt W1 hp ⟨(W1.g.fresh hp).2.2, _, upd_same, q⟩)⟩
theorem do_listT {l : List D} (hm : X.mg "list" = none) (hg : Gl X "list") (h : DE X ρ ω ω1 e (.tup l)) (hs : starEach [e] X.env = (false, eval e X.env) :: starEach [] X.env := by rfl) : DO X ρ ω ω1 (.Call (.Name "list" p) [e] [] pos) (.lst l) :=
  do_of (pe_callTy call_list_of hg hm (by decide +kernel) sem_a (by decide) (by decide) hs (by rfl)) fun B F H σ W Q k => (da_1 h hs).go W fun vs F1 H1 W1 _ _ r => by
    obtain ⟨v, rfl, r1⟩ := r.one
    cases r1 with
    | tup h q => exact ⟨_, _, rfl, .inr (SqT.of (W1.g.s _ _ h)), fun p hp => k _ _ _ (W1.laid hp) (newAt W1 hp ⟨(W1.g.fresh hp).2.2, _, upd_same, q⟩)⟩
theorem de_int1 {i : Int} (hm : X.mg "int" = none) (hg : Gl X "int") (h : DE X ρ ω ω1 e (.int i)) (hs : starEach [e] X.env = (false, eval e X.env) :: starEach [] X.env := by rfl) : DE X ρ ω ω1 (.Call (.Name "int" p) [e] [] pos) (.int i) :=
  de_callT call_int1 (fun B F H σ ρ ω W vs r Q k => by
    obtain ⟨v, rfl, r1⟩ := r.one
    cases r1
    exact .inl ⟨i, rfl, k _ F H W (.int _)⟩) hm hg (by decide +kernel) (da_1 h hs) (by decide) (by decide) hs (by rfl)
theorem de_abs {i : Int} (hm : X.mg "abs" = none) (hg : Gl X "abs") (h : DE X ρ ω ω1 e (.int i)) (hs : starEach [e] X.env = (false, eval e X.env) :: starEach [] X.env := by rfl) : DE X ρ ω ω1 (.Call (.Name "abs" p) [e] [] pos) (.int (if i < 0 then -i else i)) :=
  de_callB call_abs (fun B F H σ ρ ω W vs r Q k => by
    obtain ⟨v, rfl, r1⟩ := r.one
    cases r1
    exact ⟨i, rfl, k _ F H W (.int _)⟩) hm hg (by decide +kernel) (da_1 h hs) (by decide) (by decide) hs (by rfl)
theorem de_min {ns : List Int} {m : Int} (hc : X.calm = true) (hm : X.mg "min" = none) (hg : Gl X "min") (h1 : m ∈ ns) (h2 : ∀ y ∈ ns, m ≤ y) (h : DE X ρ ω ω1 e (.lst (ns.map D.int))) (hs : starEach [e] X.env = (false, eval e X.env) :: starEach [] X.env := by rfl) : DE X ρ ω ω1 (.Call (.Name "min" p) [e] [] pos) (.int m) :=
  de_callB (cr_min hc) (fun B F H σ ρ ω W vs r Q k => by
    obtain ⟨v, rfl, r1⟩ := r.one
    cases r1 with
    | lst h q =>
      refine ⟨_, ns, rfl, by rw [← q.ints]; exact SqL.of (W.g.s _ _ h), List.length_pos_of_mem h1, fun m' a1 a2 => ?_⟩
      have e : m' = m := Int.le_antisymm (a2 m h1) (h2 m' a1)
      rw [e]
      exact k _ F H W (.int _)) hm hg (by decide +kernel) (da_1 h hs) (by decide) (by decide) hs (by rfl)
theorem sorted_unique {l l' : List Int} (p : l.Perm l') (h : l.Pairwise (· ≤ ·)) (h' : l'.Pairwise (· ≤ ·)) : l = l' :=
  List.Perm.eq_of_pairwise (fun a b _ _ h1 h2 => Int.le_antisymm h1 h2) h h' p
theorem de_sortedI {ns ms : List Int} (hm : X.mg "sorted" = none) (hg : Gl X "sorted") (hp : ms.Perm ns) (hs' : ms.Pairwise (· ≤ ·)) (h : DE X ρ ω ω1 e (.lst (ns.map D.int))) (hs : starEach [e] X.env = (false, eval e X.env) :: starEach [] X.env := by rfl) : DE X ρ ω ω1 (.Call (.Name "sorted" p) [e] [] pos) (.lst (ms.map D.int)) :=
  de_callB cr_sortedI (fun B F H σ ρ ω W vs r Q k => by
    obtain ⟨v, rfl, r1⟩ := r.one
    cases r1 with
    | lst h q =>
      refine ⟨_, ns, rfl, by rw [← q.ints]; exact SqL.of (W.g.s _ _ h), fun ns' a a1 a2 a3 => ?_⟩
      have e : ns' = ms := sorted_unique (a1.trans hp.symm) a2 hs'
      subst e
      exact k _ _ _ (W.laidF a3) (.lst upd_same (RpL.of_ints _))) hm hg (by decide +kernel) (da_1 h hs) (by decide) (by decide) hs (by rfl)
end

/-! ## 6. Statements -/
structure Post where
  nx : Rho → Om → Prop
  rt : D → Om → Prop
  bk : Rho → Om → Prop := fun _ _ => False
  ct : Rho → Om → Prop := fun _ _ => False
  ro : Own → Prop := fun _ => False
/-- what is handed back, not frozen: a list; a dict, locked -/
def RetOk (w : World) (B : Base) (F H : Hp) (v : V) (o : Own) (Hf : Hp) : Prop := ∃ a, v = .ref a ∧ OwnAt w F H a o ∧ (B.M a ∨ B.H a = none) ∧
  match o with
  | .box _ _ => False
  | .lst _ => Hf = H
  | .dct _ _ => ∃ od es, H a = some (NdO w a es) ∧ Hf = upd H a (.frz od (NdO w a es))
theorem RetOk.back {w : World} {B : Base} {F H F' H' Hf : Hp} {σ : St} {ρ : Rho} {ω : Om} {v : V} {o : Own} (W : Wd w B F H σ ρ ω) (x : RetOk w (cur F H σ ω) F' H' v o Hf) : RetOk w B F' H' v o Hf := by
  obtain ⟨a, e, oa, q, r⟩ := x
  refine ⟨a, e, oa, ?_, r⟩
  rcases q with q | q
  · exact W.ownB q
  · exact .inr (W.g.fresh q).1
structure Meets (w : World) (B : Base) (Dn : Ends) (T : Post) : Prop where
  nx : ∀ ρ ω F H σ, T.nx ρ ω → Wd w B F H σ ρ ω → Dn.nx σ H
  rt : ∀ d ρ ω F H σ v, T.rt d ω → Wd w B F H σ ρ ω → Rp w F d v → Dn.rt v H
  bk : ∀ ρ ω F H σ, T.bk ρ ω → Wd w B F H σ ρ ω → Dn.bk σ H
  ct : ∀ ρ ω F H σ, T.ct ρ ω → Wd w B F H σ ρ ω → Dn.ct σ H
  ro : ∀ o ρ ω F H σ v Hf, T.ro o → Wd w B F H σ ρ ω → RetOk w B F H v o Hf → Dn.rt v Hf
def EvS (w : World) (ts : TS) (ρ : Rho) (ω : Om) (T : Post) : Prop := ∀ B F H σ Dn, Wd w B F H σ ρ ω → Meets w B Dn T → ts Dn σ H
abbrev DS (X : Cx) (ρ : Rho) (ω : Om) (st : Stmt) (T : Post) : Prop := EvS X.w (semS X st) ρ ω T
abbrev DB (X : Cx) (ρ : Rho) (ω : Om) (st : List Stmt) (T : Post) : Prop := EvS X.w (semB X st) ρ ω T
/-- a world turned back to an elder base -/
theorem Meets.re {w : World} {B : Base} {F H : Hp} {σ : St} {ρ : Rho} {ω : Om} {Dn : Ends} {T : Post} (W : Wd w B F H σ ρ ω) (M : Meets w B Dn T) : Meets w (cur F H σ ω) Dn T :=
  ⟨fun a b c d e h w' => M.nx a b c d e h (W.back w'), fun a b c d e f g h w' r => M.rt a b c d e f g h (W.back w') r, fun a b c d e h w' => M.bk a b c d e h (W.back w'), fun a b c d e h w' => M.ct a b c d e h (W.back w'), fun a b c d e f g h i w' r => M.ro a b c d e f g h i (W.back w') (r.back W)⟩
section
variable {X : Cx} {ρ : Rho} {ω ω' ω1 ω2 ω3 : Om} {e a b c : Expr} {es : List Expr} {te ta tb : TE} {d x y z : D} {pos p p1 p2 tpos : Pos} {st : Stmt} {rest : List Stmt} {T : Post}
theorem ds_of {ts : TS} (h : PS X st ts) (v : EvS X.w ts ρ ω T) : DS X ρ ω st T := fun B F H σ Dn W M pins s I => h.run pins s σ H Dn I (v B F H σ Dn W M)
theorem db_of {ts : TS} {sts : List Stmt} (h : PSs X sts ts) (v : EvS X.w ts ρ ω T) : DB X ρ ω sts T := fun B F H σ Dn W M pins s I => h.run pins s σ H Dn I (v B F H σ Dn W M)
theorem db_nil (h : T.nx ρ ω) : DB X ρ ω [] T := db_of pss_nil fun B F H σ Dn W M => M.nx ρ ω F H σ h W
theorem db_cons (h : DS X ρ ω st { T with nx := fun ρ' ω' => DB X ρ' ω' rest T }) : DB X ρ ω (st :: rest) T := db_of (pss_cons sem_s sem_b) fun B F H σ Dn W M =>
  h B F H σ _ W ⟨fun ρ' ω' F' H' σ' q W' => q B F' H' σ' Dn W' M, M.rt, M.bk, M.ct, M.ro⟩
/-- the last one -/
theorem db_one (h : DS X ρ ω st T) : DB X ρ ω [st] T := db_of (pss_one sem_s) fun B F H σ Dn W M => h B F H σ Dn W M
theorem ds_ret (h : DE X ρ ω ω' e d) (k : T.rt d ω') : DS X ρ ω (.Return (some e) pos) T := ds_of (ps_ret sem_e) fun B F H σ Dn W M => h.go W fun v F1 H1 W1 _ _ r => M.rt d ρ ω' F1 H1 σ v k W1 r
theorem ds_if {cnd : Expr} {as bs : List Stmt} {k : Bool} (hc : DT X ρ ω ω1 cnd k) (h1 : k = true → DB X ρ ω1 as T) (h2 : k = false → DB X ρ ω1 bs T) : DS X ρ ω (.If cnd as bs pos) T := ds_of (ps_if sem_t sem_b sem_b) fun B F H σ Dn W M => hc.go W fun F1 H1 W1 _ _ => by
  cases k with
  | true => rw [if_pos rfl]; exact h1 rfl B F1 H1 σ Dn W1 M
  | false => rw [if_neg Bool.false_ne_true]; exact h2 rfl B F1 H1 σ Dn W1 M
/-- an if that is not taken -/
theorem ds_skip {cnd : Expr} {as : List Stmt} (hc : DT X ρ ω ω1 cnd false) (k : T.nx ρ ω1) : DS X ρ ω (.If cnd as [] pos) T := ds_if hc (fun q => nomatch q) fun _ => db_nil k
theorem ds_break (k : T.bk ρ ω) : DS X ρ ω (.Break pos) T := ds_of ps_break fun B F H σ Dn W M => M.bk ρ ω F H σ k W
theorem ds_set {i : Nat} {n : Str} {pos' : Pos} (h : DE X ρ ω ω1 e d) (k : T.nx (ρ.set i (some d)) ω1) (hN : X.N.Nodup) (hi : X.N[i]? = some n := by rfl) (hx : Loc X.env.scope n := by first | exact Or.inl rfl | exact Or.inr rfl) (hω : ∀ p ∈ ω1, p.1 ≠ i := by first | exact nil_om | simp)
    (hs : swapsWith e (some (.Name n pos')) pos.line X.env = pure false := by rfl) (hf : X.fn n = true ∨ X.env.scope.names.lookup n = some .local := by first | exact .inl rfl | exact .inr rfl) : DS X ρ ω (.Assign [.Name n pos'] e pos) T :=
  ds_of (ps_set hN hi hx sem_e hs hf) fun B F H σ Dn W M => h.go W fun v F1 H1 W1 _ _ r => M.nx _ _ F1 H1 _ k (W1.set r hω)
theorem ds_setO {i : Nat} {n : Str} {pos' : Pos} {o : Own} (h : DO X ρ ω ω1 e o) (k : T.nx (ρ.set i none) ((i, o) :: ω1)) (hl : i < ρ.length) (hN : X.N.Nodup) (hi : X.N[i]? = some n := by rfl) (hx : Loc X.env.scope n := by first | exact Or.inl rfl | exact Or.inr rfl) (hω : ∀ p ∈ ω1, p.1 ≠ i := by first | exact nil_om | simp)
    (hs : swapsWith e (some (.Name n pos')) pos.line X.env = pure false := by rfl) (hf : X.fn n = true ∨ X.env.scope.names.lookup n = some .local := by first | exact .inl rfl | exact .inr rfl) : DS X ρ ω (.Assign [.Name n pos'] e pos) T :=
  ds_of (ps_set hN hi hx sem_e hs hf) fun B F H σ Dn W M => h.go W fun a F1 H1 W1 _ _ _ N => M.nx _ _ F1 H1 _ k (W1.setO N (by rw [W1.len]; exact hl) hω)
/-- i += e (ints) -/
theorem ds_augI {i : Nat} {n : Str} {pos' : Pos} {j m : Int} (hd : ρ[i]? = some (some (.int j))) (h : DE X ρ ω ω1 e (.int m)) (k : T.nx (ρ.set i (some (.int (j + m)))) ω1) (hN : X.N.Nodup) (hi : X.N[i]? = some n := by rfl) (hx : Loc X.env.scope n := by first | exact Or.inl rfl | exact Or.inr rfl) (hω : ∀ p ∈ ω1, p.1 ≠ i := by first | exact nil_om | simp)
    (hf : X.fn n = true ∨ X.env.scope.names.lookup n = some .local := by first | exact .inl rfl | exact .inr rfl) : DS X ρ ω (.AugAssign (.Name n pos') .Add e pos) T :=
  ds_of (ps_aug hN hi hx sem_e ip_add hf) fun B F H σ Dn W M => by
    obtain ⟨v, e1, r1⟩ := W.dat i _ hd
    cases r1
    refine ⟨_, e1, h.go W fun v F1 H1 W1 _ _ r => ?_⟩
    cases r
    exact ⟨j, m, rfl, rfl, M.nx _ _ F1 H1 _ k (W1.set (.int _) hω)⟩
/-- code that is not come to -/
theorem db_never {sts : List Stmt} (h : False) : DB X ρ ω sts T := h.elim
end
end G

/-! G5 -/
set_option Elab.async false
set_option linter.all false
set_option maxRecDepth 100000
set_option maxHeartbeats 1000000
namespace G
open PySem L2

/-! ## 7. What is walked, in data -/
structure Yields (w : World) (F0 : Hp) (J : It) (xs : List D) : Prop where
  go : ∀ i F H, Ex F0 F → Ex F H → i < xs.length → J.go i H
  yld : ∀ B F H σ ρ ω i v H', Wd w B F H σ ρ ω → Ex F0 F → i < xs.length → J.yld i H v H' → ∃ F' d, xs[i]? = some d ∧ Wd w B F' H' σ ρ ω ∧ Ex F F' ∧ Keep σ ω F H F' H' ∧ Rp w F' d v
  stop : ∀ i F H, Ex F0 F → Ex F H → xs.length ≤ i → J.stop i H
def EvI (w : World) (ti : TI) (ρ : Rho) (ω ω' : Om) (xs : List D) : Prop := ∀ B F H σ, Wd w B F H σ ρ ω → ∀ R : It → Hp → Prop, (∀ J F' H', Wd w B F' H' σ ρ ω' → Yields w F' J xs → R J H') → ti σ H R
abbrev DI (X : Cx) (ρ : Rho) (ω ω' : Om) (tg it : Expr) (xs : List D) : Prop := EvI X.w (semI X tg it) ρ ω ω' xs
theorem EvI.go {w : World} {ti : TI} {ρ : Rho} {ω ω' : Om} {xs : List D} {B : Base} {F H : Hp} {σ : St} (h : EvI w ti ρ ω ω' xs) (W : Wd w B F H σ ρ ω) {R : It → Hp → Prop} (k : ∀ J F' H', Wd w B F' H' σ ρ ω' → Ex F F' → Keep σ ω F H F' H' → Yields w F' J xs → R J H') : ti σ H R :=
  h _ F H σ W.re R fun J F' H' W' y => k J F' H' (W.back W') W'.g.f ⟨fun a o e n => W'.g.h a o n e, W'.g.n⟩ y
section
variable {X : Cx} {ρ : Rho} {ω ω' ω1 ω2 ω3 : Om} {e a b c tg it : Expr} {es : List Expr} {d x y z : D} {pos p p1 p2 tpos : Pos}
theorem di_of {ti : TI} {xs : List D} (h : PI X tg it ti) (v : EvI X.w ti ρ ω ω' xs) : DI X ρ ω ω' tg it xs := fun B F H σ W R k pins s I => h.run pins s σ H R I (v B F H σ W R k)
theorem yields_list {w : World} {K : PySem.W.Frag} {F0 : Hp} {a : Addr} {vs : List V} {l : List D} (h : F0 a = some (.lst vs)) (r : RpL w F0 l vs) : Yields w F0 (Itl K a) l where
  go := fun i F H x1 x2 hi => ⟨vs, vs[i]'(by rw [r.length]; exact hi), SqL.of (x2 _ _ (x1 _ _ h)), List.getElem?_eq_getElem _⟩
  yld := fun B F H σ ρ ω i v H' W x1 hi ⟨e, y⟩ => by
    subst e
    obtain ⟨d, hd, q⟩ := (r.mono x1).getV (y vs (SqL.of (W.g.s _ _ (x1 _ _ h))))
    exact ⟨F, d, hd, W, ex_refl _, Keep.refl, q⟩
  stop := fun i F H x1 x2 hi => ⟨vs, SqL.of (x2 _ _ (x1 _ _ h)), by rw [r.length]; exact hi⟩
theorem yields_tup {w : World} {K : PySem.W.Frag} {F0 : Hp} {a : Addr} {vs : List V} {l : List D} (h : F0 a = some (.tup vs)) (r : RpL w F0 l vs) : Yields w F0 (Itt K a) l where
  go := fun i F H x1 x2 hi => ⟨vs, vs[i]'(by rw [r.length]; exact hi), SqT.of (x2 _ _ (x1 _ _ h)), List.getElem?_eq_getElem _⟩
  yld := fun B F H σ ρ ω i v H' W x1 hi ⟨e, y⟩ => by
    subst e
    obtain ⟨d, hd, q⟩ := (r.mono x1).getV (y vs (SqT.of (W.g.s _ _ (x1 _ _ h))))
    exact ⟨F, d, hd, W, ex_refl _, Keep.refl, q⟩
  stop := fun i F H x1 x2 hi => ⟨vs, SqT.of (x2 _ _ (x1 _ _ h)), by rw [r.length]; exact hi⟩
theorem di_list {l : List D} (h : DE X ρ ω ω1 it (.lst l)) : DI X ρ ω ω1 tg it l := di_of (pi_list sem_e) fun B F H σ W R k => h.go W fun v F1 H1 W1 _ _ r => by
  cases r with
  | lst h q => exact ⟨_, rfl, ⟨_, SqL.of (W1.g.s _ _ h)⟩, k _ F1 H1 W1 (yields_list h q)⟩
theorem di_tup {l : List D} (h : DE X ρ ω ω1 it (.tup l)) : DI X ρ ω ω1 tg it l := di_of (pi_tup sem_e) fun B F H σ W R k => h.go W fun v F1 H1 W1 _ _ r => by
  cases r with
  | tup h q => exact ⟨_, rfl, ⟨_, SqT.of (W1.g.s _ _ h)⟩, k _ F1 H1 W1 (yields_tup h q)⟩
def rngD (lo c : Int) (n : Nat) : List D := (List.range n).map fun (i : Nat) => D.int (lo + i * c)
theorem rngD_get {lo c : Int} {n i : Nat} (h : i < n) : (rngD lo c n)[i]? = some (D.int (lo + i * c)) := by
  unfold rngD
  rw [List.getElem?_map, List.getElem?_range h]
  rfl
theorem rngD_len (lo c : Int) (n : Nat) : (rngD lo c n).length = n := by unfold rngD; simp
theorem yields_rng {w : World} {F0 : Hp} {lo : Int} {n : Nat} : Yields w F0 (Itr lo n) (rngD lo 1 n) where
  go := fun i F H _ _ hi => by rw [rngD_len] at hi; exact hi
  yld := fun B F H σ ρ ω i v H' W x1 hi ⟨e, y⟩ => by
    subst e; subst y
    rw [rngD_len] at hi
    exact ⟨F, _, rngD_get hi, W, ex_refl _, Keep.refl, by rw [Int.mul_one]; exact .int _⟩
  stop := fun i F H _ _ hi => by rw [rngD_len] at hi; exact hi
theorem yields_rngC {w : World} {F0 : Hp} {lo c : Int} {n : Nat} : Yields w F0 (Itc lo c n) (rngD lo c n) where
  go := fun i F H _ _ hi => by rw [rngD_len] at hi; exact hi
  yld := fun B F H σ ρ ω i v H' W x1 hi ⟨e, y⟩ => by
    subst e; subst y
    rw [rngD_len] at hi
    exact ⟨F, _, rngD_get hi, W, ex_refl _, Keep.refl, .int _⟩
  stop := fun i F H _ _ hi => by rw [rngD_len] at hi; exact hi
theorem di_rng1 {n : Int} (hm : X.mg "range" = none) (hg : Gl X "range") (hb : -(2 ^ 62) ≤ n ∧ n < 2 ^ 62) (h : DE X ρ ω ω1 e (.int n)) (hs : starEach [e] X.env = [(false, eval e X.env)] := by rfl) : DI X ρ ω ω1 tg (.Call (.Name "range" p) [e] [] pos) (rngD 0 1 n.toNat) :=
  di_of (pi_range1 hg hm sem_a hs) fun B F H σ W R k => (da_1 h hs).go W fun vs F1 H1 W1 _ _ r => by
    obtain ⟨v, rfl, r1⟩ := r.one
    cases r1
    exact ⟨n, rfl, hb.1, hb.2, k _ F1 H1 W1 yields_rng⟩
/-- range(i, 0, -1) -/
theorem di_rngDown {i j : Int} (hm : X.mg "range" = none) (hg : Gl X "range") (hb : -(2 ^ 62) ≤ i ∧ i < 2 ^ 62) (hb2 : -(2 ^ 62) ≤ j ∧ j < 2 ^ 62) (h : DA X ρ ω ω1 [a, b, c] [.int i, .int j, .int (-1)])
    (hs : starEach [a, b, c] X.env = (false, eval a X.env) :: starEach [b, c] X.env := by rfl) (hpl : (backTo pos (starEach [b, c] X.env)).any (·.1) = false := by rfl) : DI X ρ ω ω1 tg (.Call (.Name "range" p) [a, b, c] [] pos) (rngD i (-1) (i - j).toNat) :=
  di_of (pi_range3 hg hm sem_a hs hpl) fun B F H σ W R k => h.go W fun vs F1 H1 W1 _ _ r => by
    cases r with
    | cons r1 t =>
      cases t with
      | cons r2 t =>
        cases t with
        | cons r3 t =>
          cases t; cases r1; cases r2; cases r3
          exact ⟨i, j, -1, (i - j).toNat, rfl, RgC.neg hb.1 hb.2 hb2.1 hb2.2, k _ F1 H1 W1 yields_rngC⟩
theorem yields_zipT {w : World} {K : PySem.W.Frag} {F0 : Hp} {a b : Addr} {vs us : List V} {l l' : List D} (h : F0 a = some (.tup vs)) (r : RpL w F0 l vs) (h' : F0 b = some (.tup us)) (r' : RpL w F0 l' us) : Yields w F0 (RZ.ItzT K a b) (l.zipWith (fun x y => D.tup [x, y]) l') where
  go := fun i F H x1 x2 hi => by
    rw [List.length_zipWith] at hi
    exact ⟨vs, us, vs[i]'(by rw [r.length]; omega), us[i]'(by rw [r'.length]; omega), SqT.of (x2 _ _ (x1 _ _ h)), SqT.of (x2 _ _ (x1 _ _ h')), List.getElem?_eq_getElem _, List.getElem?_eq_getElem _⟩
  yld := fun B F H σ ρ ω i v H' W x1 hi ⟨T, x, y, e1, hT, e2, q1, q2⟩ => by
    subst e1; subst e2
    obtain ⟨d1, hd1, z1⟩ := (r.mono x1).getV (q1 vs (SqT.of (W.g.s _ _ (x1 _ _ h))))
    obtain ⟨d2, hd2, z2⟩ := (r'.mono x1).getV (q2 us (SqT.of (W.g.s _ _ (x1 _ _ h'))))
    have n := (W.g.fresh hT).2.2
    exact ⟨upd F T (.tup [x, y]), .tup [d1, d2], by rw [List.getElem?_zipWith, hd1, hd2], W.laidF hT, ex_new n, ⟨fun a o e _ => ex_new hT a o e, fun a h1 h2 => by rw [upd_ne (fun e => h1 (by rw [e]; exact hT))]; exact h2⟩, .tup upd_same (.cons (z1.mono (ex_new n)) (.cons (z2.mono (ex_new n)) .nil))⟩
  stop := fun i F H x1 x2 hi => by
    rw [List.length_zipWith] at hi
    exact ⟨vs, us, SqT.of (x2 _ _ (x1 _ _ h)), SqT.of (x2 _ _ (x1 _ _ h')), by rw [r.length, r'.length]; omega⟩
theorem di_zipT {l l' : List D} {elts : List Expr} {kk : Nat} (hm : X.mg "zip" = none) (hg : Gl X "zip") (h : DA X ρ ω ω1 [a, b] [.tup l, .tup l']) (hs : starEach [a, b] X.env = (false, eval a X.env) :: starEach [b] X.env := by rfl) (hpl : (backTo pos (starEach [b] X.env)).any (·.1) = false := by rfl) :
    DI X ρ ω ω1 (.Tuple elts kk tpos) (.Call (.Name "zip" p) [a, b] [] pos) (l.zipWith (fun x y => D.tup [x, y]) l') :=
  di_of (RZ.pi_zipA hg hm sem_a hs hpl) fun B F H σ W R k => h.go W fun vs F1 H1 W1 _ _ r => by
    cases r with
    | cons r1 t =>
      cases t with
      | cons r2 t =>
        cases t
        cases r1 with
        | tup h1 q1 =>
          cases r2 with
          | tup h2 q2 => exact ⟨_, _, _, _, rfl, .inr ⟨SqT.of (W1.g.s _ _ h1), SqT.of (W1.g.s _ _ h2), k _ F1 H1 W1 (yields_zipT h1 q1 h2 q2)⟩⟩
/-- the keys of a dict of ints -/
theorem yields_keysI {w : World} {F0 : Hp} {a : Addr} {o : Obj} {kvs : List (Key × V)} {ks : List Int} (h : F0 a = some (.frz o (.dK kvs))) (e : kvs.map (·.1) = ks.map Sum.inl) : Yields w F0 (Itk a o kvs) (ks.map D.int) where
  go := fun i F H x1 x2 hi => ⟨x2 _ _ (x1 _ _ h), by have := congrArg List.length e; simp only [List.length_map] at this hi; omega⟩
  yld := fun B F H σ ρ ω i v H' W x1 hi ⟨e1, k, u, hk, e2⟩ => by
    subst e1; subst e2
    have e3 : (ks.map (Sum.inl : Int → Key))[i]? = some k := by rw [← e, List.getElem?_map, hk]; rfl
    rw [List.getElem?_map] at e3
    cases q : ks[i]? with
    | none => rw [q] at e3; cases e3
    | some j =>
      rw [q] at e3
      cases e3
      exact ⟨F, .int j, by rw [List.getElem?_map, q]; rfl, W, ex_refl _, Keep.refl, .int _⟩
  stop := fun i F H x1 x2 hi => ⟨x2 _ _ (x1 _ _ h), by have := congrArg List.length e; simp only [List.length_map] at this hi; omega⟩
theorem di_keysI {ks : List Int} (h : DE X ρ ω ω1 it (.dI ks)) : DI X ρ ω ω1 tg it (ks.map D.int) := di_of (pi_keys sem_e) fun B F H σ W R k => h.go W fun v F1 H1 W1 _ _ r => by
  cases r with
  | dI h e => exact ⟨_, _, rfl, .inl ⟨_, W1.g.s _ _ h, k _ F1 H1 W1 (yields_keysI h e)⟩⟩
end

/-! ## 8. Targets -/
/-- a value that stands for d goes to the target: slots js alone are written -/
def EvG (w : World) (tg : TG) (d : D) (ρ ρ' : Rho) (ω : Om) (js : List Nat) : Prop := ∀ B F H σ v, Wd w B F H σ ρ ω → Rp w F d v → ∀ Q : St → Hp → Prop,
  (∀ σ' , Wd w B F H σ' ρ' ω → σ'.length = σ.length → (∀ j, j ∉ js → σ'[j]? = σ[j]?) → Q σ' H) → tg v σ H Q
abbrev DG (X : Cx) (tg : Expr) (d : D) (ρ ρ' : Rho) (ω : Om) (js : List Nat) : Prop := EvG X.w (semG X tg) d ρ ρ' ω js
section
variable {X : Cx} {ρ ρ' : Rho} {ω ω' ω1 : Om} {e tg : Expr} {es : List Expr} {d x y z : D} {pos p p1 p2 tpos : Pos}
theorem dg_of {tg : Expr} {g : TG} {js : List Nat} (h : PG X tg g) (v : EvG X.w g d ρ ρ' ω js) : DG X tg d ρ ρ' ω js := fun B F H σ u W r Q k pins s uu I ru => h.run pins s σ H u uu Q I ru (v B F H σ u W r Q k)
theorem ev_name {w : World} {i : Nat} (hω : ∀ p ∈ ω, p.1 ≠ i) : EvG w (gName i) d ρ (ρ.set i (some d)) ω [i] := fun B F H σ v W r Q k =>
  k _ (W.set r hω) (by simp) fun j hj => List.getElem?_set_ne (by simp at hj; exact fun e => hj e.symm)
theorem dg_name (i : Nat) {n : Str} (hN : X.N.Nodup) (hi : X.N[i]? = some n := by rfl) (hx : Loc X.env.scope n := by first | exact Or.inl rfl | exact Or.inr rfl) (hω : ∀ p ∈ ω, p.1 ≠ i := by first | exact nil_om | simp)
    (hf : X.fn n = true ∨ X.env.scope.names.lookup n = some .local := by first | exact .inl rfl | exact .inr rfl) : DG X (.Name n pos) d ρ (ρ.set i (some d)) ω [i] := dg_of (pg_name hN hi hx hf) (ev_name hω)
/-- (names) = a tuple of as many -/
def EvGs (w : World) (tg : TGs) (ds : List D) (ρ ρ' : Rho) (ω : Om) (js : List Nat) : Prop := ∀ B F H σ vs, Wd w B F H σ ρ ω → RpL w F ds vs → ∀ Q : St → Hp → Prop,
  (∀ σ' , Wd w B F H σ' ρ' ω → σ'.length = σ.length → (∀ j, j ∉ js → σ'[j]? = σ[j]?) → Q σ' H) → tg vs σ H Q
structure DGs (X : Cx) (ts : List Expr) (ds : List D) (ρ ρ' : Rho) (ω : Om) (js : List Nat) : Prop where
  ex : ∃ t, PGs X ts t ∧ EvGs X.w t ds ρ ρ' ω js
theorem dgs_nil : DGs X [] [] ρ ρ ω [] := ⟨gNil, pgs_nil, fun B F H σ vs W r Q k => by
  cases r
  exact ⟨rfl, k σ W rfl fun _ _ => rfl⟩⟩
theorem dgs_cons {i : Nat} {n : Str} {ds : List D} {js : List Nat} (h : DGs X es ds (ρ.set i (some d)) ρ' ω js) (hN : X.N.Nodup) (hi : X.N[i]? = some n := by rfl) (hx : Loc X.env.scope n := by first | exact Or.inl rfl | exact Or.inr rfl) (hω : ∀ p ∈ ω, p.1 ≠ i := by first | exact nil_om | simp)
    (hf : X.fn n = true ∨ X.env.scope.names.lookup n = some .local := by first | exact .inl rfl | exact .inr rfl)
    (hs : (assignEach (.Name n pos :: es) X.env).map (·.2) = assign (.Name n pos) X.env :: (assignEach es X.env).map (·.2) := by rfl) : DGs X (.Name n pos :: es) (d :: ds) ρ ρ' ω (i :: js) := by
  obtain ⟨t, ht, hv⟩ := h.ex
  refine ⟨_, pgs_cons (pg_name hN hi hx hf) ht hs, fun B F H σ vs W r Q k => ?_⟩
  cases r with
  | cons r1 rr =>
    refine ⟨_, _, rfl, ?_⟩
    refine hv B F H _ _ (W.set r1 hω) rr Q fun σ' W' hl hk => k σ' W' (hl.trans (by simp)) fun j hj => ?_
    simp only [List.mem_cons, not_or] at hj
    rw [hk j hj.2, List.getElem?_set_ne (fun e => hj.1 e.symm)]
theorem dg_tup {ts : List Expr} {k n : Nat} {ds : List D} {js : List Nat} (hc : X.calm = true) (h : DGs X ts ds ρ ρ' ω js) (hl : ds.length = n := by rfl) (hn : (assignEach ts X.env).length = n := by rfl) (hst : (assignEach ts X.env).findIdx? (·.1) = none := by rfl) :
    DG X (.Tuple ts k pos) (.tup ds) ρ ρ' ω js := by
  obtain ⟨t, ht, hv⟩ := h.ex
  refine dg_of (pg_tup hc ht hn hst) fun B F H σ v W r Q q => ?_
  cases r with
  | tup h1 q1 => exact ⟨_, _, rfl, SqT.of (W.g.s _ _ h1), by rw [q1.length, hl], hv B F H σ _ W q1 Q q⟩
/-- (names) = e, e a tuple -/
theorem ds_unpack {tg e : Expr} {js : List Nat} {T : Post} (h : DE X ρ ω ω1 e d) (g : DG X tg d ρ ρ' ω1 js) (k : T.nx ρ' ω1) (hs : swapsWithSole [tg] e pos.line X.env = pure false := by rfl) (hw : swappedStores [tg] e X.env = pure none := by rfl)
    (h1 : (assignEach [tg] X.env).map (·.2) = [assign tg X.env] := by rfl) : DS X ρ ω (.Assign [tg] e pos) T :=
  ds_of (ps_asg sem_e sem_g hs hw h1) fun B F H σ Dn W M => h.go W fun v F1 H1 W1 _ _ r => g B F1 H1 σ v W1 r _ fun σ' W' _ _ => M.nx _ _ F1 H1 σ' k W'
end

/-! ## 9. Loops -/
section
variable {X : Cx} {ρ ρ' : Rho} {ω ω' ω1 : Om} {e tg it cnd : Expr} {body : List Stmt} {d x y z : D} {pos p p1 p2 tpos : Pos} {T : Post}
theorem ds_for {xs : List D} (hi : DI X ρ ω ω1 tg it xs) (Pv : Nat → Rho → Om → Prop) (h0 : Pv 0 ρ ω1)
    (hs : ∀ i d ρ ω, xs[i]? = some d → Pv i ρ ω → ∃ ρ' js, DG X tg d ρ ρ' ω js ∧ DB X ρ' ω body { T with nx := Pv (i + 1), ct := Pv (i + 1), bk := T.nx })
    (hd : ∀ ρ ω, Pv xs.length ρ ω → T.nx ρ ω) (hc : X.calm = true) (hp : PassesOwn (model X.prog X.w) X.A X.env X.xe) (hf : ∀ x, foldedSetIterable it X.env x = pure x := by intro _; rfl) : DS X ρ ω (.For tg it body [] pos) T := by
  refine ds_of (ps_for hp hc sem_i sem_g sem_b hf) fun B F H σ Dn W M => hi.go W fun J F1 H1 W1 _ _ Y => ?_
  refine ⟨fun i m σ' H' => m = xs.length - i ∧ i ≤ xs.length ∧ ∃ ρ ω F', Wd X.w B F' H' σ' ρ ω ∧ Ex F1 F' ∧ Pv i ρ ω, ⟨xs.length, by simp, Nat.zero_le _, ρ, ω1, F1, W1, ex_refl _, h0⟩, ?_⟩
  rintro i m σ2 H2 ⟨rfl, hle, ρ2, ω2, F2, W2, x2, pv⟩
  by_cases hlt : i < xs.length
  · refine .inr ⟨Y.go i F2 H2 x2 W2.g.s hlt, fun σ' H' => ∃ ρ ω F', Wd X.w B F' H' σ' ρ ω ∧ Ex F1 F' ∧ Pv (i + 1) ρ ω, fun σ' H' ⟨ρ', ω', F', a1, a2, a3⟩ => ⟨xs.length - (i + 1), by omega, rfl, hlt, ρ', ω', F', a1, a2, a3⟩, fun v H3 hy => ?_⟩
    obtain ⟨F3, d, hd3, W3, x3, _, r3⟩ := Y.yld B F2 H2 σ2 ρ2 ω2 i v H3 W2 x2 hlt hy
    obtain ⟨ρ4, js, g, hb⟩ := hs i d ρ2 ω2 hd3 pv
    refine g B F3 H3 σ2 v W3 r3 _ fun σ4 W4 _ _ => ?_
    refine hb _ F3 H3 σ4 _ W4.re ⟨fun ρ5 ω5 F5 H5 σ5 q W5 => ⟨ρ5, ω5, F5, W4.back W5, ex_trans (ex_trans x2 x3) W5.g.f, q⟩, fun a b c d e f g h w' r => M.rt a b c d e f g h (W4.back w') r, fun a b c d e h w' => M.nx a b c d e h (W4.back w'), fun ρ5 ω5 F5 H5 σ5 q W5 => ⟨ρ5, ω5, F5, W4.back W5, ex_trans (ex_trans x2 x3) W5.g.f, q⟩, fun a b c d e f g h i w' r => M.ro a b c d e f g h i (W4.back w') (r.back W4)⟩
  · have e : i = xs.length := by omega
    subst e
    exact .inl ⟨Y.stop _ F2 H2 x2 W2.g.s (Nat.le_refl _), M.nx _ _ F2 H2 σ2 (hd ρ2 ω2 pv) W2⟩
theorem ds_while (Pv : Nat → Rho → Om → Prop) (m0 : Nat) (h0 : Pv m0 ρ ω)
    (hs : ∀ m ρ ω, Pv m ρ ω → ∃ k ω1, DT X ρ ω ω1 cnd k ∧ (k = true → DB X ρ ω1 body { T with nx := fun ρ' ω' => ∃ m', m' < m ∧ Pv m' ρ' ω', ct := fun ρ' ω' => ∃ m', m' < m ∧ Pv m' ρ' ω', bk := T.nx }) ∧ (k = false → T.nx ρ ω1))
    (hp : PassesOwn (model X.prog X.w) X.A X.env X.xe) : DS X ρ ω (.While cnd body [] pos) T := by
  refine ds_of (ps_while hp sem_t sem_b) fun B F H σ Dn W M => ?_
  refine ⟨fun m σ' H' => ∃ ρ ω F', Wd X.w B F' H' σ' ρ ω ∧ Pv m ρ ω, ⟨m0, ρ, ω, F, W, h0⟩, ?_⟩
  rintro m σ2 H2 ⟨ρ2, ω2, F2, W2, pv⟩
  obtain ⟨k, ω3, ht, h1, h2⟩ := hs m ρ2 ω2 pv
  refine ht.go W2 fun F3 H3 W3 _ _ => ?_
  cases k with
  | true =>
    rw [if_pos rfl]
    refine ⟨fun σ' H' => ∃ m', m' < m ∧ ∃ ρ ω F', Wd X.w B F' H' σ' ρ ω ∧ Pv m' ρ ω, fun σ' H' q => q, ?_⟩
    exact h1 rfl B F3 H3 σ2 _ W3 ⟨fun ρ5 ω5 F5 H5 σ5 ⟨m', hm, q⟩ W5 => ⟨m', hm, ρ5, ω5, F5, W5, q⟩, M.rt, M.nx, fun ρ5 ω5 F5 H5 σ5 ⟨m', hm, q⟩ W5 => ⟨m', hm, ρ5, ω5, F5, W5, q⟩, M.ro⟩
  | false =>
    rw [if_neg Bool.false_ne_true]
    exact M.nx _ _ F3 H3 σ2 (h2 rfl) W3
end
end G

/-! G6 -/
set_option Elab.async false
set_option linter.all false
set_option maxRecDepth 100000
set_option maxHeartbeats 1000000
namespace G
open PySem L2

/-! ## 10. Comprehensions -/
def wipeR (ρ : Rho) : List Nat → Rho
  | [] => ρ
  | v :: vs => (wipeR ρ vs).set v none
theorem wipeR_length (ρ : Rho) : ∀ vs : List Nat, (wipeR ρ vs).length = ρ.length
  | [] => rfl
  | v :: vs => by unfold wipeR; rw [List.length_set, wipeR_length ρ vs]
theorem wipeR_some {ρ : Rho} {i : Nat} {x : D} : ∀ {vs : List Nat}, (wipeR ρ vs)[i]? = some (some x) → ρ[i]? = some (some x) ∧ i ∉ vs
  | [], h => ⟨h, by simp⟩
  | v :: vs, h => by
    unfold wipeR at h
    by_cases hi : v = i
    · subst hi
      by_cases hv : v < (wipeR ρ vs).length
      · rw [List.getElem?_set_self hv] at h; cases h
      · rw [List.getElem?_eq_none (by simpa using hv)] at h; cases h
    · rw [List.getElem?_set_ne hi] at h
      obtain ⟨h1, h2⟩ := wipeR_some h
      exact ⟨h1, by simp only [List.mem_cons, not_or]; exact ⟨fun e => hi e.symm, h2⟩⟩
theorem wipe_in {σ : St} {i : Nat} : ∀ {vs : List Nat}, i ∈ vs → (wipe σ vs)[i]? = if i < σ.length then some none else none
  | [], h => by simp at h
  | v :: vs, h => by
    unfold wipe
    by_cases hi : v = i
    · subst hi
      rw [List.getElem?_set]
      simp [wipe_length]
    · rw [List.getElem?_set_ne hi]
      rcases List.mem_cons.mp h with e | h
      · exact absurd e.symm hi
      · exact wipe_in h
theorem wipe_eq {σ σ2 : St} {vs : List Nat} (hl : σ2.length = σ.length) (h : ∀ j, j ∉ vs → σ2[j]? = σ[j]?) : wipe σ2 vs = wipe σ vs := by
  refine List.ext_getElem? fun j => ?_
  by_cases hj : j ∈ vs
  · rw [wipe_in hj, wipe_in hj, hl]
  · rw [wipe_out hj, wipe_out hj, h j hj]
section
variable {w : World} {B : Base} {F H F' H' : Hp} {σ σ2 : St} {ρ ρ2 : Rho} {ω ω' : Om} {vs : List Nat}
theorem Wd.wipe (W : Wd w B F H σ ρ ω) (h : ∀ p ∈ ω, p.1 ∉ vs) : Wd w B F H (L2.wipe σ vs) (wipeR ρ vs) ω where
  g := W.g
  len := by rw [wipe_length, wipeR_length, W.len]
  dat := fun i d e => by
    obtain ⟨e1, n⟩ := wipeR_some e
    obtain ⟨v, e2, r⟩ := W.dat i d e1
    exact ⟨v, by rw [wipe_out n]; exact e2, r⟩
  own := fun p hp => by
    obtain ⟨a, e, r⟩ := W.own p hp
    exact ⟨a, by rw [wipe_out (h p hp)]; exact e, r⟩
  apart := W.apart.imp_of_mem fun {p q} hp hq f a e => by
    rw [wipe_out (h p hp)] at e
    rw [wipe_out (h q hq)]
    exact f a e
/-- back from the block -/
theorem Wd.unwipe (W : Wd w B F H σ ρ ω) (W2 : Wd w B F' H' σ2 ρ2 ω') (x : Ex F F') (hk : ∀ j, j ∉ vs → σ2[j]? = σ[j]?) (h : ∀ p ∈ ω', p.1 ∉ vs) : Wd w B F' H' σ ρ ω' where
  g := W2.g
  len := W.len
  dat := fun i d e => let ⟨v, e1, r⟩ := W.dat i d e; ⟨v, e1, r.mono x⟩
  own := fun p hp => by
    obtain ⟨a, e, r⟩ := W2.own p hp
    exact ⟨a, by rw [← hk _ (h p hp)]; exact e, r⟩
  apart := W2.apart.imp_of_mem fun {p q} hp hq f a e => by
    rw [← hk _ (h p hp)] at e
    rw [← hk _ (h q hq)]
    exact f a e
/-- a new thing that none owns is changed -/
theorem Wd.updN {a : Addr} {o : HO} (W : Wd w B F H σ ρ ω) (h1 : B.H a = none) (h2 : ¬ B.M a) (h3 : F a = none) (h4 : ¬ owned σ ω a) : Wd w B F (upd H a o) σ ρ ω where
  g := {
    f := W.g.f
    h := fun b x hm e => by
      rw [upd_ne (fun z => by rw [z, h1] at e; cases e)]; exact W.g.h b x hm e
    s := fun b x e => by
      rw [upd_ne (fun z => by rw [z, h3] at e; cases e)]; exact W.g.s b x e
    n := W.g.n
    m := fun b hm => by
      rw [upd_ne (fun z => h2 (by rw [← z]; exact hm))]; exact W.g.m b hm }
  len := W.len
  dat := W.dat
  own := fun p hp => by
    obtain ⟨b, e, r, y⟩ := W.own p hp
    have n : b ≠ a := fun z => h4 (by rw [← z]; exact ⟨p, hp, e⟩)
    exact ⟨b, e, r.mono (ex_refl _) (upd_ne n) r.fr, y⟩
  apart := W.apart
theorem owned_keys (hk : ω'.map (·.1) = ω.map (·.1)) {a : Addr} (h : owned σ ω' a) : owned σ ω a := by
  obtain ⟨p, hp, e⟩ := h
  have : p.1 ∈ ω.map (·.1) := by rw [← hk]; exact List.mem_map.mpr ⟨p, hp, rfl⟩
  obtain ⟨q, hq, e2⟩ := List.mem_map.mp this
  exact ⟨q, hq, by rw [e2]; exact e⟩
theorem keys_in {vs : List Nat} (hk : ω'.map (·.1) = ω.map (·.1)) (h : ∀ p ∈ ω, p.1 ∉ vs) : ∀ p ∈ ω', p.1 ∉ vs := fun p hp => by
  have : p.1 ∈ ω.map (·.1) := by rw [← hk]; exact List.mem_map.mpr ⟨p, hp, rfl⟩
  obtain ⟨q, hq, e2⟩ := List.mem_map.mp this
  rw [← e2]
  exact h q hq
end
abbrev Blk (X : Cx) (scope : Scope) (Pp : Cx → Prop) : Prop := ∀ (s : Shared) (H : Hp) (C : Addr) (cl : List (Str × Addr)) (fp : List Addr), Pp (X.blk s H scope (compEnvC scope cl C X.env) fp)
def blkE (X : Cx) (scope : Scope) (e : Expr) : TE := fun σ H Q => Blk X scope fun Y => semE Y e σ H Q
def blkTs (X : Cx) (scope : Scope) (ifs : List Expr) : TT := fun σ H Q => Blk X scope fun Y => semTs Y ifs σ H Q
def blkG (X : Cx) (scope : Scope) (tg : Expr) : TG := fun v σ H Q => Blk X scope fun Y => semG Y tg v σ H Q
/-- one turn of a comprehension, in data -/
structure Turn1 (X : Cx) (scope : Scope) (tg : Expr) (ifs : List Expr) (elt : Expr) (vs : List Nat) (ρ : Rho) (om : Nat → Om) (outs : Nat → List D) (i : Nat) (d : D) : Prop where
  ex : ∃ ρ' js b ω2, (∀ j ∈ js, j ∈ vs) ∧ ω2.map (·.1) = (om i).map (·.1) ∧ Blk X scope (fun Y => DG Y tg d (wipeR ρ vs) ρ' (om i) js) ∧ Blk X scope (fun Y => DTs Y ρ' (om i) ω2 ifs b) ∧
    (b = true → ∃ y, Blk X scope (fun Y => DE Y ρ' ω2 (om (i + 1)) elt y) ∧ outs (i + 1) = outs i ++ [y]) ∧ (b = false → om (i + 1) = ω2 ∧ outs (i + 1) = outs i)
section
variable {X : Cx} {ρ : Rho} {ω ω1 : Om} {elt tg it : Expr} {ifs : List Expr} {scope : Scope} {own : List (Str × Nat)} {pos : Pos} {xs : List D}
theorem ev_lc (hi : DI X ρ ω ω1 tg it xs) (om : Nat → Om) (outs : Nat → List D) (h0 : om 0 = ω1) (o0 : outs 0 = []) (hk : ∀ i, (om i).map (·.1) = ω1.map (·.1)) (hω : ∀ p ∈ ω1, p.1 ∉ own.map (·.2)) (hz : ∀ i, i < xs.length → (outs i).length < 100000)
    (hs : ∀ i d, xs[i]? = some d → Turn1 X scope tg ifs elt (own.map (·.2)) ρ om outs i d) : EvO X.w (tLc (semI X tg it) (blkG X scope tg) (blkTs X scope ifs) (blkE X scope elt) (own.map (·.2))) ρ ω (om xs.length) (.lst (outs xs.length)) := by
  intro B F H σ W Q k
  refine hi.go W fun J F1 H1 W1 _ _ Y Dl hD => ?_
  obtain ⟨bH, bM, bF⟩ := W1.g.fresh hD
  refine ⟨fun i m H' => m = xs.length - i ∧ i ≤ xs.length ∧ ∃ F' acc, Wd X.w B F' H' σ ρ (om i) ∧ Ex F1 F' ∧ H' Dl = some (.lst acc) ∧ F' Dl = none ∧ RpL X.w F' (outs i) acc,
    ⟨xs.length, by simp, Nat.zero_le _, F1, [], by rw [h0]; exact W1.laid hD, ex_refl _, upd_same, bF, by rw [o0]; exact .nil⟩, ?_⟩
  have noOwn : ∀ i, ¬ owned σ (om i) Dl := fun i z => W1.ne hD (owned_keys (hk i) z) rfl
  rintro i m H2 ⟨rfl, hle, F2, acc, W2, x2, hacc, fD, racc⟩
  by_cases hlt : i < xs.length
  · refine .inr ⟨Y.go i F2 H2 x2 W2.g.s hlt, fun H' => ∃ F' acc, Wd X.w B F' H' σ ρ (om (i + 1)) ∧ Ex F1 F' ∧ H' Dl = some (.lst acc) ∧ F' Dl = none ∧ RpL X.w F' (outs (i + 1)) acc,
      fun H' q => ⟨xs.length - (i + 1), by omega, rfl, hlt, q⟩, fun v H3 hy => ?_⟩
    have hωi := keys_in (vs := own.map (·.2)) (hk i) hω
    have hωj := keys_in (vs := own.map (·.2)) (hk (i + 1)) hω
    have Ww := W2.wipe hωi
    obtain ⟨F3, d, hd3, W3, x3, k3, r3⟩ := Y.yld B F2 H2 _ _ (om i) i v H3 Ww x2 hlt hy
    obtain ⟨ρ4, js, b, ω5, hjs, hk5, hg, ht, h1, h2⟩ := (hs i d hd3).ex
    have keepD : ∀ {σ' : St}, (∀ j, j ∉ own.map (·.2) → σ'[j]? = σ[j]?) → ∀ {ω' : Om}, ω'.map (·.1) = ω1.map (·.1) → ¬ owned σ' ω' Dl := fun {σ'} hσ {ω'} hω' ⟨p, hp, e⟩ =>
      W1.ne hD (owned_keys hω' ⟨p, hp, (hσ _ (keys_in hω' hω p hp)).symm.trans e⟩) rfl
    have sw : ∀ j, j ∉ own.map (·.2) → (L2.wipe σ (own.map (·.2)))[j]? = σ[j]? := fun j hj => wipe_out hj
    have d3 : H3 Dl = some (.lst acc) := k3.h _ _ hacc (keepD sw (hk i))
    have f3 : F3 Dl = none := k3.n _ (by rw [hacc]; simp) fD
    intro s0 H0 C0 cl0 fp0
    refine hg s0 H0 C0 cl0 fp0 B F3 H3 _ v W3 r3 _ fun σ4 W4 l4 k4 => ?_
    have s4 : ∀ j, j ∉ own.map (·.2) → σ4[j]? = σ[j]? := fun j hj => (k4 j fun z => hj (hjs j z)).trans (sw j hj)
    refine ⟨wipe_eq (l4.trans (wipe_length _ _)) s4, ?_⟩
    intro s1 H1' C1 cl1 fp1
    refine (ht s1 H1' C1 cl1 fp1).go W4 fun F5 H5 W5 x5 k5 => ?_
    have d5 : H5 Dl = some (.lst acc) := k5.h _ _ d3 (keepD s4 (hk i))
    have f5 : F5 Dl = none := k5.n _ (by rw [d3]; simp) f3
    cases b with
    | true =>
      obtain ⟨y, hy', ho⟩ := h1 rfl
      rw [if_pos rfl]
      intro s2 H2' C2 cl2 fp2
      have noO2 : ¬ owned σ4 ω5 Dl := keepD s4 (hk5.trans (hk i))
      refine (hy' s2 H2' C2 cl2 fp2).go W5 fun u F6 H6 W6 x6 k6 r6 => ?_
      have d6 : H6 Dl = some (.lst acc) := k6.h _ _ d5 noO2
      have f6 : F6 Dl = none := k6.n _ (by rw [d5]; simp) f5
      have x26 : Ex F2 F6 := ex_trans x3 (ex_trans x5 x6)
      refine ⟨acc, d6, by rw [racc.length]; exact sz' (hz i hlt), F6, acc ++ [u], (W2.unwipe W6 x26 s4 hωj).updN bH bM f6 (noOwn (i + 1)), ex_trans x2 x26, upd_same, f6, ?_⟩
      rw [ho]
      exact (racc.mono x26).snoc r6
    | false =>
      obtain ⟨e1, e2⟩ := h2 rfl
      rw [if_neg Bool.false_ne_true]
      have x25 : Ex F2 F5 := ex_trans x3 x5
      refine ⟨F5, acc, W2.unwipe (by rw [e1]; exact W5) x25 s4 hωj, ex_trans x2 x25, d5, f5, ?_⟩
      rw [e2]
      exact racc.mono x25
  · have e : i = xs.length := by omega
    subst e
    exact .inl ⟨Y.stop _ F2 H2 x2 W2.g.s (Nat.le_refl _), k Dl F2 H2 W2 ⟨⟨fD, acc, hacc, racc⟩, bH, bM, noOwn _⟩⟩
theorem blk_g {scope : Scope} {tg : Expr} : ∀ (s : Shared) (H : Hp) (C : Addr) (cl : List (Str × Addr)) (fp : List Addr), PG (X.blk s H scope (compEnvC scope cl C X.env) fp) tg (blkG X scope tg) := fun s H C cl fp => ⟨fun pins s' _ _ v u _ I r h => h s H C cl fp pins s' u I r⟩
theorem blk_ts {scope : Scope} {ifs : List Expr} : ∀ (s : Shared) (H : Hp) (C : Addr) (cl : List (Str × Addr)) (fp : List Addr), PTs (X.blk s H scope (compEnvC scope cl C X.env) fp) ifs (blkTs X scope ifs) := fun s H C cl fp => ⟨fun pins s' _ _ _ I h => h s H C cl fp pins s' I⟩
theorem blk_e {scope : Scope} {e : Expr} : ∀ (s : Shared) (H : Hp) (C : Addr) (cl : List (Str × Addr)) (fp : List Addr), PE (X.blk s H scope (compEnvC scope cl C X.env) fp) e (blkE X scope e) := fun s H C cl fp => ⟨fun pins s' _ _ _ I h => h s H C cl fp pins s' I⟩
theorem do_lc (hc : X.calm = true) (hN : X.N.Nodup) (hi : DI X ρ ω ω1 tg it xs) (ok : BlkOk X.N X.env.scope scope own) (om : Nat → Om) (outs : Nat → List D) (h0 : om 0 = ω1) (o0 : outs 0 = []) (hk : ∀ i, (om i).map (·.1) = ω1.map (·.1)) (hω : ∀ p ∈ ω1, p.1 ∉ own.map (·.2)) (hz : ∀ i, i < xs.length → (outs i).length < 100000)
    (hs : ∀ i d, xs[i]? = some d → Turn1 X scope tg ifs elt (own.map (·.2)) ρ om outs i d) (hf : ∀ x, foldedSetIterable it X.env x = pure x := by intro _; rfl) : DO X ρ ω (om xs.length) (.ListComp elt [⟨tg, it, ifs, 0⟩] scope pos) (.lst (outs xs.length)) :=
  do_of (pe_lc hc hN sem_i ok blk_g blk_ts blk_e hf) (ev_lc hi om outs h0 o0 hk hω hz hs)
theorem dts_nil : DTs X ρ ω ω [] true := dts_of pts_nil fun B F H σ W Q k => k F H W
theorem dts_one {c : Expr} {b : Bool} (h : DT X ρ ω ω1 c b) : DTs X ρ ω ω1 [c] b := dts_of (pts_one sem_t) h
/-- a turn that changes nothing: the target, one test, the element -/
structure Turn0 (X : Cx) (scope : Scope) (tg : Expr) (ifs : List Expr) (elt : Expr) (vs : List Nat) (ρ : Rho) (ω : Om) (q : Bool) (d y : D) : Prop where
  ex : ∃ ρ' js, (∀ j ∈ js, j ∈ vs) ∧ Blk X scope (fun Y => DG Y tg d (wipeR ρ vs) ρ' ω js) ∧ Blk X scope (fun Y => DTs Y ρ' ω ω ifs q) ∧ (q = true → Blk X scope (fun Y => DE Y ρ' ω ω elt y))
theorem take_next {α : Type} {l : List α} {i : Nat} {x : α} (h : l[i]? = some x) : l.take (i + 1) = l.take i ++ [x] := by
  rw [List.take_succ, h]; rfl
theorem turn_of {q : D → Bool} {f : D → D} {vs : List Nat} {i : Nat} {d : D} (hd : xs[i]? = some d) (h : Turn0 X scope tg ifs elt vs ρ ω (q d) d (f d)) : Turn1 X scope tg ifs elt vs ρ (fun _ => ω) (fun i => ((xs.take i).filter q).map f) i d := by
  obtain ⟨ρ', js, h1, h2, h3, h4⟩ := h.ex
  refine ⟨ρ', js, q d, ω, h1, rfl, h2, h3, fun e => ⟨f d, h4 e, ?_⟩, fun e => ⟨rfl, ?_⟩⟩
  · show ((xs.take (i + 1)).filter q).map f = _
    rw [take_next hd, List.filter_append, List.map_append]
    simp [e]
  · show ((xs.take (i + 1)).filter q).map f = _
    rw [take_next hd, List.filter_append, List.map_append]
    simp [e]
theorem ev_filter {q : D → Bool} {f : D → D} (hi : DI X ρ ω ω1 tg it xs) (hω : ∀ p ∈ ω1, p.1 ∉ own.map (·.2)) (hz : xs.length ≤ 100000) (hs : ∀ d, d ∈ xs → Turn0 X scope tg ifs elt (own.map (·.2)) ρ ω1 (q d) d (f d)) :
    EvO X.w (tLc (semI X tg it) (blkG X scope tg) (blkTs X scope ifs) (blkE X scope elt) (own.map (·.2))) ρ ω ω1 (.lst ((xs.filter q).map f)) := by
  have e := ev_lc (X := X) (scope := scope) (ifs := ifs) (elt := elt) hi (fun _ => ω1) (fun i => ((xs.take i).filter q).map f) rfl (by simp) (fun _ => rfl) hω (fun i hi' => by
    rw [List.length_map]
    have := List.length_filter_le q (xs.take i)
    rw [List.length_take] at this
    omega) (fun i d hd => turn_of hd (hs d (List.mem_of_getElem? hd)))
  rw [List.take_length] at e
  exact e
/-- [f x for x in xs if q x] -/
theorem do_filter {q : D → Bool} {f : D → D} (hc : X.calm = true) (hN : X.N.Nodup) (hi : DI X ρ ω ω1 tg it xs) (ok : BlkOk X.N X.env.scope scope own) (hω : ∀ p ∈ ω1, p.1 ∉ own.map (·.2)) (hz : xs.length ≤ 100000)
    (hs : ∀ d, d ∈ xs → Turn0 X scope tg ifs elt (own.map (·.2)) ρ ω1 (q d) d (f d)) (hf : ∀ x, foldedSetIterable it X.env x = pure x := by intro _; rfl) : DO X ρ ω ω1 (.ListComp elt [⟨tg, it, ifs, 0⟩] scope pos) (.lst ((xs.filter q).map f)) :=
  do_of (pe_lc hc hN sem_i ok blk_g blk_ts blk_e hf) (ev_filter hi hω hz hs)
theorem filter_true {α : Type} (l : List α) : l.filter (fun _ => true) = l := List.filter_eq_self.mpr fun _ _ => rfl
/-- [f x for x in xs] -/
theorem do_map {f : D → D} (hc : X.calm = true) (hN : X.N.Nodup) (hi : DI X ρ ω ω1 tg it xs) (ok : BlkOk X.N X.env.scope scope own) (hω : ∀ p ∈ ω1, p.1 ∉ own.map (·.2)) (hz : xs.length ≤ 100000)
    (hs : ∀ d, d ∈ xs → ∃ ρ' js, (∀ j ∈ js, j ∈ own.map (·.2)) ∧ Blk X scope (fun Y => DG Y tg d (wipeR ρ (own.map (·.2))) ρ' ω1 js) ∧ Blk X scope (fun Y => DE Y ρ' ω1 ω1 elt (f d))) (hf : ∀ x, foldedSetIterable it X.env x = pure x := by intro _; rfl) : DO X ρ ω ω1 (.ListComp elt [⟨tg, it, [], 0⟩] scope pos) (.lst (xs.map f)) := by
  have e := do_filter (pos := pos) (q := fun _ => true) (f := f) (ifs := []) hc hN hi ok hω hz (fun d hd => by
    obtain ⟨ρ', js, h1, h2, h3⟩ := hs d hd
    exact ⟨ρ', js, h1, h2, fun _ _ _ _ _ => dts_nil, fun _ => h3⟩) hf
  rw [filter_true] at e
  exact e
/-- y = [..] on one line, y a local -/
theorem ds_setLc {T : Post} {ifs : List Expr} {i : Nat} {y : Str} {py spos : Pos} {l : List D} (v : EvO X.w (tLc (semI X tg it) (blkG X scope tg) (blkTs X scope ifs) (blkE X scope elt) (own.map (·.2))) ρ ω ω1 (.lst l)) (k : T.nx (ρ.set i (some (.lst l))) ω1)
    (hc : X.calm = true) (hN : X.N.Nodup) (ok : BlkOk X.N X.env.scope scope own) (hy : X.N[i]? = some y := by rfl) (hyl : X.env.scope.names.lookup y = some .local := by rfl) (hω : ∀ p ∈ ω1, p.1 ≠ i := by first | exact nil_om | simp)
    (hsw : swapsWith (.ListComp elt [⟨tg, it, ifs, 0⟩] scope pos) (some (.Name y py)) spos.line X.env = pure true := by exact sw_true rfl rfl rfl (by decide +kernel)) (hf : ∀ x, foldedSetIterable it X.env x = pure x := by intro _; rfl) : DS X ρ ω (.Assign [.Name y py] (.ListComp elt [⟨tg, it, ifs, 0⟩] scope pos) spos) T :=
  ds_of (ps_setLc hc hN hy hyl hsw sem_i ok blk_g blk_ts blk_e hf) fun B F H σ Dn W M => v.data.go W fun v F1 H1 W1 _ _ r => M.nx _ _ F1 H1 _ k (W1.set r hω)
end
end G

/-! G7 -/
set_option Elab.async false
set_option linter.all false
set_option maxRecDepth 100000
set_option maxHeartbeats 1000000
namespace G
open PySem L2
/-! ### two clauses -/
def blkI (X : Cx) (scope : Scope) (tg it : Expr) : TI := fun σ H R => Blk X scope fun Y => semI Y tg it σ H R
/-- a turn of the outer clause -/
structure Turn2 (X : Cx) (scope : Scope) (tg tg1 it1 elt : Expr) (vs vs1 : List Nat) (ρ : Rho) (ω : Om) (d : D) (ys : List D) (f : D → D) : Prop where
  ex : ∃ ρ1 js, (∀ j ∈ js, j ∈ vs) ∧ Blk X scope (fun Y => DG Y tg d (wipeR ρ vs) ρ1 ω js) ∧ Blk X scope (fun Y => DI Y ρ1 ω ω tg1 it1 ys) ∧
    ∀ e ∈ ys, ∃ ρ2 js1, (∀ j ∈ js1, j ∈ vs1) ∧ Blk X scope (fun Y => DG Y tg1 e (wipeR ρ1 vs1) ρ2 ω js1) ∧ Blk X scope (fun Y => DE Y ρ2 ω ω elt (f e))
section
variable {X : Cx} {ρ : Rho} {ω ω1 : Om} {elt tg it tg1 it1 : Expr} {scope : Scope} {own : List (Str × Nat)} {vs1 : List Nat} {pos : Pos} {xs : List D}
theorem blk_i {scope : Scope} {tg it : Expr} : ∀ (s : Shared) (H : Hp) (C : Addr) (cl : List (Str × Addr)) (fp : List Addr), PI (X.blk s H scope (compEnvC scope cl C X.env) fp) tg it (blkI X scope tg it) := fun s H C cl fp => ⟨fun pins s' _ _ _ I h => h s H C cl fp pins s' I⟩
theorem ev_lc2 {ys : D → List D} {f : D → D → D} (hi : DI X ρ ω ω1 tg it xs) (hω : ∀ p ∈ ω1, p.1 ∉ own.map (·.2)) (hv : ∀ j ∈ vs1, j ∈ own.map (·.2)) (hz : (xs.flatMap fun d => (ys d).map (f d)).length < 100000)
    (hs : ∀ d, d ∈ xs → Turn2 X scope tg tg1 it1 elt (own.map (·.2)) vs1 ρ ω1 d (ys d) (f d)) :
    EvO X.w (tLc2 (semI X tg it) (blkG X scope tg) tYes (blkI X scope tg1 it1) (blkG X scope tg1) tYes (blkE X scope elt) (own.map (·.2)) vs1) ρ ω ω1 (.lst (xs.flatMap fun d => (ys d).map (f d))) := by
  intro B F H σ W Q k
  refine hi.go W fun J F1 H1 W1 _ _ Y Dl hD => ?_
  obtain ⟨bH, bM, bF⟩ := W1.g.fresh hD
  have noOwn : ¬ owned σ ω1 Dl := fun z => W1.ne hD z rfl
  have sw : ∀ j, j ∉ own.map (·.2) → (L2.wipe σ (own.map (·.2)))[j]? = σ[j]? := fun j hj => wipe_out hj
  have keepD : ∀ {σ' : St}, (∀ j, j ∉ own.map (·.2) → σ'[j]? = σ[j]?) → ¬ owned σ' ω1 Dl := fun {σ'} hσ ⟨p, hp, e⟩ => noOwn ⟨p, hp, (hσ _ (hω p hp)).symm.trans e⟩
  -- all that is made up to an outer turn i, and j items of it
  let outs : Nat → List D := fun i => (xs.take i).flatMap fun d => (ys d).map (f d)
  have small : ∀ i (d : D) j, xs[i]? = some d → j < (ys d).length → (outs i ++ ((ys d).take j).map (f d)).length < 100000 := fun i d j hd hj => by
    have e1 : xs.flatMap (fun d => (ys d).map (f d)) = outs i ++ ((ys d).map (f d) ++ (xs.drop (i + 1)).flatMap fun d => (ys d).map (f d)) := by
      show _ = (xs.take i).flatMap _ ++ _
      have e2 : xs = xs.take i ++ d :: xs.drop (i + 1) := by
        have h1 := (List.getElem?_eq_some_iff.mp hd).1
        have h2 := (List.getElem?_eq_some_iff.mp hd).2
        rw [← h2, ← List.drop_eq_getElem_cons h1, List.take_append_drop]
      conv => lhs; rw [e2]
      rw [List.flatMap_append, List.flatMap_cons]
    rw [e1] at hz
    simp only [List.length_append, List.length_map, List.length_take] at hz ⊢
    omega
  refine ⟨fun i m H' => m = xs.length - i ∧ i ≤ xs.length ∧ ∃ F' acc, Wd X.w B F' H' σ ρ ω1 ∧ Ex F1 F' ∧ H' Dl = some (.lst acc) ∧ F' Dl = none ∧ RpL X.w F' (outs i) acc,
    ⟨xs.length, by simp, Nat.zero_le _, F1, [], W1.laid hD, ex_refl _, upd_same, bF, .nil⟩, ?_⟩
  rintro i m H2 ⟨rfl, hle, F2, acc, W2, x2, hacc, fD, racc⟩
  by_cases hlt : i < xs.length
  · refine .inr ⟨Y.go i F2 H2 x2 W2.g.s hlt, fun H' => ∃ F' acc, Wd X.w B F' H' σ ρ ω1 ∧ Ex F1 F' ∧ H' Dl = some (.lst acc) ∧ F' Dl = none ∧ RpL X.w F' (outs (i + 1)) acc,
      fun H' q => ⟨xs.length - (i + 1), by omega, rfl, hlt, q⟩, fun v H3 hy => ?_⟩
    have Ww := W2.wipe hω
    obtain ⟨F3, d, hd3, W3, x3, k3, r3⟩ := Y.yld B F2 H2 _ _ ω1 i v H3 Ww x2 hlt hy
    obtain ⟨ρ4, js, hjs, hg, hi1, hin⟩ := (hs d (List.mem_of_getElem? hd3)).ex
    have d3 : H3 Dl = some (.lst acc) := k3.h _ _ hacc (keepD sw)
    have f3 : F3 Dl = none := k3.n _ (by rw [hacc]; simp) fD
    intro s0 H0 C0 cl0 fp0
    refine hg s0 H0 C0 cl0 fp0 B F3 H3 _ v W3 r3 _ fun σ4 W4 l4 k4 => ?_
    have s4 : ∀ j, j ∉ own.map (·.2) → σ4[j]? = σ[j]? := fun j hj => (k4 j fun z => hj (hjs j z)).trans (sw j hj)
    refine ⟨wipe_eq (l4.trans (wipe_length _ _)) s4, ?_⟩
    unfold tYes
    dsimp only
    rw [if_pos rfl]
    intro s1 H1' C1 cl1 fp1
    refine (hi1 s1 H1' C1 cl1 fp1).go W4 fun J1 F5 H5 W5 x5 k5 Y1 => ?_
    have d5 : H5 Dl = some (.lst acc) := k5.h _ _ d3 (keepD s4)
    have f5 : F5 Dl = none := k5.n _ (by rw [d3]; simp) f3
    have x25 : Ex F2 F5 := ex_trans x3 x5
    have hω1 : ∀ p ∈ ω1, p.1 ∉ vs1 := fun p hp z => hω p hp (hv _ z)
    have sw1 : ∀ j, j ∉ vs1 → (L2.wipe σ4 vs1)[j]? = σ4[j]? := fun j hj => wipe_out hj
    refine ⟨fun j m H' => m = (ys d).length - j ∧ j ≤ (ys d).length ∧ ∃ F' acc', Wd X.w B F' H' σ4 ρ4 ω1 ∧ Ex F5 F' ∧ H' Dl = some (.lst acc') ∧ F' Dl = none ∧ RpL X.w F' (outs i ++ ((ys d).take j).map (f d)) acc',
      ⟨(ys d).length, by simp, Nat.zero_le _, F5, acc, W5, ex_refl _, d5, f5, by simpa using racc.mono x25⟩, ?_⟩
    rintro j m' H6 ⟨rfl, hle1, F6, acc6, W6, x6, hacc6, f6, racc6⟩
    by_cases hlt1 : j < (ys d).length
    · refine .inr ⟨Y1.go j F6 H6 x6 W6.g.s hlt1, fun H' => ∃ F' acc', Wd X.w B F' H' σ4 ρ4 ω1 ∧ Ex F5 F' ∧ H' Dl = some (.lst acc') ∧ F' Dl = none ∧ RpL X.w F' (outs i ++ ((ys d).take (j + 1)).map (f d)) acc',
        fun H' q => ⟨(ys d).length - (j + 1), by omega, rfl, hlt1, q⟩, fun v2 H7 hy2 => ?_⟩
      have Ww2 := W6.wipe hω1
      obtain ⟨F7, e, he7, W7, x7, k7, r7⟩ := Y1.yld B F6 H6 _ _ ω1 j v2 H7 Ww2 x6 hlt1 hy2
      obtain ⟨ρ8, js1, hjs1, hg1, he⟩ := hin e (List.mem_of_getElem? he7)
      have no7 : ¬ owned (L2.wipe σ4 vs1) ω1 Dl := fun ⟨p, hp, q⟩ => keepD s4 ⟨p, hp, (sw1 _ (hω1 p hp)).symm.trans q⟩
      have d7 : H7 Dl = some (.lst acc6) := k7.h _ _ hacc6 no7
      have f7 : F7 Dl = none := k7.n _ (by rw [hacc6]; simp) f6
      intro s2 H2' C2 cl2 fp2
      refine hg1 s2 H2' C2 cl2 fp2 B F7 H7 _ v2 W7 r7 _ fun σ8 W8 l8 k8 => ?_
      have s8 : ∀ j, j ∉ vs1 → σ8[j]? = σ4[j]? := fun j hj => (k8 j fun z => hj (hjs1 j z)).trans (sw1 j hj)
      refine ⟨wipe_eq (l8.trans (wipe_length _ _)) s8, ?_⟩
      rw [if_pos rfl]
      intro s3 H3' C3 cl3 fp3
      have no8 : ¬ owned σ8 ω1 Dl := fun ⟨p, hp, q⟩ => keepD s4 ⟨p, hp, (s8 _ (hω1 p hp)).symm.trans q⟩
      refine (he s3 H3' C3 cl3 fp3).go W8 fun u F9 H9 W9 x9 k9 r9 => ?_
      have d9 : H9 Dl = some (.lst acc6) := k9.h _ _ d7 no8
      have f9 : F9 Dl = none := k9.n _ (by rw [d7]; simp) f7
      have x69 : Ex F6 F9 := ex_trans x7 x9
      refine ⟨acc6, d9, by rw [racc6.length]; exact sz' (small i d j hd3 hlt1), F9, acc6 ++ [u], (W6.unwipe W9 x69 s8 hω1).updN bH bM f9 (keepD s4), ex_trans x6 x69, upd_same, f9, ?_⟩
      rw [take_next he7, List.map_append, ← List.append_assoc]
      exact (racc6.mono x69).snoc r9
    · have e : j = (ys d).length := by omega
      subst e
      refine .inl ⟨Y1.stop _ F6 H6 x6 W6.g.s (Nat.le_refl _), F6, acc6, W2.unwipe W6 (ex_trans x25 x6) s4 hω, ex_trans (ex_trans x2 x25) x6, hacc6, f6, ?_⟩
      have eo : outs (i + 1) = outs i ++ (ys d).map (f d) := by
        show (xs.take (i + 1)).flatMap _ = (xs.take i).flatMap _ ++ _
        rw [take_next hd3, List.flatMap_append]
        simp
      rw [eo]
      rw [List.take_length] at racc6
      exact racc6
  · have e : i = xs.length := by omega
    subst e
    have eo : outs xs.length = xs.flatMap fun d => (ys d).map (f d) := by show (xs.take xs.length).flatMap _ = _; rw [List.take_length]
    rw [eo] at racc
    exact .inl ⟨Y.stop _ F2 H2 x2 W2.g.s (Nat.le_refl _), k Dl F2 H2 W2 ⟨⟨fD, acc, hacc, racc⟩, bH, bM, noOwn⟩⟩
/-- [f d e for d in xs for e in ys d] -/
theorem do_lc2 {ys : D → List D} {f : D → D → D} (hc : X.calm = true) (hN : X.N.Nodup) (hi : DI X ρ ω ω1 tg it xs) (ok : BlkOk X.N X.env.scope scope own) (hω : ∀ p ∈ ω1, p.1 ∉ own.map (·.2)) (hv : ∀ j ∈ vs1, j ∈ own.map (·.2)) (hz : (xs.flatMap fun d => (ys d).map (f d)).length < 100000)
    (hs : ∀ d, d ∈ xs → Turn2 X scope tg tg1 it1 elt (own.map (·.2)) vs1 ρ ω1 d (ys d) (f d)) (hf : ∀ x, foldedSetIterable it X.env x = pure x := by intro _; rfl) (hf1 : ∀ env x, foldedSetIterable it1 env x = pure x := by intro _ _; rfl) :
    DO X ρ ω ω1 (.ListComp elt [⟨tg, it, [], 0⟩, ⟨tg1, it1, [], 0⟩] scope pos) (.lst (xs.flatMap fun d => (ys d).map (f d))) :=
  do_of (pe_lc2 hc hN sem_i ok hv blk_g (fun _ _ _ _ _ => pts_nil) blk_i blk_g (fun _ _ _ _ _ => pts_nil) blk_e hf hf1) (ev_lc2 hi hω hv hz hs)
theorem ds_setLc2 {T : Post} {i : Nat} {y : Str} {py spos : Pos} {l : List D} (v : EvO X.w (tLc2 (semI X tg it) (blkG X scope tg) tYes (blkI X scope tg1 it1) (blkG X scope tg1) tYes (blkE X scope elt) (own.map (·.2)) vs1) ρ ω ω1 (.lst l)) (k : T.nx (ρ.set i (some (.lst l))) ω1)
    (hc : X.calm = true) (hN : X.N.Nodup) (ok : BlkOk X.N X.env.scope scope own) (hv : ∀ j ∈ vs1, j ∈ own.map (·.2)) (hy : X.N[i]? = some y := by rfl) (hyl : X.env.scope.names.lookup y = some .local := by rfl) (hω : ∀ p ∈ ω1, p.1 ≠ i := by first | exact nil_om | simp)
    (hsw : swapsWith (.ListComp elt [⟨tg, it, [], 0⟩, ⟨tg1, it1, [], 0⟩] scope pos) (some (.Name y py)) spos.line X.env = pure true := by exact sw_true rfl rfl rfl (by decide +kernel)) (hf : ∀ x, foldedSetIterable it X.env x = pure x := by intro _; rfl) (hf1 : ∀ env x, foldedSetIterable it1 env x = pure x := by intro _ _; rfl) :
    DS X ρ ω (.Assign [.Name y py] (.ListComp elt [⟨tg, it, [], 0⟩, ⟨tg1, it1, [], 0⟩] scope pos) spos) T :=
  ds_of (ps_setLc2 hc hN hy hyl hsw sem_i ok hv blk_g (fun _ _ _ _ _ => pts_nil) blk_i blk_g (fun _ _ _ _ _ => pts_nil) blk_e hf hf1) fun B F H σ Dn W M => v.data.go W fun v F1 H1 W1 _ _ r => M.nx _ _ F1 H1 _ k (W1.set r hω)
end
end G

/-! G8 -/
set_option Elab.async false
set_option linter.all false
set_option maxRecDepth 100000
set_option maxHeartbeats 1000000
namespace G
open PySem L2
/-! ## 11. What a slot owns: read, changed -/
def odel : Om → Nat → Om
  | [], _ => []
  | p :: r, i => if p.1 = i then odel r i else p :: odel r i
def oset : Om → Nat → Own → Om
  | [], _, _ => []
  | p :: r, i, o => (if p.1 = i then (i, o) else p) :: oset r i o
theorem mem_odel {i : Nat} {p : Nat × Own} : ∀ {ω : Om}, p ∈ odel ω i ↔ p ∈ ω ∧ p.1 ≠ i
  | [] => by simp [odel]
  | q :: r => by
    unfold odel
    by_cases h : q.1 = i
    · rw [if_pos h, mem_odel, List.mem_cons]
      constructor
      · rintro ⟨a, b⟩; exact ⟨.inr a, b⟩
      · rintro ⟨a | a, b⟩
        · subst a; exact absurd h b
        · exact ⟨a, b⟩
    · rw [if_neg h, List.mem_cons, mem_odel, List.mem_cons]
      constructor
      · rintro (a | ⟨a, b⟩)
        · subst a; exact ⟨.inl rfl, h⟩
        · exact ⟨.inr a, b⟩
      · rintro ⟨a | a, b⟩
        · exact .inl a
        · exact .inr ⟨a, b⟩
theorem mem_oset {i : Nat} {o : Own} {p : Nat × Own} : ∀ {ω : Om}, p ∈ oset ω i o → (p = (i, o) ∧ ∃ q ∈ ω, q.1 = i) ∨ (p ∈ ω ∧ p.1 ≠ i)
  | [], h => by simp [oset] at h
  | q :: r, h => by
    unfold oset at h
    rcases List.mem_cons.mp h with e | h
    · by_cases hq : q.1 = i
      · rw [if_pos hq] at e; exact .inl ⟨e, q, List.mem_cons_self, hq⟩
      · rw [if_neg hq] at e; subst e; exact .inr ⟨List.mem_cons_self, hq⟩
    · rcases mem_oset h with ⟨a, q', b, c⟩ | ⟨a, b⟩
      · exact .inl ⟨a, q', List.mem_cons_of_mem _ b, c⟩
      · exact .inr ⟨List.mem_cons_of_mem _ a, b⟩
theorem oset_keys {i : Nat} {o : Own} : ∀ {ω : Om}, (oset ω i o).map (·.1) = ω.map (·.1)
  | [] => rfl
  | q :: r => by
    unfold oset
    rw [List.map_cons, List.map_cons, oset_keys]
    by_cases h : q.1 = i
    · rw [if_pos h, h]
    · rw [if_neg h]
theorem pw_odel {R : Nat × Own → Nat × Own → Prop} {i : Nat} : ∀ {ω : Om}, ω.Pairwise R → (odel ω i).Pairwise R
  | [], _ => .nil
  | q :: r, h => by
    obtain ⟨h1, h2⟩ := List.pairwise_cons.mp h
    unfold odel
    by_cases hq : q.1 = i
    · rw [if_pos hq]; exact pw_odel h2
    · rw [if_neg hq]; exact List.pairwise_cons.mpr ⟨fun p hp => h1 p (mem_odel.mp hp).1, pw_odel h2⟩
theorem pw_oset {S : Nat → Nat → Prop} {i : Nat} {o : Own} : ∀ {ω : Om}, ω.Pairwise (fun p q => S p.1 q.1) → (oset ω i o).Pairwise (fun p q => S p.1 q.1) := fun {ω} h => by
  have e : (ω.map (·.1)).Pairwise S := List.pairwise_map.mpr h
  rw [← oset_keys (i := i) (o := o)] at e
  exact List.pairwise_map.mp e
theorem pw_ne {α : Type} {R : α → α → Prop} (sy : ∀ a b, R a b → R b a) : ∀ {l : List α}, l.Pairwise R → ∀ {a b : α}, a ∈ l → b ∈ l → a ≠ b → R a b
  | [], _, _, _, h, _, _ => by simp at h
  | x :: l, h, a, b, ha, hb, ne => by
    obtain ⟨h1, h2⟩ := List.pairwise_cons.mp h
    rcases List.mem_cons.mp ha with e | ha' <;> rcases List.mem_cons.mp hb with e' | hb'
    · exact absurd (e.trans e'.symm) ne
    · rw [e]; exact h1 b hb'
    · rw [e']; exact sy _ _ (h1 a ha')
    · exact pw_ne sy h2 ha' hb' ne
section
variable {w : World} {B : Base} {F H F' H' : Hp} {σ σ2 : St} {ρ ρ2 : Rho} {ω ω' : Om} {i : Nat}
theorem Wd.apart' (W : Wd w B F H σ ρ ω) {p q : Nat × Own} (hp : p ∈ ω) (hq : q ∈ ω) (h : p.1 ≠ q.1) {a : Addr} (e : σ[p.1]? = some (some (.ref a))) : σ[q.1]? ≠ some (some (.ref a)) :=
  pw_ne (R := fun p q => ∀ a, σ[p.1]? = some (some (.ref a)) → σ[q.1]? ≠ some (some (.ref a))) (fun a b f x e1 e2 => f x e2 e1) W.apart hp hq (fun z => h (by rw [z])) a e
/-- what a slot owns is changed -/
theorem Wd.change {a : Addr} {o o' : Own} {u : HO} (W : Wd w B F H σ ρ ω) (hm : (i, o) ∈ ω) (ha : σ[i]? = some (some (.ref a))) (ho : OwnAt w F (upd H a u) a o') : Wd w B F (upd H a u) σ ρ (oset ω i o') := by
  obtain ⟨a', e', oa, hB⟩ := W.own _ hm
  rw [ha] at e'; cases e'
  have fa : F a = none := oa.fr
  have ow : owned σ ω a := ⟨_, hm, ha⟩
  refine ⟨⟨W.g.f, fun b x hm' e => ?_, fun b x e => ?_, W.g.n, fun b hb => ?_⟩, W.len, W.dat, fun p hp => ?_, pw_oset (S := fun p q => ∀ a, σ[p]? = some (some (.ref a)) → σ[q]? ≠ some (some (.ref a))) W.apart⟩
  · by_cases q : b = a
    · subst q
      rcases hB with z | z
      · exact absurd z hm'
      · rw [z] at e; cases e
    · rw [upd_ne q]; exact W.g.h b x hm' e
  · rw [upd_ne (fun z => by rw [z, fa] at e; cases e)]; exact W.g.s b x e
  · obtain ⟨h1, h2⟩ := W.g.m b hb
    refine ⟨?_, h2⟩
    by_cases q : b = a
    · subst q; rw [upd_same]; simp
    · rw [upd_ne q]; exact h1
  · rcases mem_oset hp with ⟨e, _⟩ | ⟨h1, h2⟩
    · subst e; exact ⟨a, ha, ho, hB⟩
    · obtain ⟨b, e, r, y⟩ := W.own p h1
      have n : b ≠ a := fun z => by
        subst z
        exact W.apart' hm h1 (fun z => h2 z.symm) ha e
      exact ⟨b, e, r.mono (ex_refl _) (upd_ne n) r.fr, y⟩
mutual
/-- without lists and dicts -/
def nolst : D → Bool
  | .tup l => nolsts l
  | .lst _ => false
  | .dI _ => false
  | .dT _ _ => false
  | .fz _ _ => false
  | _ => true
def nolsts : List D → Bool
  | [] => true
  | d :: l => nolst d && nolsts l
end
def but (F : Hp) (a : Addr) : Hp := fun b => if b = a then none else F b
theorem but_ne {F : Hp} {a b : Addr} (h : b ≠ a) : but F a b = F b := if_neg h
theorem but_same {F : Hp} {a : Addr} : but F a a = none := if_pos rfl
mutual
theorem Rp.but {w : World} {F : Hp} {a : Addr} {vs : List V} (h : F a = some (.lst vs)) : ∀ {d : D} {v : V}, nolst d = true → Rp w F d v → Rp w (G.but F a) d v
  | _, _, _, .non => .non
  | _, _, _, .bl b => .bl b
  | _, _, _, .int i => .int i
  | _, _, _, .str y => .str y
  | _, _, _, .fn b => .fn b
  | _, _, p, .tup h1 r => .tup (by rw [but_ne (fun e => by rw [e, h] at h1; cases h1)]; exact h1) (RpL.but h p r)
  | .lst _, _, p, _ => by cases p
  | .dI _, _, p, _ => by cases p
  | .dT _ _, _, p, _ => by cases p
  | .fz _ _, _, p, _ => by cases p
theorem RpL.but {w : World} {F : Hp} {a : Addr} {vs : List V} (h : F a = some (.lst vs)) : ∀ {l : List D} {us : List V}, nolsts l = true → RpL w F l us → RpL w (G.but F a) l us
  | _, _, _, .nil => .nil
  | d :: l, _, p, .cons r t => by
    have p' : (nolst d && nolsts l) = true := p
    rw [Bool.and_eq_true] at p'
    exact .cons (Rp.but h p'.1 r) (RpL.but h p'.2 t)
end
/-- owned contents that hold no lists -/
def calmO (ω : Om) : Prop := ∀ p ∈ ω, ∃ l, p.2 = .lst l ∧ nolsts l = true
/-- a slot's own list, seen as data for the while -/
theorem Wd.view {l : List D} {a : Addr} {vs : List V} (W : Wd w B F H σ ρ ω) (hm : (i, Own.lst l) ∈ ω) (ha : σ[i]? = some (some (.ref a))) (hv : H a = some (.lst vs)) (r : RpL w F l vs) :
    Wd w (cur (upd F a (.lst vs)) H σ (odel ω i)) (upd F a (.lst vs)) H σ (ρ.set i (some (.lst l))) (odel ω i) := by
  obtain ⟨a', e', oa, hB⟩ := W.own _ hm
  rw [ha] at e'; cases e'
  have fa : F a = none := oa.fr
  have x : Ex F (upd F a (.lst vs)) := ex_new fa
  have own' : ∀ p ∈ odel ω i, ∃ b, σ[p.1]? = some (some (.ref b)) ∧ b ≠ a ∧ OwnAt w (upd F a (.lst vs)) H b p.2 := fun p hp => by
    obtain ⟨h1, h2⟩ := mem_odel.mp hp
    obtain ⟨b, e, r', y⟩ := W.own p h1
    have n : b ≠ a := fun z => by subst z; exact W.apart' hm h1 (fun z => h2 z.symm) ha e
    exact ⟨b, e, n, r'.mono x rfl (by rw [upd_ne n]; exact r'.fr)⟩
  refine ⟨⟨ex_refl _, fun _ _ _ e => e, fun b o e => ?_, fun _ _ e => e, fun b hb => ?_⟩, by simpa using W.len, fun j d e => ?_, fun p hp => ?_, pw_odel W.apart⟩
  · by_cases q : b = a
    · subst q; rw [upd_same] at e; cases e; exact hv
    · rw [upd_ne q] at e; exact W.g.s b o e
  · obtain ⟨p, hp, e⟩ := hb
    obtain ⟨b', e', n, r'⟩ := own' p hp
    rw [e] at e'; cases e'
    exact ⟨r'.there, r'.fr⟩
  · by_cases q : i = j
    · subst q
      have hl : i < ρ.length := by
        by_cases z : i < ρ.length
        · exact z
        · rw [List.getElem?_eq_none (by simpa using z)] at e; cases e
      rw [List.getElem?_set_self hl] at e
      cases e
      exact ⟨_, ha, .lst upd_same (r.mono x)⟩
    · rw [List.getElem?_set_ne q] at e
      obtain ⟨v, e1, r1⟩ := W.dat j d e
      exact ⟨v, e1, r1.mono x⟩
  · obtain ⟨b, e, n, r'⟩ := own' p hp
    exact ⟨b, e, r', .inl ⟨p, hp, e⟩⟩
/-- .. and back -/
theorem Wd.unview {l : List D} {a : Addr} {vs : List V} (W : Wd w B F H σ ρ ω) (hm : (i, Own.lst l) ∈ ω) (ha : σ[i]? = some (some (.ref a))) (hv : H a = some (.lst vs)) (r : RpL w F l vs) (hc : calmO (odel ω i))
    (W' : Wd w (cur (upd F a (.lst vs)) H σ (odel ω i)) F' H' σ (ρ.set i (some (.lst l))) (odel ω i)) : Wd w B (but F' a) H' σ ρ ω := by
  obtain ⟨a', e', oa, hB⟩ := W.own _ hm
  rw [ha] at e'; cases e'
  have fa : F a = none := oa.fr
  have f' : F' a = some (.lst vs) := W'.g.f a _ (by show upd F a (.lst vs) a = _; rw [upd_same])
  have x : Ex F (but F' a) := fun b o e => by
    have n : b ≠ a := fun z => by rw [z, fa] at e; cases e
    rw [but_ne n]
    exact W'.g.f b o (by show upd F a (.lst vs) b = _; rw [upd_ne n]; exact e)
  have own' : ∀ p ∈ odel ω i, ∃ b, σ[p.1]? = some (some (.ref b)) ∧ b ≠ a ∧ OwnAt w (but F' a) H' b p.2 := fun p hp => by
    obtain ⟨h1, h2⟩ := mem_odel.mp hp
    obtain ⟨b, e, r', y⟩ := W'.own p hp
    have n : b ≠ a := fun z => by subst z; exact W.apart' hm h1 (fun z => h2 z.symm) ha e
    obtain ⟨l', el, nl⟩ := hc p hp
    rw [el] at r' ⊢
    obtain ⟨fr, us, hu, ru⟩ := r'
    exact ⟨b, e, n, by rw [but_ne n]; exact fr, us, hu, ru.but f' nl⟩
  have g : Grow (cur F H σ ω) (but F' a) H' := by
    refine ⟨x, fun b o hb e => ?_, fun b o e => ?_, fun b h1 h2 => ?_, fun b hb => ?_⟩
    · exact W'.g.h b o (fun ⟨p, hp, q⟩ => hb ⟨p, (mem_odel.mp hp).1, q⟩) e
    · have n : b ≠ a := fun z => by rw [z, but_same] at e; cases e
      rw [but_ne n] at e
      exact W'.g.s b o e
    · by_cases n : b = a
      · rw [n]; exact but_same
      · rw [but_ne n]
        exact W'.g.n b h1 (by show upd F a (.lst vs) b = none; rw [upd_ne n]; exact h2)
    · obtain ⟨p, hp, e⟩ := hb
      by_cases hpi : p.1 = i
      · rw [hpi, ha] at e; cases e
        exact ⟨by rw [W'.g.s a _ f']; simp, but_same⟩
      · obtain ⟨b', e', n, r'⟩ := own' p (mem_odel.mpr ⟨hp, hpi⟩)
        rw [e] at e'; cases e'
        exact ⟨r'.there, r'.fr⟩
  refine W.back (σ' := σ) (ρ' := ρ) (ω' := ω) ⟨g, W.len, fun j d e => let ⟨v, e1, r1⟩ := W.dat j d e; ⟨v, e1, r1.mono x⟩, fun p hp => ?_, W.apart⟩
  by_cases hpi : p.1 = i
  · have e2 : p.2 = .lst l := by
      obtain ⟨b, e, r', _⟩ := W.own p hp
      by_cases q : p = (i, Own.lst l)
      · rw [q]
      · exact absurd e (by rw [hpi]; exact fun z => (pw_ne (R := fun p q => ∀ a, σ[p.1]? = some (some (.ref a)) → σ[q.1]? ≠ some (some (.ref a))) (fun a b f x e1 e2 => f x e2 e1) W.apart hp hm q) b (by rw [hpi]; exact z) z)
    rw [e2]
    have hx : (i, Own.lst l) ∈ ω := hm
    refine ⟨a, by rw [hpi]; exact ha, ⟨but_same, vs, W'.g.s a _ f', r.mono x⟩, .inl ⟨_, hm, ha⟩⟩
  · obtain ⟨b, e, n, r'⟩ := own' p (mem_odel.mpr ⟨hp, hpi⟩)
    exact ⟨b, e, r', .inl ⟨p, hp, e⟩⟩
end
section
variable {X : Cx} {ρ ρ' : Rho} {ω ω' ω1 : Om} {e a b tg it cnd : Expr} {body : List Stmt} {d x y z : D} {pos p p1 p2 tpos apos cpos : Pos} {T : Post} {i : Nat} {n : Str} {l l2 : List D}
theorem ev_view {te : TE} (hm : (i, Own.lst l) ∈ ω) (hc : calmO (odel ω i)) (hd : nolst d = true) (h : EvP X.w te (ρ.set i (some (.lst l))) (odel ω i) (odel ω i) d) : EvP X.w te ρ ω ω d := fun B F H σ W Q k => by
  obtain ⟨a, ha, ⟨fr, vs, hv, r⟩, _⟩ := W.own _ hm
  refine h _ _ _ _ (W.view hm ha hv r) Q fun v F' H' W' q => k v (but F' a) H' (W.unview hm ha hv r hc W') (q.but (W'.g.f a _ (by show upd F a (.lst vs) a = _; rw [upd_same])) hd)
theorem et_view {tt : TT} {k : Bool} (hm : (i, Own.lst l) ∈ ω) (hc : calmO (odel ω i)) (h : EvT X.w tt (ρ.set i (some (.lst l))) (odel ω i) (odel ω i) k) : EvT X.w tt ρ ω ω k := fun B F H σ W Q q => by
  obtain ⟨a, ha, ⟨fr, vs, hv, r⟩, _⟩ := W.own _ hm
  exact h _ _ _ _ (W.view hm ha hv r) Q fun F' H' W' => q (but F' a) H' (W.unview hm ha hv r hc W')
theorem calm_nil : calmO [] := fun p hp => nomatch hp
/-- found[k], list(found) -/
theorem de_ixOwn {j : Int} (i : Nat) (hm : (i, Own.lst l) ∈ ω) (hj : L2.atI l j = some z) (hb : DE X ρ ω ω b (.int j)) (hN : X.N[i]? = some n := by rfl) (hv : Vis X.env.scope n := by first | exact Or.inl rfl | exact Or.inr (Or.inl rfl) | exact Or.inr (Or.inr rfl)) (hs : PlainIx b := by exact fun _ _ => rfl)
    (h1 : (n == ("__debug__" : Str)) = false := by decide) (h2 : (n == ("__classdict__" : Str)) = false := by decide) : DE X ρ ω ω (.Subscript (.Name n p1) b pos) z :=
  de_of (pe_ix ix_list (pe_var hN hv h1 h2) sem_e hs) fun B F H σ W Q k => by
    obtain ⟨a, ha, _, _⟩ := W.own _ hm
    refine ⟨_, ha, hb.go W fun u F1 H1 W1 _ _ r1 => ?_⟩
    cases r1
    obtain ⟨a', ha', ⟨fr, vs, hv, r⟩, _⟩ := W1.own _ hm
    rw [ha] at ha'; cases ha'
    obtain ⟨v, e, q⟩ := r.atI hj
    exact ⟨a, vs, j, v, rfl, rfl, SqL.of hv, e, k _ F1 H1 W1 q⟩
theorem do_listOwn (i : Nat) (hm : (i, Own.lst l) ∈ ω) (hmg : X.mg "list" = none) (hg : Gl X "list") (hN : X.N[i]? = some n := by rfl) (hv : Vis X.env.scope n := by first | exact Or.inl rfl | exact Or.inr (Or.inl rfl) | exact Or.inr (Or.inr rfl))
    (h1 : (n == ("__debug__" : Str)) = false := by decide) (h2 : (n == ("__classdict__" : Str)) = false := by decide) (hs : starEach [.Name n p1] X.env = (false, eval (.Name n p1) X.env) :: starEach [] X.env := by rfl) : DO X ρ ω ω (.Call (.Name "list" p) [.Name n p1] [] pos) (.lst l) :=
  do_of (pe_callTy call_list_of hg hmg (by decide +kernel) (pa_cons (pe_var hN hv h1 h2) pa_nil hs) (by decide) (by decide) hs (by rfl)) fun B F H σ W Q k => by
    obtain ⟨a, ha, ⟨fr, vs, hv, r⟩, _⟩ := W.own _ hm
    exact ⟨_, ha, a, vs, rfl, .inl (SqL.of hv), fun q hq => k _ _ _ (W.laid hq) (newAt W hq ⟨(W.g.fresh hq).2.2, _, upd_same, r⟩)⟩
/-- found.append(e) -/
theorem ds_append (i : Nat) (hm : (i, Own.lst l) ∈ ω) (h : DE X ρ ω ω e d) (hz : l.length < 100000) (k : T.nx ρ (oset ω i (.lst (l ++ [d])))) (hN : X.N[i]? = some n := by rfl) (hv : Vis X.env.scope n := by first | exact Or.inl rfl | exact Or.inr (Or.inl rfl) | exact Or.inr (Or.inr rfl))
    (h1 : (n == ("__debug__" : Str)) = false := by decide) (h2 : (n == ("__classdict__" : Str)) = false := by decide) (hs : starEach [e] X.env = (false, eval e X.env) :: starEach [] X.env := by rfl)
    (hbase : attributeBase (.Name n p1) "append" X.env (eval (.Name n p1) X.env) = eval (.Name n p1) X.env := by rfl)
    (hfew : ((backTo cpos (starEach [e] X.env)).all (fun x => !x.1) && (backToKw cpos (keywordEach [] X.env)).all (fun x => x.1.isSome) && decide ([e].length + ([] : List Keyword).length + (if ([] : List Keyword).isEmpty then 0 else 1) < 30)) = true := by rfl)
    (hline : (apos.endLine == cpos.line) = true := by rfl) (hplain : (backTo cpos (starEach [] X.env)).any (·.1) = false := by rfl)
    (hsw : swapsWith (.Call (.Attribute (.Name n p1) "append" apos) [e] [] cpos) none pos.line X.env = pure false := by rfl) : DS X ρ ω (.Expr (.Call (.Attribute (.Name n p1) "append" apos) [e] [] cpos) pos) T :=
  ds_of (ps_expr (pe_bm PySem.F.plainAttrs_list PySem.F.slot_list_append PySem.F.type_list_append mt_append (pe_var hN hv h1 h2) (pa_cons sem_e pa_nil hs) hbase hfew hline hs hplain) hsw) fun B F H σ Dn W M => by
    obtain ⟨a, ha, ⟨fr, vs, hv, r⟩, _⟩ := W.own _ hm
    refine ⟨_, ha, .inl ⟨rfl, vs, SqL.of hv⟩, h.go W fun v F1 H1 W1 _ _ r1 => ?_⟩
    obtain ⟨a', ha', ⟨fr', vs', hv', r'⟩, _⟩ := W1.own _ hm
    rw [ha] at ha'; cases ha'
    exact ⟨a, vs', v, rfl, rfl, hv', by rw [r'.length]; exact sz' hz, M.nx _ _ F1 _ σ k (W1.change hm ha ⟨fr', vs' ++ [v], upd_same, r'.snoc r1⟩)⟩
/-- found.extend(e) -/
theorem ds_extend (i : Nat) (hm : (i, Own.lst l) ∈ ω) (h : DE X ρ ω ω e (.lst l2)) (hz : l.length + l2.length ≤ 100000) (k : T.nx ρ (oset ω i (.lst (l ++ l2)))) (hN : X.N[i]? = some n := by rfl) (hv : Vis X.env.scope n := by first | exact Or.inl rfl | exact Or.inr (Or.inl rfl) | exact Or.inr (Or.inr rfl))
    (h1 : (n == ("__debug__" : Str)) = false := by decide) (h2 : (n == ("__classdict__" : Str)) = false := by decide) (hs : starEach [e] X.env = (false, eval e X.env) :: starEach [] X.env := by rfl)
    (hbase : attributeBase (.Name n p1) "extend" X.env (eval (.Name n p1) X.env) = eval (.Name n p1) X.env := by rfl)
    (hfew : ((backTo cpos (starEach [e] X.env)).all (fun x => !x.1) && (backToKw cpos (keywordEach [] X.env)).all (fun x => x.1.isSome) && decide ([e].length + ([] : List Keyword).length + (if ([] : List Keyword).isEmpty then 0 else 1) < 30)) = true := by rfl)
    (hline : (apos.endLine == cpos.line) = true := by rfl) (hplain : (backTo cpos (starEach [] X.env)).any (·.1) = false := by rfl)
    (hsw : swapsWith (.Call (.Attribute (.Name n p1) "extend" apos) [e] [] cpos) none pos.line X.env = pure false := by rfl) : DS X ρ ω (.Expr (.Call (.Attribute (.Name n p1) "extend" apos) [e] [] cpos) pos) T :=
  ds_of (ps_expr (pe_bm PySem.F.plainAttrs_list PySem.F.slot_list_extend PySem.F.type_list_extend mt_extend (pe_var hN hv h1 h2) (pa_cons sem_e pa_nil hs) hbase hfew hline hs hplain) hsw) fun B F H σ Dn W M => by
    obtain ⟨a, ha, ⟨fr, vs, hv, r⟩, _⟩ := W.own _ hm
    refine ⟨_, ha, .inl ⟨rfl, vs, SqL.of hv⟩, h.go W fun v F1 H1 W1 _ _ r1 => ?_⟩
    obtain ⟨a', ha', ⟨fr', vs', hv', r'⟩, _⟩ := W1.own _ hm
    rw [ha] at ha'; cases ha'
    cases r1 with
    | lst hb q =>
      exact ⟨a, _, vs', _, rfl, rfl, hv', W1.g.s _ _ hb, by rw [r'.length, q.length]; exact sz hz, M.nx _ _ F1 _ σ k (W1.change hm ha ⟨fr', _, upd_same, r'.append q⟩)⟩
/-- return found -/
theorem ds_retOwn (i : Nat) (hm : (i, Own.lst l) ∈ ω) (k : T.ro (.lst l)) (hN : X.N[i]? = some n := by rfl) (hv : Vis X.env.scope n := by first | exact Or.inl rfl | exact Or.inr (Or.inl rfl) | exact Or.inr (Or.inr rfl))
    (h1 : (n == ("__debug__" : Str)) = false := by decide) (h2 : (n == ("__classdict__" : Str)) = false := by decide) : DS X ρ ω (.Return (some (.Name n p1)) pos) T :=
  ds_of (ps_ret (pe_var hN hv h1 h2)) fun B F H σ Dn W M => by
    obtain ⟨a, ha, oa, hB⟩ := W.own _ hm
    exact ⟨_, ha, M.ro _ ρ ω F H σ _ H k W ⟨a, rfl, oa, hB, rfl⟩⟩
/-- return a new list -/
theorem ds_retNew (h : DO X ρ ω ω1 e (.lst l)) (k : T.ro (.lst l)) : DS X ρ ω (.Return (some e) pos) T :=
  ds_of (ps_ret sem_e) fun B F H σ Dn W M => h.go W fun a F1 H1 W1 _ _ _ N => M.ro _ ρ ω1 F1 H1 σ _ H1 k W1 ⟨a, rfl, N.at_, .inr N.b, rfl⟩
/-- a, b = e1, e2: the first new and owned -/
theorem ds_two {e1 e2 : Expr} {x1 x2 : Str} {q1 q2 : Pos} {i1 i2 k1 k2 : Nat} {ω2 : Om} (hc : X.calm = true) (h1 : DO X ρ ω ω1 e1 (.lst l)) (h2 : ∀ ω', ω' = ω1 → DE X ρ ω1 ω1 e2 d) (k : T.nx ((ρ.set i1 none).set i2 (some d)) ((i1, .lst l) :: ω1)) (hl : i1 < ρ.length) (hij : i1 ≠ i2) (hN : X.N.Nodup)
    (hω1 : ∀ p ∈ ω1, p.1 ≠ i1 := by first | exact nil_om | simp) (hω2 : ∀ p ∈ ω1, p.1 ≠ i2 := by first | exact nil_om | simp)
    (hi1 : X.N[i1]? = some x1 := by rfl) (hi2 : X.N[i2]? = some x2 := by rfl) (hx1 : Loc X.env.scope x1 := by first | exact Or.inl rfl | exact Or.inr rfl) (hx2 : Loc X.env.scope x2 := by first | exact Or.inl rfl | exact Or.inr rfl)
    (hf1 : X.fn x1 = true ∨ X.env.scope.names.lookup x1 = some .local := by first | exact .inl rfl | exact .inr rfl) (hf2 : X.fn x2 = true ∨ X.env.scope.names.lookup x2 = some .local := by first | exact .inl rfl | exact .inr rfl)
    (hs1 : starEach [e1, e2] X.env = (false, eval e1 X.env) :: starEach [e2] X.env := by rfl) (hs2 : starEach [e2] X.env = (false, eval e2 X.env) :: starEach [] X.env := by rfl)
    (hs : swapsWithSole [.Tuple [.Name x1 q1, .Name x2 q2] k1 p1] (.Tuple [e1, e2] k2 p2) pos.line X.env = pure false := by rfl) (hw : swappedStores [.Tuple [.Name x1 q1, .Name x2 q2] k1 p1] (.Tuple [e1, e2] k2 p2) X.env = pure none := by rfl) :
    DS X ρ ω (.Assign [.Tuple [.Name x1 q1, .Name x2 q2] k1 p1] (.Tuple [e1, e2] k2 p2) pos) T := by
  refine ds_of (ps_asg (pe_tup (pa_cons sem_e (pa_cons sem_e pa_nil hs2) hs1)) (pg_tup (n := 2) hc (pgs_cons (pg_name hN hi1 hx1 hf1) (pgs_cons (pg_name hN hi2 hx2 hf2) pgs_nil)) (by rfl) (by rfl)) hs hw (by rfl)) fun B F H σ Dn W M => ?_
  refine h1.go W fun a F1 H1 W1 x1' k1' n1 N1 => ?_
  refine (h2 _ rfl).go W1 fun v F2 H2 W2 x2' k2' r2 => ⟨by show 2 ≤ sizeLine; decide, fun t ht => ?_⟩
  -- the first thing is still new
  have nO : ¬ owned σ ω1 a := N1.no
  obtain ⟨fr, vs, hv, r⟩ := N1.at_
  have hv2 : H2 a = some (.lst vs) := k2'.h _ _ hv nO
  have fr2 : F2 a = none := k2'.n _ (by rw [hv]; simp) fr
  have N2 : NewAt X.w B F2 H2 σ ω1 a (.lst l) := ⟨⟨fr2, vs, hv2, r.mono x2'⟩, N1.b, N1.nm, nO⟩
  have nat : a ≠ t := fun z => by rw [z, ht] at hv2; cases hv2
  have W3 := W2.laid (o := .tup [.ref a, v]) ht
  have N3 : NewAt X.w B F2 (upd H2 t (.tup [.ref a, v])) σ ω1 a (.lst l) := ⟨⟨fr2, vs, by rw [upd_ne nat]; exact hv2, r.mono x2'⟩, N1.b, N1.nm, nO⟩
  refine ⟨t, [.ref a, v], rfl, SqT.of upd_same, rfl, _, _, rfl, _, _, rfl, rfl, ?_⟩
  have W4 := W3.setO N3 (by rw [W.len]; exact hl) hω1
  exact M.nx _ _ F2 _ _ k (W4.set r2 (fun p hp => by
    rcases List.mem_cons.mp hp with e | hp
    · subst e; exact hij
    · exact hω2 p hp))
end
end G

/-! G9 -/
set_option Elab.async false
set_option linter.all false
set_option maxRecDepth 100000
set_option maxHeartbeats 1000000
namespace G
open PySem L2
/-! ## 12. Dicts whose keys are nested tuples -/
section
variable {P : Program} {w : World} {F H : Hp} {h : Heap}
mutual
/-- data as a key that the heap holds -/
theorem Rp.nested (ok : HOk P w H h) (x : Ex F H) : ∀ {d : D} {v : V} {u : Value}, keyish d = true → Rp w F d v → RelV v u → NestedIs h (nk d) u
  | _, _, u, _, .non, r => by
    obtain rfl : u = Value.none := r
    exact .none
  | _, _, u, _, .int i, r => by
    obtain ⟨t, rfl⟩ : ∃ t, u = Value.int i t := r
    exact .int i t
  | .bl _, _, _, p, _, _ => by cases p
  | .str _, _, _, p, _, _ => by cases p
  | .fn _, _, _, p, _, _ => by cases p
  | .tup l, .ref a, u, p, .tup h1 q, r => by
    obtain rfl : u = Value.ref a := r
    obtain ⟨_, its, vs, o, e1, e2, n, e3⟩ := ok a _ (x _ _ h1)
    exact .tup e1 e2 e3 (by rw [List.toList_toArray]; exact RpL.nested ok x p q vs)
  | .lst _, _, _, p, _, _ => by cases p
  | .dI _, _, _, p, _, _ => by cases p
  | .dT _ _, _, _, p, _, _ => by cases p
  | .fz _ _, _, _, p, _, _ => by cases p
theorem RpL.nested (ok : HOk P w H h) (x : Ex F H) : ∀ {l : List D} {vs : List V} {us : List Value}, keyishs l = true → RpL w F l vs → Vals vs us → NestedAll h (nks l) us
  | _, _, _, _, .nil, .nil => .nil
  | d :: l, _, _, p, .cons r t, .cons ru tu => by
    have p' : (keyish d && keyishs l) = true := p
    rw [Bool.and_eq_true] at p'
    exact .cons (Rp.nested ok x p'.1 r ru) (RpL.nested ok x p'.2 t tu)
end
end
/-- the tuple at a is the key k -/
def KeyAt (w : World) (H : Hp) (k : NestedKey) (a : Addr) : Prop := ∃ F d, Ex F H ∧ Rp w F d (.ref a) ∧ keyish d = true ∧ nk d = k ∧ k.depth ≤ 8
theorem KeyAt.is {P : Program} {w : World} {H : Hp} {h : Heap} {k : NestedKey} {a : Addr} (x : KeyAt w H k a) (ok : HOk P w H h) : (nestedKind P w).is h k a := by
  obtain ⟨F, d, e, r, p, rfl, z⟩ := x
  exact ⟨Rp.nested ok e p r rfl, z⟩
theorem KeyAt.mono {w : World} {H H' : Hp} {k : NestedKey} {a : Addr} (x : KeyAt w H k a) (e : Ex H H') : KeyAt w H' k a := by
  obtain ⟨F, d, e1, r⟩ := x
  exact ⟨F, d, ex_trans e1 e, r⟩
abbrev Es := List (NestedKey × Addr × V)
/-- d[k] = v -/
def putN (es : Es) (k : NestedKey) (a : Addr) (v : V) : Es := if es.any (fun e => decide (e.1 = k)) then es.map (fun e => if e.1 = k then (e.1, e.2.1, v) else e) else es ++ [(k, a, v)]
def atN' (es : Es) (k : NestedKey) : Option (Addr × V) := (es.find? fun e => decide (e.1 = k)).map (·.2)
section
variable {P : Program} {w : World} {F H : Hp} {h : Heap} {d : Addr} {es : Es}
theorem nd_of (ok : HOk P w H h) (e : H d = some (NdO w d es)) : NdR w h d es := by
  obtain ⟨x, _⟩ := ok d _ e
  exact x
theorem nd_frz {o : Obj} (ok : HOk P w H h) (e : H d = some (.frz o (NdO w d es))) : h.get? d = some o ∧ NdR w h d es := by
  obtain ⟨y, x, _⟩ := ok d _ e
  exact ⟨y, x⟩
theorem paired_mem {α β : Type} {R : α → β → Prop} : ∀ {l : List α} {l' : List β}, Paired R l l' → ∀ b ∈ l', ∃ a ∈ l, R a b
  | _, _, .nil, _, h => by simp at h
  | _, _, .cons r t, b, h => by
    rcases List.mem_cons.mp h with e | h
    · subst e; exact ⟨_, List.mem_cons_self, r⟩
    · obtain ⟨a, h1, h2⟩ := paired_mem t b h
      exact ⟨a, List.mem_cons_of_mem _ h1, h2⟩
/-- told as the library's rules ask -/
theorem NdR.toH (x : NdR w h d es) (hk : ∀ e ∈ es, (nestedKind P w).is h e.1 e.2.1) : ∃ xs, Paired relN es xs ∧ h.DictOfH (nestedKind P w) d xs := by
  obtain ⟨o, arr, ep, xs, h1, h2, h3, h4, h5⟩ := x.ex
  refine ⟨xs, h4, o, arr, ep, h1, h2, h3, h5, fun y hy => ?_, ?_⟩
  · obtain ⟨e, he, r1, r2, _⟩ := paired_mem h4 y hy
    rw [← r1, ← r2]
    exact hk e he
  · have : xs.map (·.1) = es.map (·.1) := by
      clear h5 h3 h1 hk x
      induction h4 with
      | nil => rfl
      | cons r t ih => rw [List.map_cons, List.map_cons, ih, r.1]
    rw [this]
    exact x.nd
theorem relN_any {k : NestedKey} : ∀ {es : Es} {xs : List (NestedKey × Addr × Value)}, Paired relN es xs → (es.any fun e => decide (e.1 = k)) = (atKey xs k).isSome
  | _, _, .nil => rfl
  | _, _, .cons (a := e) (b := x) r t => by
    have ih := relN_any (k := k) t
    unfold atKey at ih ⊢
    rw [List.any_cons, List.find?_cons, r.1]
    by_cases q : x.1 = k
    · simp [q]
    · simp [q, ih]
theorem relN_map {k : NestedKey} {v : V} {u : Value} (rv : RelV v u) : ∀ {es : Es} {xs : List (NestedKey × Addr × Value)}, Paired relN es xs → Paired relN (es.map fun e => if e.1 = k then (e.1, e.2.1, v) else e) (xs.map (putAt k u))
  | _, _, .nil => .nil
  | _, _, .cons (a := e) (b := x) r t => by
    refine .cons ?_ (relN_map rv t)
    unfold putAt
    have r1 := r.1
    show relN (if e.1 = k then (e.1, e.2.1, v) else e) _
    by_cases q : x.1 = k
    · rw [if_pos q, if_pos (r1.trans q)]; exact ⟨r1, r.2.1, rv⟩
    · rw [if_neg q, if_neg (fun z => q (r1.symm.trans z))]; exact r
theorem relN_put {k : NestedKey} {a : Addr} {v : V} {u : Value} (rv : RelV v u) {es : Es} {xs : List (NestedKey × Addr × Value)} (p : Paired relN es xs) : Paired relN (putN es k a v) (storedH xs k a u) := by
  unfold putN storedH
  rw [relN_any p]
  split
  · exact relN_map rv p
  · exact p.snoc ⟨rfl, rfl, rv⟩
theorem relN_at {k : NestedKey} {q : Addr × V} : ∀ {es : Es} {xs : List (NestedKey × Addr × Value)}, Paired relN es xs → atN' es k = some q → ∃ p, atKey xs k = some p ∧ RelV q.2 p.2
  | _, _, .nil, e => by simp [atN'] at e
  | _, _, .cons (a := e0) (b := x) r t, e => by
    unfold atN' at e
    unfold atKey
    rw [List.find?_cons] at e ⊢
    rw [r.1] at e
    by_cases z : x.1 = k
    · simp only [z, decide_true, Option.map_some, Option.some.injEq] at e ⊢
      subst e
      exact ⟨_, rfl, r.2.2⟩
    · simp only [z, decide_false] at e ⊢
      exact relN_at t e
theorem putN_keys {k : NestedKey} {a : Addr} {v : V} : (putN es k a v).map (·.1) = if k ∈ es.map (·.1) then es.map (·.1) else es.map (·.1) ++ [k] := by
  have e : (es.any fun e => decide (e.1 = k)) = true ↔ k ∈ es.map (·.1) := by
    rw [List.any_eq_true, List.mem_map]
    constructor
    · rintro ⟨x, h1, h2⟩; exact ⟨x, h1, of_decide_eq_true h2⟩
    · rintro ⟨x, h1, h2⟩; exact ⟨x, h1, decide_eq_true h2⟩
  unfold putN
  by_cases z : k ∈ es.map (·.1)
  · rw [if_pos (e.mpr z), if_pos z, List.map_map]
    refine List.map_congr_left fun x _ => ?_
    show (if x.1 = k then (x.1, x.2.1, v) else x).1 = x.1
    split <;> rfl
  · rw [if_neg (fun y => z (e.mp y)), if_neg z, List.map_append]
    rfl
theorem putN_length {k : NestedKey} {a : Addr} {v : V} : (putN es k a v).length ≤ es.length + 1 := by
  unfold putN
  split
  · rw [List.length_map]; omega
  · rw [List.length_append]; exact Nat.le_refl _
theorem ndr_put {k : NestedKey} {a : Addr} {v : V} {u : Value} {h' : Heap} {xs : List (NestedKey × Addr × Value)} (x : NdR w h d es) (p : Paired relN es xs) (rv : RelV v u) (hz : es.length < 100000) (hm : h'.DictOfH (nestedKind P w) d (storedH xs k a u)) : NdR w h' d (putN es k a v) := by
  obtain ⟨o, arr, ep, h1, h2, h3, h4, _, h6⟩ := hm
  have pp := relN_put (k := k) (a := a) rv p
  refine ⟨⟨o, arr, ep, _, h1, h2, h3, pp, h4⟩, ?_, x.sys, by have := putN_length (es := es) (k := k) (a := a) (v := v); omega⟩
  have nd := x.nd
  rw [putN_keys]
  split
  · exact nd
  · rename_i z
    exact List.nodup_append.mpr ⟨nd, by simp, fun a ha b hb e => z (by simp at hb; rw [← hb, ← e]; exact ha)⟩
theorem ndo_new {h' : Heap} (x : NdR w h' d es) : ObjOk P w H h' d (NdO w d es) := by
  refine ⟨x, ?_, fun h1 h2 y k => ?_⟩
  · obtain ⟨o, _, _, _, h1, _⟩ := x.ex; exact ⟨o, h1⟩
  · obtain ⟨o, arr, ep, xs, e1, e2⟩ := y.ex
    exact ⟨⟨o, arr, ep, xs, k o e1, e2⟩, y.nd, y.sys, y.big⟩
theorem nd_empty (h : Heap) (hb : sysModules < h.objs.size) : ObjOk P w H (h.push { cls := .type "dict", data := .dict #[] }) h.objs.size (NdO w h.objs.size []) :=
  ndo_new ⟨⟨_, #[], 0, [], Heap.get?_push_size _ rfl, ⟨rfl, rfl, rfl⟩, rfl, .nil, rfl⟩, List.nodup_nil, by
    rw [beq_eq_false_iff_ne]; exact Nat.ne_of_gt hb, Nat.zero_le _⟩
end
section
variable {X : Cx} {pins : List (Addr × Obj)} {σ : St} {H : Hp} {s : Shared} {E : Value → Shared → Prop} {d a : Addr} {es : Es} {k : NestedKey} {v : V} {u : Value}
theorem nd_keys (I : Inv X pins σ H s) (hk : ∀ e ∈ es, KeyAt X.w H e.1 e.2.1) : ∀ e ∈ es, (nestedKind X.prog X.w).is s.heap e.1 e.2.1 := fun e he => (hk e he).is I.hok
/-- d[k] = v -/
theorem nd_set {Q : Unit → Shared → Prop} (I : Inv X pins σ H s) (hu : X.A.units + 16 < cLine) (hD : H d = some (NdO X.w d es)) (hk : ∀ e ∈ es, KeyAt X.w H e.1 e.2.1) (ka : KeyAt X.w H k a) (rv : RelV v u) (hz : es.length < 100000)
    (h : ∀ s', Inv X pins σ (upd H d (NdO X.w d (putN es k a v))) s' → Q () s') : wpAny (model X.prog X.w) X.A (dictSet d (.ref a) u) Q E s := by
  have x := nd_of I.hok hD
  obtain ⟨xs, p, hm⟩ := x.toH (nd_keys I hk)
  have hl : xs.length ≤ sizeLine := by rw [← p.length]; exact sz (by omega)
  refine wpAny_dictSet_heap (hsz := hl) (show X.A.units + 8 < cLine by omega) (ka.is I.hok) hm fun h' hm' hs => h _ ?_
  have he : ∃ q, h'.get? d = some q := let ⟨q, _, _, hq, _⟩ := hm'; ⟨q, hq⟩
  exact d_write I (by rw [hD]; exact True.intro) hs he (ndo_new (ndr_put x p rv hz hm'))
theorem nd_setItem {A : Around} {Q : Unit → Shared → Prop} (I : Inv X pins σ H s) (hu : A.units + 16 < cLine) (hD : H d = some (NdO X.w d es)) (hk : ∀ e ∈ es, KeyAt X.w H e.1 e.2.1) (ka : KeyAt X.w H k a) (rv : RelV v u) (hz : es.length < 100000)
    (h : ∀ s', Inv X pins σ (upd H d (NdO X.w d (putN es k a v))) s' → Q () s') : wpAny (model X.prog X.w) A (setItem (.ref d) (.ref a) u) Q E s := by
  have x := nd_of I.hok hD
  obtain ⟨xs, p, hm⟩ := x.toH (nd_keys I hk)
  have hl : xs.length ≤ sizeLine := by rw [← p.length]; exact sz (by omega)
  refine wpAny_setItem_heap (hsz := hl) (show A.in1.units + 8 < cLine by show A.units + 1 + 8 < cLine; omega) (ka.is I.hok) hm fun h' hm' hs => h _ ?_
  have he : ∃ q, h'.get? d = some q := let ⟨q, _, _, hq, _⟩ := hm'; ⟨q, hq⟩
  exact d_write I (by rw [hD]; exact True.intro) hs he (ndo_new (ndr_put x p rv hz hm'))
/-- d[k] of a locked dict -/
theorem nd_getItem {A : Around} {o : Obj} {q : Addr × V} {Q : Value → Shared → Prop} (I : Inv X pins σ H s) (hu : A.units + 16 < cLine) (hD : H d = some (.frz o (NdO X.w d es))) (hk : ∀ e ∈ es, KeyAt X.w H e.1 e.2.1) (ka : KeyAt X.w H k a) (hv : atN' es k = some q)
    (h : ∀ u s', Inv X pins σ H s' → RelV q.2 u → Q u s') : wpAny (model X.prog X.w) A (getItem (.ref d) (.ref a)) Q E s := by
  obtain ⟨_, x⟩ := nd_frz I.hok hD
  obtain ⟨xs, p, hm⟩ := x.toH (nd_keys I hk)
  obtain ⟨y, hy, ry⟩ := relN_at p hv
  exact wpAny_getItem_heap (show A.in1.units + 8 < cLine by show A.units + 1 + 8 < cLine; omega) (ka.is I.hok) hm hy (h _ _ (I.tok _) ry)
end
end G

/-! G10 -/
set_option Elab.async false
set_option linter.all false
set_option maxRecDepth 100000
set_option maxHeartbeats 1000000
namespace G
open PySem L2
/-! ## 13. {k: True for x in xs}, the keys nested tuples -/
def addK (ks : List D) (k : D) : List D := if ks.any (fun q => decide (nk q = nk k)) then ks else ks ++ [k]
def ddK (l : List D) : List D := l.foldl addK []
theorem ddK_snoc (l : List D) (k : D) : ddK (l ++ [k]) = addK (ddK l) k := by unfold ddK; rw [List.foldl_append]; rfl
theorem addK_mem {ks : List D} {k x : D} (h : x ∈ addK ks k) : x ∈ ks ∨ x = k := by
  unfold addK at h
  split at h
  · exact .inl h
  · rcases List.mem_append.mp h with h | h
    · exact .inl h
    · exact .inr (by simpa using h)
theorem ddK_mem {x : D} : ∀ {l acc : List D}, x ∈ l.foldl addK acc → x ∈ acc ∨ x ∈ l
  | [], _, h => .inl h
  | k :: l, acc, h => by
    rcases ddK_mem (l := l) (acc := addK acc k) h with h | h
    · rcases addK_mem h with h | h
      · exact .inl h
      · exact .inr (by rw [h]; exact List.mem_cons_self)
    · exact .inr (List.mem_cons_of_mem _ h)
theorem ddK_len : ∀ {l acc : List D}, (l.foldl addK acc).length ≤ acc.length + l.length
  | [], acc => by simp
  | k :: l, acc => by
    have h := ddK_len (l := l) (acc := addK acc k)
    have h2 : (addK acc k).length ≤ acc.length + 1 := by
      unfold addK; split
      · omega
      · simp
    rw [List.foldl_cons, List.length_cons]; omega
def tru (ks : List D) : List D := ks.map fun _ => D.bl true

/-- the reading: no test, the value True -/
def tNc (w : World) (wi : TI) (g : TG) (tk : TE) (vs : List Nat) : TE := fun σ H Q => wi σ H fun J H1 => ∀ D, H1 D = none → ∃ W : Nat → Nat → Hp → Prop, (∃ m, W 0 m (upd H1 D (NdO w D []))) ∧ ∀ i m H, W i m H →
  (J.stop i H ∧ Q (.ref D) H) ∨ (J.go i H ∧ ∃ Nx : Hp → Prop, (∀ H', Nx H' → ∃ m', m' < m ∧ W (i + 1) m' H') ∧ ∀ x H', J.yld i H x H' → g x (wipe σ vs) H' fun σ2 H2 => wipe σ2 vs = wipe σ vs ∧
    tk σ2 H2 fun y H4 => ∃ es a k, y = .ref a ∧ H4 D = some (NdO w D es) ∧ (∀ e ∈ es, KeyAt w H4 e.1 e.2.1) ∧ KeyAt w H4 k a ∧ es.length < 100000 ∧ Nx (upd H4 D (NdO w D (putN es k a (.bl true)))))
/-- at the head of a turn of the block's loop: some i items are out -/
def AtHead (Y : Cx) (τ : St) (fp : List Addr) (tn : Nat → Heap → Prop) (W : Nat → Nat → Hp → Prop) (m : Nat) (s : Shared) : Prop := ∃ i H, (Inv Y [] τ H s ∧ tn i s.heap) ∧ (∀ b ∈ fp, H b = none) ∧ W i m H
section
variable {X : Cx} {pins : List (Addr × Obj)} {σ : St} {H3 : Hp} {s3 : Shared} {scope : Scope} {ce : Env} {fp : List Addr} {tg kx : Expr} {it D : Addr} {J : It} {tn : Nat → Heap → Prop} {W : Nat → Nat → Hp → Prop} {vs : List Nat}
/-- the iterator's own objects, in the block -/
theorem blk_fp {τ : St} {H : Hp} {t : Shared} (I : Inv (X.blk s3 H3 scope ce fp) [] τ H t) (n : ∀ b ∈ fp, H b = none) : ∀ b ∈ fp, FpOk (X.blk s3 H3 scope ce fp) [] H b := fun b hb =>
  let ⟨ne, apart⟩ := I.ok.exf b hb
  ⟨n b hb, ne, I.ok.exfs b hb, .inl hb, apart, fun p hp => (List.not_mem_nil (show p ∈ ([] : List (Addr × Obj)) from hp)).elim⟩
/-- a turn is over: what was pinned stands -/
theorem turn_over {τ : St} {H : Hp} {t t' : Shared} {i m : Nat} (T : Turn X.prog X.w X.K tg J fp it tn) (st : tn i t.heap) (I : Inv (X.blk s3 H3 scope ce fp) ([] ++ pinsAt fp t.heap) τ H t') (hw : wipe τ vs = wipe σ vs) (w : W i m H) :
    AtHead (X.blk s3 H3 scope ce fp) (wipe σ vs) fp tn W m t' := by
  have pinned : ∀ b ∈ fp, ∀ o, t.heap.get? b = some o → t'.heap.get? b = some o ∧ H b = none := fun b hb o e => by
    obtain ⟨y, z, _⟩ := I.pin (b, o) (by simp [mem_pinsAt hb e])
    exact ⟨y, z⟩
  refine ⟨i, H, ⟨?_, T.keep i _ _ st fun b hb o e => (pinned b hb o e).1⟩, fun b hb => ?_, w⟩
  · refine Inv.weak (σ := τ) I.unpinned ?_ fun j v e => ?_
    · rw [← hw, wipe_length]
    · exact (wipe_some (hw ▸ e)).1
  · obtain ⟨o, e, _⟩ := T.obj i _ st b hb
    exact (pinned b hb o e).2
/-- the loop is over: out of the block -/
theorem loop_over {τ : St} {H : Hp} {t : Shared} (I3 : Inv X pins σ H3 s3) (f3 : ∀ b ∈ fp, FpOk X pins H3 b) (cL : ce.locals = s3.heap.objs.size) (I : Inv (X.blk s3 H3 scope ce fp) [] τ H t) : Inv X pins σ H t ∧ (∃ m, t.heap.Ns s3.heap.objs.size m) ∧ FpOk X pins H s3.heap.objs.size := by
  have gone : H s3.heap.objs.size = none := cL ▸ (show H ce.locals = none from I.free)
  obtain ⟨m, ns, _⟩ := I.loc
  refine ⟨I3.call' (ch := fp) I.os I.base I.hok I.bare fun b hb => ?_, ⟨m, cL ▸ (show t.heap.Ns ce.locals m from ns)⟩, I3.fpOk (Nat.le_refl _) gone⟩
  obtain ⟨_, p1, _, p2, p3, p4⟩ := f3 b hb
  exact ⟨p2, p1, p3, p4⟩
/-- the block's loop -/
theorem nc_loop {g : TG} {tk : TE} {j m0 : Nat} {pos vpos : Pos} {iter : Expr} {Q : VK} {R : Result → Shared → Prop} {s4 : Shared} (hc : X.calm = true) (hu : X.A.units + 16 < cLine) (I3 : Inv X pins σ H3 s3) (T : Turn X.prog X.w X.K tg J fp it tn) (f3 : ∀ b ∈ fp, FpOk X pins H3 b) (cL : ce.locals = s3.heap.objs.size)
    (pg : PG (X.blk s3 H3 scope ce fp) tg g) (pk : PE (X.blk s3 H3 scope ce fp) kx tk) (h0 : AtHead (X.blk s3 H3 scope ce fp) (wipe σ vs) fp tn W m0 s4)
    (turn : ∀ i m H, W i m H → (J.stop i H ∧ Q (.ref D) H) ∨ (J.go i H ∧ ∃ Nx : Hp → Prop, (∀ H', Nx H' → ∃ m', m' < m ∧ W (i + 1) m' H') ∧ ∀ x H', J.yld i H x H' → g x (wipe σ vs) H' fun σ2 H2 => wipe σ2 vs = wipe σ vs ∧
      tk σ2 H2 fun y H4 => ∃ es a k, y = .ref a ∧ H4 D = some (NdO X.w D es) ∧ (∀ e ∈ es, KeyAt X.w H4 e.1 e.2.1) ∧ KeyAt X.w H4 k a ∧ es.length < 100000 ∧ Nx (upd H4 D (NdO X.w D (putN es k a (.bl true))))))
    (out : ∀ t m H, Inv X pins σ H t → Q (.ref D) H → t.heap.Ns s3.heap.objs.size m → FpOk X pins H s3.heap.objs.size → R (.ok .next) t) :
    codeAny (model X.prog X.w) X.A (.compLoop (.DictComp kx (.Constant (.bool true) j vpos) [⟨tg, iter, [], 0⟩] scope pos) 0 (.ref it) (.ref D) ce) R s4 := by
  refine compLoop_anyD (AtHead (X.blk s3 H3 scope ce fp) (wipe σ vs) fp tn W) (fun m t ⟨i, H, ⟨I, st⟩, n, w⟩ => ?_) m0 h0
  rcases turn i m H w with ⟨stop, q⟩ | ⟨go, Nx, next, step⟩
  · refine thnF (T.done (X.blk s3 H3 scope ce fp) rfl rfl rfl hc i [] t _ H (fun _ _ => False) I (blk_fp I n) st stop) fun r t1 ⟨hr, I1⟩ => ?_
    subst hr
    obtain ⟨Io, ⟨m, ns⟩, fo⟩ := loop_over I3 f3 cL I1
    exact out t1 m H Io q ns fo
  · refine thnF (T.item (X.blk s3 H3 scope ce fp) rfl rfl rfl hc i [] t _ H (fun _ _ => False) I (blk_fp I n) st go) fun r t1 ⟨u, hr, it1⟩ => ?_
    subst hr
    refine thnF it1 fun _ t2 ⟨x, H2, I2, rx, y, st2, n2⟩ => ?_
    refine thnF (pg.run _ t2 _ H2 x u _ (I2.pinned (blk_fp I2 n2) (T.obj _ _ st2)) rx (step x H2 y)) fun _ t3 ⟨τ, Ha, Ia, hw, qk⟩ => ?_
    refine thnF ((pts_nil (X := X.blk s3 H3 scope ce fp)).run _ t3 τ Ha (fun b H' => b = true ∧ H' = Ha) Ia ⟨rfl, rfl⟩) fun b t4 ⟨Hb, Ib, eb, eH⟩ => ?_
    subst eb eH
    rw [if_pos rfl]
    refine thnF (pk.run _ t4 τ Hb _ Ib qk) fun z t5 ⟨zv, Hc, Ic, rz, es, a, k, ek, hD, keys, key, big, nx⟩ => ?_
    subst ek
    have rz : z = Value.ref a := rz
    subst rz
    refine thnF ((pe_bl (X := X.blk s3 H3 scope ce fp)).run _ t5 τ Hc (fun v H' => v = .bl true ∧ H' = Hc) Ic ⟨rfl, rfl⟩) fun z2 t6 ⟨v, Hd, Id, rv, ev, eH⟩ => ?_
    subst ev eH
    obtain ⟨m', lt, w'⟩ := next _ nx
    exact nd_set (X := X.blk s3 H3 scope ce fp) Id hu hD keys key rv big fun t7 I7 => ⟨m', lt, turn_over T st2 I7 hw w'⟩
theorem nc_core {s : Shared} {H : Hp} {Q : VK} {iter : Expr} {own : List (Str × Nat)} {pos pos' vpos : Pos} {j : Nat} {wi : TI} {g : TG} {tk : TE} {use : Option (Value → Sem Unit)} {Qf : Value → Shared → Prop}
    (hc : X.calm = true) (hu : X.A.units + 16 < cLine) (hN : X.N.Nodup) (I : Inv X pins σ H s) (hi : PI X tg iter wi) (ok : BlkOk X.N X.env.scope scope own)
    (hg : ∀ (s : Shared) (H : Hp) (C : Addr) (cl : List (Str × Addr)) (fp : List Addr), PG (X.blk s H scope (compEnvC scope cl C X.env) fp) tg g)
    (hk : ∀ (s : Shared) (H : Hp) (C : Addr) (cl : List (Str × Addr)) (fp : List Addr), PE (X.blk s H scope (compEnvC scope cl C X.env) fp) kx tk) (hs : ∀ x, foldedSetIterable iter X.env x = pure x)
    (h : tNc X.w wi g tk (own.map (·.2)) σ H Q)
    (out : ∀ D C t m H', Inv X pins σ H' t → Q (.ref D) H' → t.heap.Ns C m → FpOk X pins H' C → compPost (model X.prog X.w) X.A X.xe use Qf (.ref D) C (.ok .next) t) :
    wpAny (model X.prog X.w) X.A (comprehension (.DictComp kx (.Constant (.bool true) j vpos) [⟨tg, iter, [], 0⟩] scope pos) scope X.env pos' newDict false (eval iter X.env) use) Qf X.xe s := by
  have clo := closure_ok (env := X.env) (scope := scope) fun y hy e => I.ok.has _ ((ok.free y hy e).imp id id)
  refine wpAny_comprehension_free (use := use) rfl hs clo ok.kind (fun y hy e => by rw [ok.uniq y hy, e]) (thn (hi.run pins s σ H _ I h) fun xv s1 hx => thn hx fun itv s2 h2 => wpAny_newObj_type (newEnv_comp ?_))
  obtain ⟨it, fp, tn, J, H2, rfl, I2, T, st2, f2, q⟩ := h2
  obtain ⟨W, ⟨m0, w0⟩, turn⟩ := q s2.heap.objs.size (I2.hok.fresh (Nat.le_refl _))
  have I3 := I2.laid (t' := s2.toks) (h' := s2.heap.push { cls := .type "dict", data := .dict #[] }) (fun b o e => Heap.get?_push_of_some _ e) (Nat.le_refl _) (nd_empty s2.heap I2.big)
  have low : ∀ b ∈ fp, b < s2.heap.objs.size := fun b hb => let ⟨_, e, _⟩ := T.obj 0 _ st2 b hb; Heap.lt_size e
  have f3 : ∀ b ∈ fp, FpOk X pins (upd H2 s2.heap.objs.size (NdO X.w s2.heap.objs.size [])) b := fun b hb => ⟨(upd_ne (Nat.ne_of_lt (low b hb))).trans (f2 b hb).1, (f2 b hb).2⟩
  have I4 := block_start I3 ok hN fun b hb => ⟨f3 b hb, by rw [Heap.size_push]; exact Nat.lt_succ_of_lt (low b hb)⟩
  have st4 := T.keep 0 _ _ st2 fun b _ o e => pushCells_keeps scope.names _ _ _ (Heap.get?_push_of_some { cls := .type "dict", data := .dict #[] } (Heap.get?_push_of_some { cls := .type "dict", data := .dict #[] } e))
  exact codeAny_compStart_dict (nc_loop hc hu I3 T f3 rfl (hg ..) (hk ..) ⟨0, _, ⟨I4, st4⟩, fun b hb => (f3 b hb).1, w0⟩ turn fun t m H' => out _ _ t m H') (T.self X.A 0 _ _ _ st4 (nc_loop hc hu I3 T f3 rfl (hg ..) (hk ..) ⟨0, _, ⟨I4, st4⟩, fun b hb => (f3 b hb).1, w0⟩ turn fun t m H' => out _ _ t m H'))
/-- the block's own dict is let go -/
theorem let_go {H : Hp} {t : Shared} {C : Addr} {h' : Heap} (I : Inv X pins σ H t) (f : FpOk X pins H C) (sb : Heap.SameBut C t.heap h') : Inv X pins σ H { t with heap := h' } :=
  let ⟨z, z1, _, z2, z3, z4⟩ := f
  I.turned (t' := t.toks) (fun b _ ne e => (sb.2 b ne).trans e) z z1 z2 z3 z4
/-- y = what stands at L, behind a block -/
theorem set_behind {H : Hp} {t : Shared} {C L : Addr} {m : Str → Option Value} {y : Str} {i : Nat} {py : Pos} {R : Shared → Prop} (hN : X.N.Nodup) (hy : X.N[i]? = some y) (hyl : X.env.scope.names.lookup y = some .local) (I : Inv X pins σ H t) (f : FpOk X pins H C) (ns : t.heap.Ns C m)
    (done : ∀ t', Inv X pins (σ.set i (some (.ref L))) H t' → R t') : wpAny (model X.prog X.w) X.A (assign (.Name y py) X.env (.ref L)) (fun _ t' => ∃ m, t'.heap.Ns C m ∧ ∀ h', Heap.SameBut C t'.heap h' → R { t' with heap := h' }) X.xe t :=
  wpAny_assign_Name (store_ok2 (v := V.ref L) I hN hy (.inl hyl) rfl (fun t' I' ⟨a, sb, at_⟩ =>
    have ne : C ≠ a := at_.elim (fun e => e ▸ f.2.1) fun e q => f.2.2.2.2.1 y a e q.symm
    ⟨m, ns.sameBut sb ne, fun h' sb' => done _ (let_go I' f sb')⟩) (.inr hyl))
end
end G

/-! G11 -/
set_option Elab.async false
set_option linter.all false
set_option maxRecDepth 100000
set_option maxHeartbeats 1000000
namespace G
open PySem L2
/-! ## 14. .. in data -/
/-- the entries es stand for the keys ks and the values xs -/
structure EsR (w : World) (F : Hp) (ks xs : List D) (es : Es) : Prop where
  k : es.map (·.1) = ks.map nk
  a : RpL w F ks (es.map fun e => V.ref e.2.1)
  v : RpL w F xs (es.map (·.2.2))
theorem EsR.mono {w : World} {F F' : Hp} {ks xs : List D} {es : Es} (r : EsR w F ks xs es) (x : Ex F F') : EsR w F' ks xs es := ⟨r.k, r.a.mono x, r.v.mono x⟩
theorem EsR.len {w : World} {F : Hp} {ks xs : List D} {es : Es} (r : EsR w F ks xs es) : es.length = ks.length := by have := congrArg List.length r.k; simpa using this
theorem keyed_mem {w : World} {F : Hp} : ∀ {ks : List D} {es : Es}, es.map (·.1) = ks.map nk → RpL w F ks (es.map fun e => V.ref e.2.1) → ∀ e ∈ es, ∃ d ∈ ks, nk d = e.1 ∧ Rp w F d (.ref e.2.1)
  | _, [], _, _, e, h => by simp at h
  | d :: ks, e0 :: es, hk, .cons r t, e, h => by
    rw [List.map_cons, List.map_cons] at hk
    obtain ⟨h1, h2⟩ := List.cons.inj hk
    rcases List.mem_cons.mp h with q | h
    · subst q; exact ⟨d, List.mem_cons_self, h1.symm, r⟩
    · obtain ⟨d', a, b⟩ := keyed_mem h2 t e h
      exact ⟨d', List.mem_cons_of_mem _ a, b⟩
/-- what can be a key here -/
def kOk (d : D) : Prop := keyish d = true ∧ (nk d).depth ≤ 8
theorem EsR.keys {w : World} {F H : Hp} {ks xs : List D} {es : Es} (r : EsR w F ks xs es) (x : Ex F H) (hk : ∀ d ∈ ks, kOk d) : ∀ e ∈ es, KeyAt w H e.1 e.2.1 := fun e he => by
  obtain ⟨d, hd, e1, r1⟩ := keyed_mem r.k r.a e he
  exact ⟨F, d, x, r1, (hk d hd).1, e1, by rw [← e1]; exact (hk d hd).2⟩
theorem RpL.tru {w : World} {F : Hp} : ∀ {ks : List D} {vs : List V}, RpL w F (G.tru ks) vs → ∀ v ∈ vs, v = .bl true
  | [], _, .nil, v, h => by simp at h
  | _ :: ks, _, .cons r t, v, h => by
    rcases List.mem_cons.mp h with e | h
    · cases r; exact e
    · exact RpL.tru (ks := ks) t v h
theorem es_any {ks : List D} {es : Es} {k : D} (hk : es.map (·.1) = ks.map nk) : (es.any fun e => decide (e.1 = nk k)) = ks.any fun q => decide (nk q = nk k) := by
  have e1 : (es.any fun e => decide (e.1 = nk k)) = (es.map (·.1)).any fun q => decide (q = nk k) := by rw [List.any_map]; rfl
  have e2 : (ks.any fun q => decide (nk q = nk k)) = (ks.map nk).any fun q => decide (q = nk k) := by rw [List.any_map]; rfl
  rw [e1, e2, hk]
theorem map_same {α : Type} (f : α → α) : ∀ (l : List α), (∀ x ∈ l, f x = x) → l.map f = l
  | [], _ => rfl
  | x :: l, h => by rw [List.map_cons, h x List.mem_cons_self, map_same f l fun y hy => h y (List.mem_cons_of_mem _ hy)]
theorem EsR.putTrue {w : World} {F : Hp} {ks : List D} {es : Es} {k : D} {a : Addr} (r : EsR w F ks (tru ks) es) (rk : Rp w F k (.ref a)) : EsR w F (addK ks k) (tru (addK ks k)) (putN es (nk k) a (.bl true)) := by
  have any := es_any (k := k) r.k
  unfold addK putN
  rw [any]
  split
  · have e : (es.map fun e => if e.1 = nk k then (e.1, e.2.1, V.bl true) else e) = es := map_same _ _ fun e he => by
      show (if e.1 = nk k then (e.1, e.2.1, V.bl true) else e) = e
      split
      · have : e.2.2 = .bl true := r.v.tru e.2.2 (List.mem_map.mpr ⟨e, he, rfl⟩)
        obtain ⟨e1, e2, e3⟩ := e
        rw [show e3 = V.bl true from this]
      · rfl
    rw [e]
    exact r
  · refine ⟨?_, ?_, ?_⟩
    · rw [List.map_append, List.map_append, r.k]; rfl
    · rw [List.map_append]; exact r.a.snoc rk
    · rw [List.map_append]
      unfold tru
      rw [List.map_append]
      exact r.v.snoc (.bl true)
theorem EsR.putNew {w : World} {F : Hp} {ks xs : List D} {es : Es} {k d : D} {a : Addr} {v : V} (r : EsR w F ks xs es) (rk : Rp w F k (.ref a)) (rv : Rp w F d v) (hn : nk k ∉ ks.map nk) : EsR w F (ks ++ [k]) (xs ++ [d]) (putN es (nk k) a v) := by
  have any : (es.any fun e => decide (e.1 = nk k)) = false := by
    rw [es_any r.k, List.any_eq_false]
    exact fun x hx e => hn (List.mem_map.mpr ⟨x, hx, of_decide_eq_true e⟩)
  unfold putN
  rw [any]
  refine ⟨?_, ?_, ?_⟩
  · rw [if_neg Bool.false_ne_true, List.map_append, List.map_append, r.k]; rfl
  · rw [if_neg Bool.false_ne_true, List.map_append]; exact r.a.snoc rk
  · rw [if_neg Bool.false_ne_true, List.map_append]; exact r.v.snoc rv
/-- tuples -/
def isTup : D → Bool
  | .tup _ => true
  | _ => false
theorem Rp.addr {w : World} {F : Hp} {d : D} {v : V} (r : Rp w F d v) (h : isTup d = true) : ∃ a, v = .ref a := by
  cases r with
  | tup h1 q => exact ⟨_, rfl⟩
  | _ => cases h
theorem sw_trueD {kx vx : Expr} {gs : List Comprehension} {scope : Scope} {pos py : Pos} {y : Str} {l : Nat} {env : Env} (hk : env.scope.kind = .function) (hy : env.scope.names.lookup y = some .local) (hl : (py.line == pos.line) = true)
    (ha : (scope.names.any fun (n, k) => n == y && (k == .local || k == .cell)) = false) : swapsWith (.DictComp kx vx gs scope pos) (some (.Name y py)) l env = pure true := by
  have ky : env.kindOf y = some .local := hy
  have hb : env.blockKind = .function := by unfold Env.blockKind; rw [hk]; rfl
  unfold swapsWith
  simp only [hb, ky, ha, Expr.pos, hl]
  rfl
section
variable {X : Cx} {ρ : Rho} {ω ω1 : Om} {kx tg it : Expr} {scope : Scope} {own : List (Str × Nat)} {pos vpos : Pos} {xs : List D} {j : Nat}
theorem ev_nc {f : D → D} (hi : DI X ρ ω ω1 tg it xs) (hω : ∀ p ∈ ω1, p.1 ∉ own.map (·.2)) (hz : xs.length ≤ 100000) (hky : ∀ d ∈ xs, kOk (f d) ∧ isTup (f d) = true)
    (hs : ∀ d, d ∈ xs → ∃ ρ' js, (∀ j ∈ js, j ∈ own.map (·.2)) ∧ Blk X scope (fun Y => DG Y tg d (wipeR ρ (own.map (·.2))) ρ' ω1 js) ∧ Blk X scope (fun Y => DE Y ρ' ω1 ω1 kx (f d))) :
    EvO X.w (tNc X.w (semI X tg it) (blkG X scope tg) (blkE X scope kx) (own.map (·.2))) ρ ω ω1 (.dct (ddK (xs.map f)) (tru (ddK (xs.map f)))) := by
  intro B F H σ W Q k
  refine hi.go W fun J F1 H1 W1 _ _ Y Dl hD => ?_
  obtain ⟨bH, bM, bF⟩ := W1.g.fresh hD
  have kall : ∀ i, ∀ d ∈ ddK ((xs.take i).map f), kOk d := fun i d hd => by
    rcases ddK_mem hd with h | h
    · simp at h
    · obtain ⟨x, hx, rfl⟩ := List.mem_map.mp h
      exact (hky x (List.mem_of_mem_take hx)).1
  refine ⟨fun i m H' => m = xs.length - i ∧ i ≤ xs.length ∧ ∃ F' es, Wd X.w B F' H' σ ρ ω1 ∧ Ex F1 F' ∧ H' Dl = some (NdO X.w Dl es) ∧ F' Dl = none ∧ EsR X.w F' (ddK ((xs.take i).map f)) (tru (ddK ((xs.take i).map f))) es,
    ⟨xs.length, by simp, Nat.zero_le _, F1, [], W1.laid hD, ex_refl _, upd_same, bF, ⟨rfl, .nil, .nil⟩⟩, ?_⟩
  have noOwn : ¬ owned σ ω1 Dl := fun z => W1.ne hD z rfl
  rintro i m H2 ⟨rfl, hle, F2, es, W2, x2, hes, fD, res⟩
  by_cases hlt : i < xs.length
  · refine .inr ⟨Y.go i F2 H2 x2 W2.g.s hlt, fun H' => ∃ F' es, Wd X.w B F' H' σ ρ ω1 ∧ Ex F1 F' ∧ H' Dl = some (NdO X.w Dl es) ∧ F' Dl = none ∧ EsR X.w F' (ddK ((xs.take (i + 1)).map f)) (tru (ddK ((xs.take (i + 1)).map f))) es,
      fun H' q => ⟨xs.length - (i + 1), by omega, rfl, hlt, q⟩, fun v H3 hy => ?_⟩
    have Ww := W2.wipe hω
    obtain ⟨F3, d, hd3, W3, x3, k3, r3⟩ := Y.yld B F2 H2 _ _ ω1 i v H3 Ww x2 hlt hy
    have hdm : d ∈ xs := List.mem_of_getElem? hd3
    obtain ⟨ρ4, js, hjs, hg, hk⟩ := hs d hdm
    have sw : ∀ j, j ∉ own.map (·.2) → (L2.wipe σ (own.map (·.2)))[j]? = σ[j]? := fun j hj => wipe_out hj
    have keepD : ∀ {σ' : St}, (∀ j, j ∉ own.map (·.2) → σ'[j]? = σ[j]?) → ¬ owned σ' ω1 Dl := fun {σ'} hσ ⟨p, hp, e⟩ => W1.ne hD ⟨p, hp, (hσ _ (hω p hp)).symm.trans e⟩ rfl
    have d3 : H3 Dl = some (NdO X.w Dl es) := k3.h _ _ hes (keepD sw)
    have f3 : F3 Dl = none := k3.n _ (by rw [hes]; simp) fD
    intro s0 H0 C0 cl0 fp0
    refine hg s0 H0 C0 cl0 fp0 B F3 H3 _ v W3 r3 _ fun σ4 W4 l4 k4 => ?_
    have s4 : ∀ j, j ∉ own.map (·.2) → σ4[j]? = σ[j]? := fun j hj => (k4 j fun z => hj (hjs j z)).trans (sw j hj)
    refine ⟨wipe_eq (l4.trans (wipe_length _ _)) s4, ?_⟩
    intro s1 H1' C1 cl1 fp1
    refine (hk s1 H1' C1 cl1 fp1).go W4 fun u F6 H6 W6 x6 k6 r6 => ?_
    have d6 : H6 Dl = some (NdO X.w Dl es) := k6.h _ _ d3 (keepD s4)
    have f6 : F6 Dl = none := k6.n _ (by rw [d3]; simp) f3
    have x26 : Ex F2 F6 := ex_trans x3 x6
    obtain ⟨a, rfl⟩ := r6.addr (hky d hdm).2
    have rs6 := res.mono x26
    have ln : es.length < 100000 := by
      have h1 := res.len
      have h2 := ddK_len (l := (xs.take i).map f) (acc := [])
      unfold ddK at h1
      rw [List.length_map, List.length_take] at h2
      simp only [List.length_nil] at h2
      omega
    refine ⟨es, a, nk (f d), rfl, d6, rs6.keys W6.g.s (kall i), ⟨F6, f d, W6.g.s, r6, (hky d hdm).1.1, rfl, (hky d hdm).1.2⟩, ln, F6, _, (W2.unwipe W6 x26 s4 hω).updN bH bM f6 noOwn, ex_trans x2 x26, upd_same, f6, ?_⟩
    rw [take_next hd3, List.map_append, List.map_cons, List.map_nil, ddK_snoc]
    exact rs6.putTrue r6
  · have e : i = xs.length := by omega
    subst e
    rw [List.take_length] at res
    exact .inl ⟨Y.stop _ F2 H2 x2 W2.g.s (Nat.le_refl _), k Dl F2 H2 W2 ⟨⟨fD, es, hes, res.k, res.a, res.v⟩, bH, bM, noOwn⟩⟩
/-- a new dict, locked, as data -/
theorem DO.dataD {e : Expr} {ks xs : List D} (h : DO X ρ ω ω1 e (.dct ks xs)) : DE X ρ ω ω1 e (.dT ks xs) := fun B F H σ W Q k pins s I => by
  refine thn (h B F H σ W (fun v H' => ∃ a F', v = .ref a ∧ Wd X.w B F' H' σ ρ ω1 ∧ NewAt X.w B F' H' σ ω1 a (.dct ks xs)) (fun a F' H' W' N => ⟨a, F', rfl, W', N⟩) pins s I) fun u s1 ⟨v, H', I', r, a, F', e, W', N⟩ => ?_
  subst e
  obtain ⟨fr, es, hh, e1, r1, r2⟩ := N.at_
  obtain ⟨od, I2⟩ := I'.lock hh True.intro
  refine ⟨.ref a, _, I2, r, k _ _ _ (W'.frz N) (.dT upd_same rfl rfl e1 (r1.mono (ex_new fr)) (r2.mono (ex_new fr)))⟩
theorem do_dc {f : D → D} (hc : X.calm = true) (hu : X.A.units + 16 < cLine) (hN : X.N.Nodup) (hi : DI X ρ ω ω1 tg it xs) (ok : BlkOk X.N X.env.scope scope own) (hω : ∀ p ∈ ω1, p.1 ∉ own.map (·.2)) (hz : xs.length ≤ 100000) (hky : ∀ d ∈ xs, kOk (f d) ∧ isTup (f d) = true)
    (hs : ∀ d, d ∈ xs → ∃ ρ' js, (∀ j ∈ js, j ∈ own.map (·.2)) ∧ Blk X scope (fun Y => DG Y tg d (wipeR ρ (own.map (·.2))) ρ' ω1 js) ∧ Blk X scope (fun Y => DE Y ρ' ω1 ω1 kx (f d))) (hf : ∀ x, foldedSetIterable it X.env x = pure x := by intro _; rfl) :
    DO X ρ ω ω1 (.DictComp kx (.Constant (.bool true) j vpos) [⟨tg, it, [], 0⟩] scope pos) (.dct (ddK (xs.map f)) (tru (ddK (xs.map f)))) := by
  refine do_of (te := tNc X.w (semI X tg it) (blkG X scope tg) (blkE X scope kx) (own.map (·.2))) ⟨fun pins s σ H Q I h => ?_⟩ (ev_nc hi hω hz hky hs)
  rw [arm_eval_DictComp]
  exact nc_core hc hu hN I sem_i ok blk_g blk_e hf h fun D C t m H' I' q ns f => ⟨m, ns, fun h' sb => ⟨.ref D, H', let_go I' f sb, rfl, q⟩⟩
/-- y = {..} on one line: the dict, locked, is y's data -/
theorem ds_setDc {T : Post} {f : D → D} {i : Nat} {y : Str} {py spos : Pos} (hc : X.calm = true) (hu : X.A.units + 16 < cLine) (hN : X.N.Nodup) (hi : DI X ρ ω ω1 tg it xs) (ok : BlkOk X.N X.env.scope scope own) (hω' : ∀ p ∈ ω1, p.1 ∉ own.map (·.2)) (hz : xs.length ≤ 100000) (hky : ∀ d ∈ xs, kOk (f d) ∧ isTup (f d) = true)
    (hs : ∀ d, d ∈ xs → ∃ ρ' js, (∀ j ∈ js, j ∈ own.map (·.2)) ∧ Blk X scope (fun Y => DG Y tg d (wipeR ρ (own.map (·.2))) ρ' ω1 js) ∧ Blk X scope (fun Y => DE Y ρ' ω1 ω1 kx (f d)))
    (k : T.nx (ρ.set i (some (.dT (ddK (xs.map f)) (tru (ddK (xs.map f)))))) ω1) (hy : X.N[i]? = some y := by rfl) (hyl : X.env.scope.names.lookup y = some .local := by rfl) (hω : ∀ p ∈ ω1, p.1 ≠ i := by first | exact nil_om | simp)
    (hsw : swapsWith (.DictComp kx (.Constant (.bool true) j vpos) [⟨tg, it, [], 0⟩] scope pos) (some (.Name y py)) spos.line X.env = pure true := by exact sw_trueD rfl rfl rfl (by decide +kernel)) (hf : ∀ x, foldedSetIterable it X.env x = pure x := by intro _; rfl) :
    DS X ρ ω (.Assign [.Name y py] (.DictComp kx (.Constant (.bool true) j vpos) [⟨tg, it, [], 0⟩] scope pos) spos) T := by
  refine fun B F H σ Dn W M pins s I => ?_
  rw [exec_Assign_Name_used _ _ _ _ hsw]
  refine wpAny_bind (wpAny_standAt (wpAny_bind ?_))
  show wpAny _ X.A (do let _ ← comprehension (.DictComp kx (.Constant (.bool true) j vpos) [⟨tg, it, [], 0⟩] scope pos) scope X.env (firstIterPos [⟨tg, it, [], 0⟩] pos) newDict false (eval it X.env) (some (assign (.Name y py) X.env))) _ _ s
  have h := ev_nc hi hω' hz hky hs B F H σ W (fun v H' => ∃ a F', v = .ref a ∧ Wd X.w B F' H' σ ρ ω1 ∧ NewAt X.w B F' H' σ ω1 a (.dct (ddK (xs.map f)) (tru (ddK (xs.map f))))) fun a F' H' W' N => ⟨a, F', rfl, W', N⟩
  refine wpAny_bind (thn (nc_core (Qf := fun _ s' => SP X pins Dn .next s') hc hu hN I sem_i ok blk_g blk_e hf h fun L C s' m H' I' q hn fk => ?_) fun _ s' hq => wpAny_pure (wpAny_pure hq))
  obtain ⟨a, F', e, W', N⟩ := q
  cases e
  obtain ⟨fr, es, hh, e1, r1, r2⟩ := N.at_
  obtain ⟨od, I2⟩ := I'.lock hh True.intro
  have W2 := W'.frz (u := .frz od (NdO X.w L es)) N
  have rd : Rp X.w (upd F' L (.frz od (NdO X.w L es))) (.dT (ddK (xs.map f)) (tru (ddK (xs.map f)))) (.ref L) := .dT upd_same rfl rfl e1 (r1.mono (ex_new fr)) (r2.mono (ex_new fr))
  obtain ⟨f0, ff⟩ := fk
  have ne : C ≠ L := fun z => by rw [← z, f0] at hh; cases hh
  exact set_behind hN hy hyl I2 ⟨(upd_ne ne).trans f0, ff⟩ hn fun t' I3 => ⟨_, _, I3, M.nx _ _ _ _ _ k (W2.set rd hω)⟩
end
end G

/-! G12 -/
set_option Elab.async false
set_option linter.all false
set_option maxRecDepth 100000
set_option maxHeartbeats 1000000
namespace G
open PySem L2
/-! ## 15. {n: True for x in xs}, the keys ints -/
def addI (ks : List Int) (k : Int) : List Int := if k ∈ ks then ks else ks ++ [k]
def ddI (l : List Int) : List Int := l.foldl addI []
theorem ddI_snoc (l : List Int) (k : Int) : ddI (l ++ [k]) = addI (ddI l) k := by unfold ddI; rw [List.foldl_append]; rfl
theorem addI_len (ks : List Int) (k : Int) : (addI ks k).length ≤ ks.length + 1 := by
  unfold addI; split
  · omega
  · simp
theorem ddI_len' : ∀ {l acc : List Int}, (l.foldl addI acc).length ≤ acc.length + l.length
  | [], acc => by simp
  | k :: l, acc => by
    have h := ddI_len' (l := l) (acc := addI acc k)
    have h2 := addI_len acc k
    rw [List.foldl_cons, List.length_cons]; omega
theorem putK_keys {kvs : List (Key × V)} {ks : List Int} {k : Int} {v : V} (h : kvs.map (·.1) = ks.map Sum.inl) : (putK kvs (Sum.inl k) v).map (·.1) = (addI ks k).map Sum.inl := by
  have e : (kvs.any fun kv => decide (kv.1 = Sum.inl k)) = true ↔ k ∈ ks := by
    rw [List.any_eq_true]
    constructor
    · rintro ⟨x, h1, h2⟩
      have : x.1 ∈ kvs.map (·.1) := List.mem_map.mpr ⟨x, h1, rfl⟩
      rw [h, of_decide_eq_true h2] at this
      obtain ⟨y, hy, e⟩ := List.mem_map.mp this
      cases e; exact hy
    · intro hk
      have : (Sum.inl k : Key) ∈ kvs.map (·.1) := by rw [h]; exact List.mem_map.mpr ⟨k, hk, rfl⟩
      obtain ⟨x, hx, e⟩ := List.mem_map.mp this
      exact ⟨x, hx, decide_eq_true e⟩
  unfold putK addI
  by_cases z : k ∈ ks
  · rw [if_pos (e.mpr z), if_pos z, ← h, List.map_map]
    refine List.map_congr_left fun x _ => ?_
    show (if x.1 = Sum.inl k then (x.1, v) else x).1 = x.1
    split <;> rfl
  · rw [if_neg (fun y => z (e.mp y)), if_neg z, List.map_append, List.map_append, h]
    rfl
section
variable {w : World} {B : Base} {F H : Hp} {σ : St} {ρ : Rho} {ω : Om}
/-- something new is frozen -/
theorem Wd.frz0 {a : Addr} {u : HO} (W : Wd w B F H σ ρ ω) (fr : F a = none) (hb : B.H a = none) (nm : ¬ B.M a) (no : ¬ owned σ ω a) : Wd w B (upd F a u) (upd H a u) σ ρ ω where
  g := {
    f := ex_trans W.g.f (ex_new fr)
    h := fun b x hm e => by
      have q : b ≠ a := fun z => by rw [z, hb] at e; cases e
      rw [upd_ne q]; exact W.g.h b x hm e
    s := fun b x e => by
      by_cases q : b = a
      · subst q; rw [upd_same] at e ⊢; exact e
      · rw [upd_ne q] at e ⊢; exact W.g.s b x e
    n := fun b h1 h2 => by
      have q : b ≠ a := fun z => h1 (by rw [z]; exact hb)
      rw [upd_ne q]; exact W.g.n b h1 h2
    m := fun b hm => by
      have q : b ≠ a := fun z => nm (by rw [← z]; exact hm)
      rw [upd_ne q, upd_ne q]; exact W.g.m b hm }
  len := W.len
  dat := fun i d e => let ⟨v, e1, r⟩ := W.dat i d e; ⟨v, e1, r.mono (ex_new fr)⟩
  own := fun q hq => by
    obtain ⟨b, e, x, y⟩ := W.own q hq
    have n : b ≠ a := fun z => no (by rw [← z]; exact ⟨q, hq, e⟩)
    exact ⟨b, e, x.mono (ex_new fr) (upd_ne n) (by rw [upd_ne n]; exact x.fr), y⟩
  apart := W.apart
end
/-- a new dict of ints, not locked -/
def NewI (w : World) (B : Base) (σ : St) (ρ : Rho) (ω : Om) (ks : List Int) (v : V) (H : Hp) : Prop := ∃ a F kvs, v = .ref a ∧ Wd w B F H σ ρ ω ∧ H a = some (.dK kvs) ∧ F a = none ∧ B.H a = none ∧ ¬ B.M a ∧ ¬ owned σ ω a ∧ kvs.map (·.1) = ks.map Sum.inl
section
variable {X : Cx} {ρ : Rho} {ω ω1 : Om} {kx tg it : Expr} {scope : Scope} {own : List (Str × Nat)} {pos vpos : Pos} {xs : List D} {j : Nat}
theorem ev_dcI {f : D → Int} {B : Base} {F H : Hp} {σ : St} (W : Wd X.w B F H σ ρ ω) (hi : DI X ρ ω ω1 tg it xs) (hω : ∀ p ∈ ω1, p.1 ∉ own.map (·.2)) (hz : xs.length ≤ 100000)
    (hs : ∀ d, d ∈ xs → ∃ ρ' js, (∀ j ∈ js, j ∈ own.map (·.2)) ∧ Blk X scope (fun Y => DG Y tg d (wipeR ρ (own.map (·.2))) ρ' ω1 js) ∧ Blk X scope (fun Y => DE Y ρ' ω1 ω1 kx (.int (f d)))) :
    tDc (semI X tg it) (blkG X scope tg) (blkTs X scope []) (blkE X scope kx) (tC (.bl true)) (own.map (·.2)) σ H (NewI X.w B σ ρ ω1 (ddI (xs.map f))) := by
  refine hi.go W fun J F1 H1 W1 _ _ Y Dl hD => ?_
  obtain ⟨bH, bM, bF⟩ := W1.g.fresh hD
  refine ⟨fun i m H' => m = xs.length - i ∧ i ≤ xs.length ∧ ∃ F' kvs, Wd X.w B F' H' σ ρ ω1 ∧ Ex F1 F' ∧ H' Dl = some (.dK kvs) ∧ F' Dl = none ∧ kvs.map (·.1) = (ddI ((xs.take i).map f)).map Sum.inl,
    ⟨xs.length, by simp, Nat.zero_le _, F1, [], W1.laid hD, ex_refl _, upd_same, bF, rfl⟩, ?_⟩
  have noOwn : ¬ owned σ ω1 Dl := fun z => W1.ne hD z rfl
  rintro i m H2 ⟨rfl, hle, F2, kvs, W2, x2, hes, fD, res⟩
  by_cases hlt : i < xs.length
  · refine .inr ⟨Y.go i F2 H2 x2 W2.g.s hlt, fun H' => ∃ F' kvs, Wd X.w B F' H' σ ρ ω1 ∧ Ex F1 F' ∧ H' Dl = some (.dK kvs) ∧ F' Dl = none ∧ kvs.map (·.1) = (ddI ((xs.take (i + 1)).map f)).map Sum.inl,
      fun H' q => ⟨xs.length - (i + 1), by omega, rfl, hlt, q⟩, fun v H3 hy => ?_⟩
    have Ww := W2.wipe hω
    obtain ⟨F3, d, hd3, W3, x3, k3, r3⟩ := Y.yld B F2 H2 _ _ ω1 i v H3 Ww x2 hlt hy
    have hdm : d ∈ xs := List.mem_of_getElem? hd3
    obtain ⟨ρ4, js, hjs, hg, hk⟩ := hs d hdm
    have sw : ∀ j, j ∉ own.map (·.2) → (L2.wipe σ (own.map (·.2)))[j]? = σ[j]? := fun j hj => wipe_out hj
    have keepD : ∀ {σ' : St}, (∀ j, j ∉ own.map (·.2) → σ'[j]? = σ[j]?) → ¬ owned σ' ω1 Dl := fun {σ'} hσ ⟨p, hp, e⟩ => W1.ne hD ⟨p, hp, (hσ _ (hω p hp)).symm.trans e⟩ rfl
    have d3 : H3 Dl = some (.dK kvs) := k3.h _ _ hes (keepD sw)
    have f3 : F3 Dl = none := k3.n _ (by rw [hes]; simp) fD
    intro s0 H0 C0 cl0 fp0
    refine hg s0 H0 C0 cl0 fp0 B F3 H3 _ v W3 r3 _ fun σ4 W4 l4 k4 => ?_
    have s4 : ∀ j, j ∉ own.map (·.2) → σ4[j]? = σ[j]? := fun j hj => (k4 j fun z => hj (hjs j z)).trans (sw j hj)
    refine ⟨wipe_eq (l4.trans (wipe_length _ _)) s4, ?_⟩
    have ht : Blk X scope (fun Y => DTs Y ρ4 ω1 ω1 [] true) := fun _ _ _ _ _ => dts_nil
    intro s1 H1' C1 cl1 fp1
    refine (ht s1 H1' C1 cl1 fp1).go W4 fun F5 H5 W5 x5 k5 => ?_
    rw [if_pos rfl]
    have d5 : H5 Dl = some (.dK kvs) := k5.h _ _ d3 (keepD s4)
    have f5 : F5 Dl = none := k5.n _ (by rw [d3]; simp) f3
    intro s2 H2' C2 cl2 fp2
    refine (hk s2 H2' C2 cl2 fp2).go W5 fun u F6 H6 W6 x6 k6 r6 => ?_
    have d6 : H6 Dl = some (.dK kvs) := k6.h _ _ d5 (keepD s4)
    have f6 : F6 Dl = none := k6.n _ (by rw [d5]; simp) f5
    have x26 : Ex F2 F6 := ex_trans x3 (ex_trans x5 x6)
    cases r6
    have ln : kvs.length < 100000 := by
      have h1 := congrArg List.length res
      have h2 := ddI_len' (l := (xs.take i).map f) (acc := [])
      unfold ddI at h1
      rw [List.length_map, List.length_map] at h1
      rw [List.length_map, List.length_take] at h2
      simp only [List.length_nil] at h2
      omega
    refine ⟨kvs, Sum.inl (f d), rfl, d6, sz' ln, F6, _, (W2.unwipe W6 x26 s4 hω).updN bH bM f6 noOwn, ex_trans x2 x26, upd_same, f6, ?_⟩
    rw [take_next hd3, List.map_append, List.map_cons, List.map_nil, ddI_snoc]
    exact putK_keys res
  · have e : i = xs.length := by omega
    subst e
    rw [List.take_length] at res
    exact .inl ⟨Y.stop _ F2 H2 x2 W2.g.s (Nat.le_refl _), Dl, F2, kvs, rfl, W2, hes, fD, bH, bM, noOwn, res⟩
theorem NewI.data {B : Base} {σ : St} {ρ : Rho} {ω : Om} {ks : List Int} {v : V} {H : Hp} {pins : List (Addr × Obj)} {s : Shared} (N : NewI X.w B σ ρ ω ks v H) (I : Inv X pins σ H s) : ∃ F' H', Inv X pins σ H' s ∧ Wd X.w B F' H' σ ρ ω ∧ Rp X.w F' (.dI ks) v ∧ ∀ C, H C = none → H' C = none := by
  obtain ⟨a, F, kvs, rfl, W, hh, fr, b, nm, no, e⟩ := N
  obtain ⟨od, I2⟩ := I.lock hh True.intro
  exact ⟨_, _, I2, W.frz0 fr b nm no, .dI upd_same e, fun C hC => by rw [upd_ne (fun z => by rw [z, hh] at hC; cases hC)]; exact hC⟩
theorem blk_bl {b : Bool} : ∀ (s : Shared) (H : Hp) (C : Addr) (cl : List (Str × Addr)) (fp : List Addr), PE (X.blk s H scope (compEnvC scope cl C X.env) fp) (.Constant (.bool b) j vpos) (tC (.bl b)) := fun _ _ _ _ _ => pe_bl
theorem de_dcI {f : D → Int} (hc : X.calm = true) (hN : X.N.Nodup) (hi : DI X ρ ω ω1 tg it xs) (ok : BlkOk X.N X.env.scope scope own) (hω : ∀ p ∈ ω1, p.1 ∉ own.map (·.2)) (hz : xs.length ≤ 100000)
    (hs : ∀ d, d ∈ xs → ∃ ρ' js, (∀ j ∈ js, j ∈ own.map (·.2)) ∧ Blk X scope (fun Y => DG Y tg d (wipeR ρ (own.map (·.2))) ρ' ω1 js) ∧ Blk X scope (fun Y => DE Y ρ' ω1 ω1 kx (.int (f d)))) (hf : ∀ x, foldedSetIterable it X.env x = pure x := by intro _; rfl) :
    DE X ρ ω ω1 (.DictComp kx (.Constant (.bool true) j vpos) [⟨tg, it, [], 0⟩] scope pos) (.dI (ddI (xs.map f))) := fun B F H σ W Q k pins s I => by
  refine thn ((pe_dc (pos := pos) hc hN sem_i ok blk_g blk_ts blk_e blk_bl hf).run pins s σ H _ I (ev_dcI W hi hω hz hs)) fun u s1 ⟨v, H', I', r, N⟩ => ?_
  obtain ⟨F', H2, I2, W2, r2, _⟩ := N.data I'
  exact ⟨v, H2, I2, r, k v F' H2 W2 r2⟩
theorem ds_setDcI {T : Post} {f : D → Int} {i : Nat} {y : Str} {py spos : Pos} (hc : X.calm = true) (hN : X.N.Nodup) (hi : DI X ρ ω ω1 tg it xs) (ok : BlkOk X.N X.env.scope scope own) (hω' : ∀ p ∈ ω1, p.1 ∉ own.map (·.2)) (hz : xs.length ≤ 100000)
    (hs : ∀ d, d ∈ xs → ∃ ρ' js, (∀ j ∈ js, j ∈ own.map (·.2)) ∧ Blk X scope (fun Y => DG Y tg d (wipeR ρ (own.map (·.2))) ρ' ω1 js) ∧ Blk X scope (fun Y => DE Y ρ' ω1 ω1 kx (.int (f d))))
    (k : T.nx (ρ.set i (some (.dI (ddI (xs.map f))))) ω1) (hy : X.N[i]? = some y := by rfl) (hyl : X.env.scope.names.lookup y = some .local := by rfl) (hω : ∀ p ∈ ω1, p.1 ≠ i := by first | exact nil_om | simp)
    (hsw : swapsWith (.DictComp kx (.Constant (.bool true) j vpos) [⟨tg, it, [], 0⟩] scope pos) (some (.Name y py)) spos.line X.env = pure true := by exact sw_trueD rfl rfl rfl (by decide +kernel)) (hf : ∀ x, foldedSetIterable it X.env x = pure x := by intro _; rfl) :
    DS X ρ ω (.Assign [.Name y py] (.DictComp kx (.Constant (.bool true) j vpos) [⟨tg, it, [], 0⟩] scope pos) spos) T := by
  refine fun B F H σ Dn W M pins s I => ?_
  rw [exec_Assign_Name_used _ _ _ _ hsw]
  refine wpAny_bind (wpAny_standAt (wpAny_bind ?_))
  show wpAny _ X.A (do let _ ← comprehension (.DictComp kx (.Constant (.bool true) j vpos) [⟨tg, it, [], 0⟩] scope pos) scope X.env (firstIterPos [⟨tg, it, [], 0⟩] pos) newDict false (eval it X.env) (some (assign (.Name y py) X.env))) _ _ s
  have h := ev_dcI (kx := kx) (scope := scope) W hi hω' hz hs
  refine wpAny_bind (thn (dc_core (Qf := fun _ s' => SP X pins Dn .next s') hc hN I sem_i ok blk_g blk_ts blk_e blk_bl hf h fun L C s' m H' I' q hn fk => ?_) fun _ s' hq => wpAny_pure (wpAny_pure hq))
  obtain ⟨F', H2, I2, W2, rd, hC⟩ := q.data I'
  exact set_behind hN hy hyl I2 ⟨hC C fk.1, fk.2⟩ hn fun t' I3 => ⟨_, _, I3, M.nx _ _ _ _ _ k (W2.set rd hω)⟩
end

/-! ## 16. Dicts of tuples walked, read -/
/-- the keys of the locked dict at d -/
def ItN (w : World) (d : Addr) (o : Obj) (es : Es) : It :=
  ⟨fun i H => H d = some (.frz o (NdO w d es)) ∧ i < es.length, fun i H x H' => H' = H ∧ ∃ e, es[i]? = some e ∧ x = .ref e.2.1, fun i H => H d = some (.frz o (NdO w d es)) ∧ es.length ≤ i⟩
theorem nd_at {P : Program} {w : World} {H : Hp} {h : Heap} {d : Addr} {o : Obj} {es : Es} (ok : HOk P w H h) (e : H d = some (.frz o (NdO w d es))) :
    (d == sysModules) = false ∧ h.get? d = some o ∧ o.ExactDict ∧ ∃ arr ep, o.data = .dict arr ep ∧ arr.size = es.length ∧ ∀ (i : Nat) x, es[i]? = some x → ∃ en : DictEntry, arr[i]? = some en ∧ en.key = .ref x.2.1 := by
  obtain ⟨hg, x⟩ := nd_frz ok e
  obtain ⟨o', arr, ep, xs, h1, h2, h3, h4, h5⟩ := x.ex
  rw [hg] at h1
  cases h1
  have l1 : es.length = xs.length := h4.length
  refine ⟨x.sys, hg, h2, arr, ep, h3, ?_, fun i y hy => ?_⟩
  · rw [← Array.length_toList, h5, List.length_map, l1]
  · obtain ⟨b, hb, r1, r2, r3⟩ := L2.paired_get h4 hy
    refine ⟨⟨b.1.hash w, .ref b.2.1, b.2.2⟩, by rw [← Array.getElem?_toList, h5, List.getElem?_map, hb]; rfl, ?_⟩
    show Value.ref b.2.1 = _
    rw [r2]
section
variable {P : Program} {w : World} {K : PySem.W.Frag} {tg : Expr} {d : Addr} {o : Obj} {arr : Array DictEntry} {ep : Nat} {es : Es}
/-- the iterator and the dict, as a turn finds them -/
theorem keys_here {X : Cx} {pins : List (Addr × Obj)} {σ : St} {H : Hp} {s : Shared} (I : Inv X pins σ H s) (hd : H d = some (.frz o (NdO X.w d es))) (hod : o.data = .dict arr ep) :
    s.heap.get? d = some o ∧ arr.size = es.length ∧ ∀ (i : Nat) x, es[i]? = some x → ∃ en : DictEntry, arr[i]? = some en ∧ en.key = .ref x.2.1 := by
  obtain ⟨_, here, _, arr', ep', e, size, ent⟩ := nd_at I.hok hd
  have same := hod.symm.trans e
  cases same
  exact ⟨here, size, ent⟩
theorem turn_keysN (it : Addr) (hod : o.data = .dict arr ep) : Turn P w K tg (ItN w d o es) [it] it (fun i h => h.IsKeyIter it d i es.length ep) where
  mem := List.mem_singleton.mpr rfl
  obj := fun i h ⟨oi, e, _, fields⟩ b hb => ⟨oi, (List.mem_singleton.mp hb) ▸ e, fun v z => nomatch (fields.symm.trans z)⟩
  keep := fun _ _ _ st k => st.at fun oi e => k it List.mem_cons_self oi e
  item := by
    rintro X rfl rfl rfl _ i pins s σ H E I fp st ⟨hd, lt⟩
    have f := fp it List.mem_cons_self
    obtain ⟨here, size, ent⟩ := keys_here I hd hod
    have at_ := List.getElem?_eq_getElem lt
    obtain ⟨en, out, key⟩ := ent i _ at_
    exact next_key_item st here hod size out fun h' st' sb => ⟨en.key, rfl, let ⟨_, e1, c, fields⟩ := st'
      go_of (s := { s with heap := h' }) e1 c fields (by decide) ⟨.ref es[i].2.1, H, let_go I f sb, key, ⟨rfl, _, at_, rfl⟩, st', fun b hb => (fp b hb).1⟩⟩
  done := by
    rintro X rfl rfl rfl calm i pins s σ H E I fp st ⟨hd, le⟩
    obtain ⟨z, z1, _, z2, z3, z4⟩ := fp it List.mem_cons_self
    obtain ⟨here, size, _⟩ := keys_here I hd hod
    exact next_key_end (I.ok.hd calm) st here hod size le fun h' same => ⟨rfl, I.turned (t' := s.toks) (fun b ob ne e => same b ob ne e) z z1 z2 z3 z4⟩
  self := fun _ _ _ _ _ st q => wpAny_pyIter_keyiter st q
end
def iKeysN (w : World) (td : TE) : TI := fun σ H R => td σ H fun x H1 => ∃ d o es, x = .ref d ∧ H1 d = some (.frz o (NdO w d es)) ∧ R (ItN w d o es) H1
section
variable {X : Cx} {ρ : Rho} {ω ω1 ω2 : Om} {tg it e a b : Expr} {td : TE} {ks xs : List D} {pos p p1 : Pos} {k x z : D} {i : Nat} {n : Str} {T : Post}
theorem pi_keysN (he : PE X e td) : PI X tg e (iKeysN X.w td) := by
  refine ⟨fun pins s σ H R I h => ?_⟩
  refine thn (he.run pins s σ H _ I h) fun u s1 ⟨x, H1, I1, rx, d, o, es, ex, hd, q⟩ => ?_
  subst ex
  obtain rfl : u = Value.ref d := rx
  obtain ⟨hs, hgd, hx, arr, ep, hdt, hsz, _⟩ := nd_at I1.hok hd
  refine iter_keys hs hgd hx hdt (pi_one (tk := s1.toks) I1 _ (turn_keysN _ hdt) ⟨_, Heap.get?_push_size _ rfl, rfl, ?_⟩ q)
  rw [hsz] <;> rfl
theorem yields_keysT {w : World} {F0 : Hp} {a : Addr} {o : Obj} {es : Es} (h : F0 a = some (.frz o (NdO w a es))) (r : RpL w F0 ks (es.map fun e => V.ref e.2.1)) : Yields w F0 (ItN w a o es) ks where
  go := fun i F H x1 x2 hi => ⟨x2 _ _ (x1 _ _ h), by have := r.length; rw [List.length_map] at this; omega⟩
  yld := fun B F H σ ρ ω i v H' W x1 hi ⟨e1, en, hen, e2⟩ => by
    subst e1; subst e2
    obtain ⟨d, hd, q⟩ := (r.mono x1).getV (i := i) (v := .ref en.2.1) (by rw [List.getElem?_map, hen]; rfl)
    exact ⟨F, d, hd, W, ex_refl _, Keep.refl, q⟩
  stop := fun i F H x1 x2 hi => ⟨x2 _ _ (x1 _ _ h), by have := r.length; rw [List.length_map] at this; omega⟩
theorem di_keysT (h : DE X ρ ω ω1 it (.dT ks xs)) : DI X ρ ω ω1 tg it ks := di_of (pi_keysN sem_e) fun B F H σ W R k => h.go W fun v F1 H1 W1 _ _ r => by
  cases r with
  | dT h e1 e2 e3 r1 r2 =>
    subst e1
    exact ⟨_, _, _, rfl, W1.g.s _ _ h, k _ F1 H1 W1 (yields_keysT h r1)⟩
/-- list(d): new -/
theorem vals_keys {es : Es} {us : List Value} {arr : Array DictEntry} (hl : us.length = arr.size) (hsz : arr.size = es.length) (ent : ∀ (i : Nat) x, es[i]? = some x → ∃ en : DictEntry, arr[i]? = some en ∧ en.key = .ref x.2.1) (h : ∀ (j : Nat) u, us[j]? = some u → ∃ hi : j < arr.size, u = arr[j].key) :
    Vals (es.map fun e => V.ref e.2.1) us := vals_of_at (by rw [List.length_map]; omega) fun j x u h1 h2 => by
  rw [List.getElem?_map] at h1
  cases q : es[j]? with
  | none => rw [q] at h1; cases h1
  | some e =>
    rw [q] at h1
    cases h1
    obtain ⟨en, hen, ek⟩ := ent j e q
    obtain ⟨hj, rfl⟩ := h j u h2
    rw [Array.getElem?_eq_getElem hj] at hen
    cases hen
    exact ek
theorem call_listN (hc : X.calm = true) : CallR X (.type "list") (fun vs H Q => ∃ d o es, vs = [.ref d] ∧ H d = some (.frz o (NdO X.w d es)) ∧ ∀ q, H q = none → Q (.ref q) (upd H q (.lst (es.map fun e => V.ref e.2.1)))) := by
  intro pins s σ H vs us Q I r ⟨d, o, es, e, hd, q⟩
  subst e
  obtain ⟨u, eu, rx⟩ := vals1 r
  subst eu
  obtain rfl : u = Value.ref d := rx
  obtain ⟨lo, hgd, hx, arr, ep, hdt, hsz, ent⟩ := nd_at I.hok hd
  obtain ⟨_, x⟩ := nd_frz I.hok hd
  have hz : arr.size ≤ sizeLine := by rw [hsz]; exact sz x.big
  refine PySem.W.kdl_call (KdlSrc.rawDict (es := arr) (ep := ep) lo) (I.ok.hd hc) ⟨o, hgd, hx, hdt⟩ hz fun h' tk acc' c' hkeep hS hacc => ?_
  refine ⟨.ref s.heap.objs.size, _, I.laid hkeep (Nat.le_refl _) (show ObjOk X.prog X.w _ _ _ (.lst (es.map fun e => V.ref e.2.1)) from ⟨?_, acc'.toList, c', ?_, ?_⟩), rfl, q _ (I.hok.fresh (Nat.le_refl _))⟩
  · rw [List.length_map, ← hsz]; exact hz
  · exact vals_keys (by rw [Array.length_toList]; exact hacc.1) hsz ent fun j u h2 => hacc.2 j u (by rw [← Array.getElem?_toList]; exact h2)
  · rw [Array.toArray_toList]; exact hS
theorem do_listK (hc : X.calm = true) (hm : X.mg "list" = none) (hg : Gl X "list") (h : DE X ρ ω ω1 e (.dT ks xs)) (hs : starEach [e] X.env = (false, eval e X.env) :: starEach [] X.env := by rfl) : DO X ρ ω ω1 (.Call (.Name "list" p) [e] [] pos) (.lst ks) :=
  do_of (pe_callTy (call_listN hc) hg hm (by decide +kernel) sem_a (by decide) (by decide) hs (by rfl)) fun B F H σ W Q k => (da_1 h hs).go W fun vs F1 H1 W1 _ _ r => by
    obtain ⟨v, rfl, r1⟩ := r.one
    cases r1 with
    | dT h e1 e2 e3 r1 r2 =>
      subst e1
      exact ⟨_, _, _, rfl, W1.g.s _ _ h, fun q hq => k _ _ _ (W1.laid hq) (newAt W1 hq ⟨(W1.g.fresh hq).2.2, _, upd_same, r1⟩)⟩
theorem do_listI {ks : List Int} (hc : X.calm = true) (hm : X.mg "list" = none) (hg : Gl X "list") (h : DE X ρ ω ω1 e (.dI ks)) (hs : starEach [e] X.env = (false, eval e X.env) :: starEach [] X.env := by rfl) : DO X ρ ω ω1 (.Call (.Name "list" p) [e] [] pos) (.lst (ks.map D.int)) :=
  do_of (pe_callTy (call_listD hc) hg hm (by decide +kernel) sem_a (by decide) (by decide) hs (by rfl)) fun B F H σ W Q k => (da_1 h hs).go W fun vs F1 H1 W1 _ _ r => by
    obtain ⟨v, rfl, r1⟩ := r.one
    cases r1 with
    | dI h e1 =>
      refine ⟨_, _, rfl, .inr ⟨_, W1.g.s _ _ h⟩, fun q hq => k _ _ _ (W1.laid hq) (newAt W1 hq ⟨(W1.g.fresh hq).2.2, _, upd_same, ?_⟩)⟩
      have e2 : ∀ (kvs : List (Key × V)) (ks : List Int), kvs.map (·.1) = ks.map Sum.inl → (kvs.map fun kv => kV kv.1) = ks.map V.int := by
        intro kvs ks e
        have := congrArg (List.map kV) e
        rw [List.map_map, List.map_map] at this
        exact this
      rw [e2 _ _ e1]
      exact RpL.of_ints _
/-- len(d) -/
theorem call_lenDI : CallR X (.builtin "len") (fun vs H Q => ∃ d o kvs, vs = [.ref d] ∧ H d = some (.frz o (.dK kvs)) ∧ Q (.int kvs.length) H) := by
  intro pins s σ H vs us Q I r ⟨d, o, kvs, e, hd, q⟩
  subst e
  obtain ⟨u, eu, rx⟩ := vals1 r
  subst eu
  obtain rfl : u = Value.ref d := rx
  exact d_len I (.inr ⟨o, hd⟩) fun t s' I' => ⟨.int kvs.length, H, I', ⟨t, rfl⟩, q⟩
theorem de_lenDI {ks : List Int} (hm : X.mg "len" = none) (hg : Gl X "len") (h : DE X ρ ω ω1 e (.dI ks)) (hs : starEach [e] X.env = (false, eval e X.env) :: starEach [] X.env := by rfl) : DE X ρ ω ω1 (.Call (.Name "len" p) [e] [] pos) (.int ks.length) :=
  de_callB call_lenDI (fun B F H σ ρ ω W vs r Q k => by
    obtain ⟨v, rfl, r1⟩ := r.one
    cases r1 with
    | dI h e1 =>
      refine ⟨_, _, _, rfl, W.g.s _ _ h, ?_⟩
      have := congrArg List.length e1
      rw [List.length_map, List.length_map] at this
      rw [this]
      exact k _ F H W (.int _)) hm hg boot_len (da_1 h hs) (by decide) (by decide) hs (by rfl)
/-- d[k] -/
theorem es_at {w : World} {F : Hp} : ∀ {ks xs : List D} {es : Es} {i : Nat} {k z : D}, EsR w F ks xs es → (ks.map nk).Nodup → ks[i]? = some k → xs[i]? = some z → ∃ q, atN' es (nk k) = some q ∧ Rp w F z q.2
  | [], _, _, _, _, _, _, _, hk, _ => by simp at hk
  | d :: ks, [], _, i, _, _, _, _, _, hx => by simp at hx
  | d :: ks, x :: xs, [], i, _, _, r, _, _, _ => by have := r.k; simp at this
  | d :: ks, x :: xs, e :: es, i, k, z, r, nd, hk, hx => by
    have rk := r.k
    rw [List.map_cons, List.map_cons] at rk
    obtain ⟨h1, h2⟩ := List.cons.inj rk
    rw [List.map_cons] at nd
    obtain ⟨n1, n2⟩ := List.nodup_cons.mp nd
    cases r.a with
    | cons ra ta =>
      cases r.v with
      | cons rv tv =>
        unfold atN'
        rw [List.find?_cons]
        cases i with
        | zero =>
          simp at hk hx
          subst hk; subst hx
          simp only [h1, decide_true, Option.map_some]
          exact ⟨_, rfl, rv⟩
        | succ i =>
          simp at hk hx
          have ne : ¬ e.1 = nk k := fun q => n1 (by rw [← h1, q]; exact List.mem_map.mpr ⟨k, List.mem_of_getElem? hk, rfl⟩)
          simp only [ne, decide_false]
          exact es_at (es := es) ⟨h2, ta, tv⟩ n2 hk hx
def tIxN (w : World) (td ty : TE) : TE := fun σ H Q => td σ H fun x H1 => ty σ H1 fun y H2 => ∃ d o es a k q, x = .ref d ∧ y = .ref a ∧ H2 d = some (.frz o (NdO w d es)) ∧ (∀ e ∈ es, KeyAt w H2 e.1 e.2.1) ∧ KeyAt w H2 k a ∧ atN' es k = some q ∧ Q q.2 H2
theorem pe_ixN {ty : TE} (hu : X.A.units + 16 < cLine) (ho : PE X a td) (hi : PE X b ty) (hs : NoSl b) : PE X (.Subscript a b pos) (tIxN X.w td ty) := by
  refine ⟨fun pins s σ H Q I h => ?_⟩
  refine subD_of PySem.F.slot_dict_getitem.lookup hs (thn (ho.run pins s σ H _ I h) fun u s1 ⟨x, H1, I1, rx, q1⟩ => thn (hi.run pins s1 σ H1 _ I1 q1) fun iv s2 ⟨y, H2, I2, ry, d, o, es, ad, k, q, ex, ey, hd, hk, ka, hv, q2⟩ => ?_)
  subst ex; subst ey
  obtain rfl : u = Value.ref d := rx
  obtain rfl : iv = Value.ref ad := ry
  obtain ⟨lo, hgd, hx, _⟩ := nd_at I2.hok hd
  exact ⟨⟨o, hgd, hx.1⟩, nd_getItem I2 hu hd hk ka hv fun w' s3 I3 rw' => ⟨_, H2, I3, rw', q2⟩⟩
theorem de_ixD (hu : X.A.units + 16 < cLine) (hn : (ks.map nk).Nodup) (hk : ∀ d ∈ ks, kOk d) (ht : isTup k = true) (hx : ∃ i : Nat, ks[i]? = some k ∧ xs[i]? = some z) (ha : DE X ρ ω ω1 a (.dT ks xs)) (hb : DE X ρ ω1 ω2 b k) (hs : NoSl b := by exact fun _ _ => rfl) : DE X ρ ω ω2 (.Subscript a b pos) z :=
  de_of (pe_ixN hu sem_e sem_e hs) fun B F H σ W Q q => ha.go W fun u F1 H1 W1 _ _ r1 => hb.go W1 fun v F2 H2 W2 x2 _ r2 => by
    obtain ⟨i, hi, hz⟩ := hx
    obtain ⟨ad, rfl⟩ := r2.addr ht
    have hkk := hk k (List.mem_of_getElem? hi)
    cases r1 with
    | dT h e1 e2 e3 r3 r4 =>
      subst e1; subst e2
      have E : EsR X.w F2 ks xs _ := ⟨e3, r3.mono x2, r4.mono x2⟩
      obtain ⟨y, hy, ry⟩ := es_at E hn hi hz
      exact ⟨_, _, _, ad, nk k, y, rfl, rfl, W2.g.s _ _ (x2 _ _ h), E.keys W2.g.s hk, ⟨F2, k, W2.g.s, r2, hkk.1, rfl, hkk.2⟩, hy, q _ F2 H2 W2 ry⟩
/-- {}: new -/
theorem pe_dnewN : PE X (.Dict [] [] pos) (fun σ H Q => ∀ p, H p = none → Q (.ref p) (upd H p (NdO X.w p []))) := ⟨fun pins s σ H Q I h =>
  wpAny_Dict_empty ⟨.ref s.heap.objs.size, _, I.laid (a := s.heap.objs.size) (o := NdO X.w s.heap.objs.size []) (t' := s.toks) (fun _ _ q => Heap.get?_push_of_some _ q) (Nat.le_refl _) (nd_empty s.heap I.big), rfl, h _ (I.hok.fresh (Nat.le_refl _))⟩⟩
theorem do_dict0 : DO X ρ ω ω (.Dict [] [] pos) (.dct [] []) := do_of pe_dnewN fun B F H σ W Q k p hp => k _ _ _ (W.laid hp) (newAt W hp ⟨(W.g.fresh hp).2.2, [], upd_same, rfl, .nil, .nil⟩)
/-- d[k] = v, d owned, k new there -/
def sPutN (w : World) (td ty tv : TE) : TS := fun Dn σ H => tv σ H fun v H1 => td σ H1 fun x H2 => ty σ H2 fun y H3 => ∃ d es a k, x = .ref d ∧ y = .ref a ∧ H3 d = some (NdO w d es) ∧ (∀ e ∈ es, KeyAt w H3 e.1 e.2.1) ∧ KeyAt w H3 k a ∧ es.length < 100000 ∧ Dn.nx σ (upd H3 d (NdO w d (putN es k a v)))
theorem ps_putN {ty tv : TE} {value : Expr} {pos' : Pos} (hu : X.A.units + 16 < cLine) (ho : PE X a td) (hi : PE X b ty) (hv : PE X value tv) (hs : swapsWith value (some (.Subscript a b pos')) pos.line X.env = pure false) : PS X (.Assign [.Subscript a b pos'] value pos) (sPutN X.w td ty tv) := by
  refine ⟨fun pins s σ H D I h => ?_⟩
  refine wpAny_Assign_Subscript (thn (hv.run pins s σ H _ I h) fun r s1 ⟨v, H1, I1, rv, q1⟩ => thn (ho.run pins s1 σ H1 _ I1 q1) fun u s2 ⟨x, H2, I2, rx, q2⟩ => thn (hi.run pins s2 σ H2 _ I2 q2) fun iv s3 ⟨y, H3, I3, ry, d, es, ad, k, ex, ey, hd, hk, ka, hz, q3⟩ => ?_) hs
  subst ex; subst ey
  obtain rfl : u = Value.ref d := rx
  obtain rfl : iv = Value.ref ad := ry
  exact nd_setItem I3 hu hd hk ka rv hz fun s4 I4 => ⟨σ, _, I4, q3⟩
theorem ds_put {value : Expr} {pos' : Pos} (i : Nat) (hu : X.A.units + 16 < cLine) (hm : (i, Own.dct ks xs) ∈ ω) (hv : DE X ρ ω ω value z) (hb : DE X ρ ω ω b k) (hk : ∀ d ∈ ks, kOk d) (hkk : kOk k) (ht : isTup k = true) (hn : nk k ∉ ks.map nk) (hz : ks.length < 100000)
    (nx : T.nx ρ (oset ω i (.dct (ks ++ [k]) (xs ++ [z])))) (hN : X.N[i]? = some n := by rfl) (hvis : Vis X.env.scope n := by first | exact Or.inl rfl | exact Or.inr (Or.inl rfl) | exact Or.inr (Or.inr rfl))
    (h1 : (n == ("__debug__" : Str)) = false := by decide) (h2 : (n == ("__classdict__" : Str)) = false := by decide) (hs : swapsWith value (some (.Subscript (.Name n p1) b pos')) pos.line X.env = pure false := by rfl) :
    DS X ρ ω (.Assign [.Subscript (.Name n p1) b pos'] value pos) T :=
  ds_of (ps_putN hu (pe_var hN hvis h1 h2) sem_e sem_e hs) fun B F H σ Dn W M => hv.go W fun v F1 H1 W1 _ _ r1 => by
    obtain ⟨a, ha, _⟩ := W1.own _ hm
    refine ⟨_, ha, hb.go W1 fun u F2 H2 W2 x2 _ r2 => ?_⟩
    obtain ⟨a', ha', ⟨fr, es, hh, e1, q1, q2⟩, _⟩ := W2.own _ hm
    rw [ha] at ha'; cases ha'
    obtain ⟨ad, rfl⟩ := r2.addr ht
    have E : EsR X.w F2 ks xs es := ⟨e1, q1, q2⟩
    have E2 := E.putNew (k := k) r2 (r1.mono x2) hn
    refine ⟨a, es, ad, nk k, rfl, rfl, hh, E.keys W2.g.s hk, ⟨F2, k, W2.g.s, r2, hkk.1, rfl, hkk.2⟩, by rw [E.len]; exact hz, ?_⟩
    exact M.nx _ _ F2 _ σ nx (W2.change hm ha ⟨fr, _, upd_same, E2.k, E2.a, E2.v⟩)
/-- return d -/
theorem ds_retD (i : Nat) (hm : (i, Own.dct ks xs) ∈ ω) (k : T.ro (.dct ks xs)) (hN : X.N[i]? = some n := by rfl) (hv : Vis X.env.scope n := by first | exact Or.inl rfl | exact Or.inr (Or.inl rfl) | exact Or.inr (Or.inr rfl))
    (h1 : (n == ("__debug__" : Str)) = false := by decide) (h2 : (n == ("__classdict__" : Str)) = false := by decide) : DS X ρ ω (.Return (some (.Name n p1)) pos) T := fun B F H σ Dn W M pins s I => by
  obtain ⟨a, ha, oa, hB⟩ := W.own _ hm
  refine thn ((ps_ret (pos := pos) (pe_var (pos := p1) hN hv h1 h2)).run pins s σ H ⟨fun _ _ => False, fun v H' => v = .ref a ∧ H' = H, fun _ _ => False, fun _ _ => False⟩ I ⟨_, ha, rfl, rfl⟩) fun f s1 q => ?_
  cases f with
  | ret v =>
    obtain ⟨x, σ', H', I', r, e1, e2⟩ := q
    subst e1 e2
    obtain ⟨fr, es, hh, e3, q1, q2⟩ := oa
    obtain ⟨od, I2⟩ := I'.lock hh True.intro
    exact ⟨.ref a, σ', _, I2, r, M.ro _ ρ ω F _ σ _ _ k W ⟨a, rfl, ⟨fr, es, hh, e3, q1, q2⟩, hB, od, es, hh, rfl⟩⟩
  | next => obtain ⟨_, _, _, z⟩ := q; exact z.elim
  | brk => obtain ⟨_, _, _, z⟩ := q; exact z.elim
  | cont => obtain ⟨_, _, _, z⟩ := q; exact z.elim
end
end G

/-! G13 -/
set_option Elab.async false
set_option linter.all false
set_option maxRecDepth 100000
set_option maxHeartbeats 1000000
namespace G
open PySem L2
/-! ## 17. dict(pairs), d.update(d2) -/
def putAllN (es more : Es) : Es := more.foldl (fun acc e => putN acc e.1 e.2.1 e.2.2) es
theorem relN_putAll : ∀ {more : Es} {ys : List (NestedKey × Addr × Value)} {es : Es} {xs : List (NestedKey × Addr × Value)}, Paired relN more ys → Paired relN es xs → Paired relN (putAllN es more) (storedAllH xs ys)
  | _, _, _, _, .nil, p => p
  | _, _, es, xs, .cons (a := e) (b := y) r t, p => by
    show Paired relN (putAllN (putN es e.1 e.2.1 e.2.2) _) (storedAllH (storedH xs y.1 y.2.1 y.2.2) _)
    rw [r.1, r.2.1]
    exact relN_putAll t (relN_put r.2.2 p)
theorem putAllN_len : ∀ {more es : Es}, (putAllN es more).length ≤ es.length + more.length
  | [], es => by show es.length ≤ es.length + 0; omega
  | e :: more, es => by
    have h1 := putAllN_len (more := more) (es := putN es e.1 e.2.1 e.2.2)
    have h2 := putN_length (es := es) (k := e.1) (a := e.2.1) (v := e.2.2)
    show (putAllN (putN es e.1 e.2.1 e.2.2) more).length ≤ _
    rw [List.length_cons]; omega
theorem putAllN_nd : ∀ {more es : Es}, (es.map (·.1)).Nodup → ((putAllN es more).map (·.1)).Nodup
  | [], _, h => h
  | e :: more, es, h => by
    show ((putAllN (putN es e.1 e.2.1 e.2.2) more).map (·.1)).Nodup
    refine putAllN_nd ?_
    rw [putN_keys]
    split
    · exact h
    · rename_i z
      exact List.nodup_append.mpr ⟨h, by simp, fun a ha b hb q => z (by simp at hb; rw [← hb, ← q]; exact ha)⟩
theorem putAllN_mem : ∀ {more es : Es} {x : NestedKey × Addr × V}, x ∈ putAllN es more → ∃ y ∈ es ++ more, x.1 = y.1 ∧ x.2.1 = y.2.1
  | [], es, x, h => ⟨x, by rw [List.append_nil]; exact h, rfl, rfl⟩
  | e :: more, es, x, h => by
    obtain ⟨y, hy, e1, e2⟩ := putAllN_mem (more := more) (es := putN es e.1 e.2.1 e.2.2) h
    rcases List.mem_append.mp hy with hy | hy
    · have : (∃ z ∈ es, y.1 = z.1 ∧ y.2.1 = z.2.1) ∨ (y.1 = e.1 ∧ y.2.1 = e.2.1) := by
        unfold putN at hy
        split at hy
        · obtain ⟨z, hz, rfl⟩ := List.mem_map.mp hy
          refine .inl ⟨z, hz, ?_⟩
          split <;> exact ⟨rfl, rfl⟩
        · rcases List.mem_append.mp hy with hy | hy
          · exact .inl ⟨y, hy, rfl, rfl⟩
          · simp at hy; subst hy; exact .inr ⟨rfl, rfl⟩
      rcases this with ⟨z, hz, q1, q2⟩ | ⟨q1, q2⟩
      · exact ⟨z, List.mem_append_left _ hz, e1.trans q1, e2.trans q2⟩
      · exact ⟨e, List.mem_append_right _ List.mem_cons_self, e1.trans q1, e2.trans q2⟩
    · exact ⟨y, List.mem_append_right _ (List.mem_cons_of_mem _ hy), e1, e2⟩
theorem EsR.putAll {w : World} {F : Hp} : ∀ {more : List D} {em : Es} {ks : List D} {es : Es}, EsR w F more (tru more) em → EsR w F ks (tru ks) es → EsR w F (more.foldl addK ks) (tru (more.foldl addK ks)) (putAllN es em)
  | [], em, ks, es, rm, r => by
    have := rm.len
    cases em with
    | nil => exact r
    | cons e em => simp at this
  | k :: more, em, ks, es, rm, r => by
    cases em with
    | nil => have := rm.len; simp at this
    | cons e em =>
      have hk := rm.k
      rw [List.map_cons, List.map_cons] at hk
      obtain ⟨h1, h2⟩ := List.cons.inj hk
      have ev : e.2.2 = .bl true := rm.v.tru e.2.2 (by simp)
      cases rm.a with
      | cons ra ta =>
        cases rm.v with
        | cons rv tv =>
          show EsR w F (more.foldl addK (addK ks k)) _ (putAllN (putN es e.1 e.2.1 e.2.2) em)
          rw [h1, ev]
          exact EsR.putAll ⟨h2, ta, tv⟩ (r.putTrue ra)
section
variable {P : Program} {w : World} {H : Hp} {h' : Heap} {d : Addr} {es : Es} {zs : List (NestedKey × Addr × Value)}
theorem ndr_of {o : Es} (p : Paired relN o zs) (nd : (o.map (·.1)).Nodup) (lo : (d == sysModules) = false) (hz : o.length ≤ 100000) (hm : h'.DictOfH (nestedKind P w) d zs) : NdR w h' d o := by
  obtain ⟨ob, arr, ep, h1, h2, h3, h4, _, h6⟩ := hm
  exact ⟨⟨ob, arr, ep, zs, h1, h2, h3, p, h4⟩, nd, lo, hz⟩
end
section
variable {X : Cx} {pins : List (Addr × Obj)} {σ : St} {H : Hp} {s : Shared} {E : Value → Shared → Prop} {d o : Addr} {es more : Es}
theorem relN_hash {w : World} : ∀ {more : Es} {ys : List (NestedKey × Addr × Value)}, Paired relN more ys → (ys.map fun x => x.1.hash w) = more.map fun x => x.1.hash w
  | _, _, .nil => rfl
  | _, _, .cons r t => by rw [List.map_cons, List.map_cons, relN_hash t, r.1]
/-- d.update(d2) -/
theorem nd_update {A : Around} {ob : Obj} {Q : Value → Shared → Prop} (I : Inv X pins σ H s) (hu : A.units + 16 < cLine) (hd : H d = some (NdO X.w d es)) (ho : H o = some (.frz ob (NdO X.w o more))) (hk : ∀ e ∈ es, KeyAt X.w H e.1 e.2.1) (hk2 : ∀ e ∈ more, KeyAt X.w H e.1 e.2.1)
    (hap : es ≠ [] ∨ (more.map fun x => x.1.hash X.w).Nodup) (hz : es.length + more.length ≤ 100000) (h : ∀ s', Inv X pins σ (upd H d (NdO X.w d (putAllN es more))) s' → Q .none s') : wpAny (model X.prog X.w) A (call (.builtin "dict.update") [.ref d, .ref o]) Q E s := by
  have x := nd_of I.hok hd
  obtain ⟨_, y⟩ := nd_frz I.hok ho
  obtain ⟨xs, p, hm⟩ := x.toH (nd_keys I hk)
  obtain ⟨ys, p2, hm2⟩ := y.toH (nd_keys I hk2)
  have l1 := p.length
  have l2 := p2.length
  have hdo : d ≠ o := fun e => by subst e; rw [hd] at ho; cases ho
  refine call_update_dictH (show A.in1.units + 8 < cLine by show A.units + 1 + 8 < cLine; omega) hdo y.sys hm hm2 ?_ (by rw [← l1, ← l2]; exact sz hz) fun h' hm' _ hs => h _ ?_
  · rcases hap with q | q
    · refine .inl fun e => q ?_
      rw [e] at l1
      exact List.length_eq_zero_iff.mp (by simpa using l1)
    · refine .inr ⟨fun z hz' => ?_, ?_⟩
      · obtain ⟨e, he, r1, r2, _⟩ := paired_mem p2 z hz'
        rw [← r2]
        exact nestedKind_stays.tuple (prog := X.prog) (w := X.w) ((hk2 e he).is I.hok)
      · have := relN_hash (w := X.w) p2
        rw [← this] at q
        exact q
  · have he : ∃ q, h'.get? d = some q := let ⟨q, _, _, hq, _⟩ := hm'; ⟨q, hq⟩
    have hl := putAllN_len (more := more) (es := es)
    exact d_write (t' := s.toks) I (by rw [hd]; exact True.intro) hs he (ndo_new (ndr_of (relN_putAll p2 p) (putAllN_nd x.nd) x.sys (by omega) hm'))
end
section
variable {X : Cx} {ρ : Rho} {ω ω1 ω2 : Om} {e a b : Expr} {td ty : TE} {ks ks2 : List D} {pos p p1 apos cpos : Pos} {n : Str} {T : Post}
def tUpd (w : World) (td ty : TE) : TE := fun σ H Q => td σ H fun x H1 => ∃ d es, x = .ref d ∧ H1 d = some (NdO w d es) ∧ ty σ H1 fun y H2 => ∃ o ob es more, y = .ref o ∧ H2 d = some (NdO w d es) ∧ H2 o = some (.frz ob (NdO w o more)) ∧
  (∀ e ∈ es, KeyAt w H2 e.1 e.2.1) ∧ (∀ e ∈ more, KeyAt w H2 e.1 e.2.1) ∧ (es ≠ [] ∨ (more.map fun x => x.1.hash w).Nodup) ∧ es.length + more.length ≤ 100000 ∧ Q .non (upd H2 d (NdO w d (putAllN es more)))
theorem nd_typeIs {pins : List (Addr × Obj)} {σ : St} {H : Hp} {s : Shared} {d : Addr} {es : Es} (I : Inv X pins σ H s) (h : H d = some (NdO X.w d es)) : s.TypeIs (.ref d) "dict" ∧ ∀ b, Value.ref d = .ref b → ∃ ob, s.heap.get? b = some ob ∧ ob.dict = none := by
  obtain ⟨o, _, _, _, h1, h2, _⟩ := (nd_of I.hok h).ex
  refine ⟨⟨o, h1, h2.1⟩, fun b e => ?_⟩
  cases e
  exact ⟨o, h1, h2.2.1⟩
theorem pe_upd (hu : X.A.units + 16 < cLine) (ho : PE X a td) (he : PE X e ty) (m : M1 X a "update" apos e cpos) : PE X (.Call (.Attribute a "update" apos) [e] [] cpos) (tUpd X.w td ty) := by
  refine ⟨fun pins s σ H Q I h => ?_⟩
  refine wpAny_Call_method m.base m.few m.line PySem.F.plainAttrs_dict PySem.F.slot_dict_update PySem.F.type_dict_update (thn (ho.run pins s σ H _ I h) fun u s1 ⟨x, H1, I1, rx, d, es, ex, hd, q1⟩ => ?_)
  subst ex
  obtain rfl : u = Value.ref d := rx
  obtain ⟨t1, t2⟩ := nd_typeIs I1 hd
  refine ⟨t1, t2, ?_⟩
  rw [m.trees]
  refine Calls.callWith_builtin rfl (Calls.evalArgs_plain (Calls.spliced_cons (thn (he.run pins s1 σ H1 _ I1 q1) fun iv s2 ⟨y, H2, I2, ry, o, ob, es2, more, ey, hd2, ho2, hk, hk2, hap, hz, q2⟩ => Calls.spliced_nil ?_)))
  subst ey
  obtain rfl : iv = Value.ref o := ry
  exact nd_update I2 hu hd2 ho2 hk hk2 hap hz fun s3 I3 => ⟨.non, _, I3, rfl, q2⟩
/-- d.update(e): both with values True -/
theorem ds_update (i : Nat) (hu : X.A.units + 16 < cLine) (hm : (i, Own.dct ks (tru ks)) ∈ ω) (h : DE X ρ ω ω e (.dT ks2 (tru ks2))) (hk : ∀ d ∈ ks, kOk d) (hk2 : ∀ d ∈ ks2, kOk d) (hap : (ks2.map fun d => (nk d).hash X.w).Nodup) (hz : ks.length + ks2.length ≤ 100000)
    (k : T.nx ρ (oset ω i (.dct (ks2.foldl addK ks) (tru (ks2.foldl addK ks))))) (m : M1 X (.Name n p1) "update" apos e cpos) (hN : X.N[i]? = some n := by rfl) (hv : Vis X.env.scope n := by first | exact Or.inl rfl | exact Or.inr (Or.inl rfl) | exact Or.inr (Or.inr rfl))
    (h1 : (n == ("__debug__" : Str)) = false := by decide) (h2 : (n == ("__classdict__" : Str)) = false := by decide)
    (hsw : swapsWith (.Call (.Attribute (.Name n p1) "update" apos) [e] [] cpos) none pos.line X.env = pure false := by rfl) : DS X ρ ω (.Expr (.Call (.Attribute (.Name n p1) "update" apos) [e] [] cpos) pos) T :=
  ds_of (ps_expr (pe_upd hu (pe_var hN hv h1 h2) sem_e m) hsw) fun B F H σ Dn W M => by
    obtain ⟨a, ha, ⟨fr, es, hh, e1, q1, q2⟩, _⟩ := W.own _ hm
    refine ⟨_, ha, a, es, rfl, hh, h.go W fun v F1 H1 W1 x1 _ r1 => ?_⟩
    obtain ⟨a', ha', ⟨fr, es, hh, e1, q1, q2⟩, _⟩ := W1.own _ hm
    rw [ha] at ha'; cases ha'
    cases r1 with
    | dT h e2 e3 e4 r3 r4 =>
      subst e2; subst e3
      have E1 : EsR X.w F1 ks (tru ks) es := ⟨e1, q1, q2⟩
      have E2 : EsR X.w F1 ks2 (tru ks2) _ := ⟨e4, r3, r4⟩
      have E3 := EsR.putAll E2 E1
      refine ⟨_, _, es, _, rfl, hh, W1.g.s _ _ h, E1.keys W1.g.s hk, E2.keys W1.g.s hk2, .inr ?_, by rw [E1.len, E2.len]; exact hz, ?_⟩
      · have := congrArg (List.map fun q : NestedKey => q.hash X.w) E2.k
        rw [List.map_map, List.map_map] at this
        have hap' : (ks2.map ((fun q : NestedKey => q.hash X.w) ∘ nk)).Nodup := hap
        rw [← this] at hap'
        exact hap'
      · exact M.nx _ _ F1 _ σ k (W1.change hm ha ⟨fr, _, upd_same, E3.k, E3.a, E3.v⟩)
/-- dict([(k, True), ..]) -/
theorem call_dictN (hc : X.calm = true) (hu : X.A.units + 16 < cLine) : CallR X (.type "dict") (fun vs H Q => ∃ l us es, vs = [.ref l] ∧ H l = some (.lst us) ∧ us.length = (es : Es).length ∧ es.length ≤ 100000 ∧ (∀ e ∈ es, KeyAt X.w H e.1 e.2.1) ∧
    (∀ (j : Nat) e, es[j]? = some e → ∃ T, us[j]? = some (.ref T) ∧ H T = some (.tup [.ref e.2.1, e.2.2])) ∧ ∀ q, H q = none → Q (.ref q) (upd H q (NdO X.w q (putAllN [] es)))) := by
  intro pins s σ H vs us' Q I r ⟨l, us, es, e, hl, hlen, hz, hk, hp, q⟩
  subst e
  obtain ⟨u, eu, rx⟩ := vals1 r
  subst eu
  obtain rfl : u = Value.ref l := rx
  obtain ⟨its, n, rv, hg, z⟩ := I.lst hl
  -- the entries as the heap has them
  have step : ∀ (j : Nat) e, es[j]? = some e → ∃ T u, its[j]? = some (.ref T) ∧ RelV e.2.2 u ∧ s.heap.IsTuple T #[.ref e.2.1, u] := fun j e he => by
    obtain ⟨T, hT, hH⟩ := hp j e he
    obtain ⟨u, hu', ru⟩ := rv.get hT
    obtain rfl : u = Value.ref T := ru
    obtain ⟨_, its2, rv2, o, e1, e2, n2, e3⟩ := I.hok _ _ hH
    cases rv2 with
    | cons r1 t =>
      cases t with
      | cons r2 t =>
        cases t
        cases (show _ = Value.ref e.2.1 from r1)
        exact ⟨T, _, hu', r2, o, e1, e2, n2, e3⟩
  have all : ∃ ys : List (NestedKey × Addr × Value), Paired relN es ys ∧ ∃ Ts : Nat → Addr, ∀ (j : Nat) y, ys[j]? = some y → its[j]? = some (.ref (Ts j)) ∧ s.heap.IsTuple (Ts j) #[.ref y.2.1, y.2.2] := by
    have go : ∀ (l : Es) (k : Nat), (∀ (j : Nat) e, l[j]? = some e → ∃ T u, its[k + j]? = some (.ref T) ∧ RelV e.2.2 u ∧ s.heap.IsTuple T #[.ref e.2.1, u]) → ∃ ys : List (NestedKey × Addr × Value), Paired relN l ys ∧ ∀ (j : Nat) y, ys[j]? = some y → ∃ T, its[k + j]? = some (.ref T) ∧ s.heap.IsTuple T #[.ref y.2.1, y.2.2] := by
      intro l
      induction l with
      | nil => exact fun k _ => ⟨[], .nil, fun j y h => by simp at h⟩
      | cons e l ih =>
        intro k h
        obtain ⟨T, u, h1, h2, h3⟩ := h 0 e rfl
        obtain ⟨ys, p, hy⟩ := ih (k + 1) fun j e' he => by
          have := h (j + 1) e' (by simpa using he)
          rw [show k + 1 + j = k + (j + 1) by omega]
          exact this
        refine ⟨(e.1, e.2.1, u) :: ys, .cons ⟨rfl, rfl, h2⟩ p, fun j y hj => ?_⟩
        cases j with
        | zero => simp at hj; subst hj; exact ⟨T, h1, h3⟩
        | succ j =>
          have := hy j y (by simpa using hj)
          rw [show k + 1 + j = k + (j + 1) by omega] at this
          exact this
    obtain ⟨ys, p, hy⟩ := go es 0 fun j e he => by rw [Nat.zero_add]; exact step j e he
    refine ⟨ys, p, fun j => match its[j]? with | some (.ref T) => T | _ => 0, fun j y hj => ?_⟩
    obtain ⟨T, h1, h2⟩ := hy j y hj
    rw [Nat.zero_add] at h1
    have e : (match its[j]? with | some (.ref T) => T | _ => 0) = T := by rw [h1]
    refine ⟨h1.trans ?_, ?_⟩
    · show some (Value.ref T) = some (Value.ref (match its[j]? with | some (.ref T) => T | _ => 0))
      rw [e]
    · show s.heap.IsTuple (match its[j]? with | some (.ref T) => T | _ => 0) _
      rw [e]
      exact h2
  obtain ⟨ys, py, Ts, hT⟩ := all
  have ly := py.length
  have li : its.length = us.length := rv.length.symm
  have lp : (ys.map fun y => (Value.ref y.2.1, y.2.2)).length = ys.length := List.length_map _
  refine call_dict_pairsH (knd := nestedKind X.prog X.w) (ps := ys) (PairArg.list (prog := X.prog) (w := X.w) l its.toArray Ts (ys.map fun y => (Value.ref y.2.1, y.2.2))) (I.ok.hd hc) (show X.A.in1.in1.units + 8 < cLine by show X.A.units + 1 + 1 + 8 < cLine; omega)
    ⟨⟨_, n, hg, rfl, rfl, rfl⟩, ?_, ?_⟩ ⟨lp.symm, ?_⟩ ?_ (by rw [lp, ← ly]; exact sz hz) fun h' tk hd' hk' => ?_
  · rw [List.size_toArray, lp]; omega
  · intro j k v hj
    rw [List.getElem?_map] at hj
    cases hy : ys[j]? with
    | none => rw [hy] at hj; cases hj
    | some y =>
      rw [hy] at hj
      cases hj
      obtain ⟨h1, h2⟩ := hT j y hy
      exact ⟨by rw [List.getElem?_toArray]; exact h1, .inl h2⟩
  · intro i key v hi
    have hi : (ys.map fun y => (Value.ref y.2.1, y.2.2))[i]? = some (key, v) := hi
    rw [List.getElem?_map] at hi
    cases hy : ys[i]? with
    | none => rw [hy] at hi; cases hi
    | some y =>
      rw [hy] at hi
      cases hi
      exact ⟨y.1, y.2.1, rfl, rfl⟩
  · intro h' hk' x hx
    obtain ⟨e, he, r1, r2, _⟩ := paired_mem py x hx
    rw [← r1, ← r2]
    refine nestedKind_stays.stays (prog := X.prog) (w := X.w) (fun b o vs m hb _ => hk' b o (Nat.ne_of_lt (Heap.lt_size hb)) (fun z => nomatch z) hb) ((hk e he).is I.hok)
  · refine ⟨.ref s.heap.objs.size, _, I.laid (a := s.heap.objs.size) (o := NdO X.w s.heap.objs.size (putAllN [] es)) (t' := tk) (fun b o hb => hk' b o (fun z => nomatch z) hb) (Nat.le_refl _) ?_, rfl, q _ (I.hok.fresh (Nat.le_refl _))⟩
    have hl := putAllN_len (more := es) (es := [])
    refine ndo_new (ndr_of (relN_putAll py .nil) (putAllN_nd List.nodup_nil) (by rw [beq_eq_false_iff_ne]; exact Nat.ne_of_gt I.big) (by simp only [List.length_nil] at hl; omega) hd')
theorem rp_pairs {w : World} {F : Hp} : ∀ {ks : List D} {us : List V}, (∀ d ∈ ks, isTup d = true) → RpL w F (ks.map fun d => D.tup [d, .bl true]) us → ∃ es : Es, EsR w F ks (tru ks) es ∧ us.length = es.length ∧ ∀ (j : Nat) e, es[j]? = some e → ∃ T, us[j]? = some (.ref T) ∧ F T = some (.tup [.ref e.2.1, e.2.2])
  | [], _, _, .nil => ⟨[], ⟨rfl, .nil, .nil⟩, rfl, fun j e h => by simp at h⟩
  | d :: ks, _, ht, .cons (vs := us) r t => by
    obtain ⟨es, E, hl, hp⟩ := rp_pairs (fun x hx => ht x (List.mem_cons_of_mem _ hx)) t
    cases r with
    | tup h1 q =>
      cases q with
      | cons r1 q =>
        cases q with
        | cons r2 q =>
          cases q
          cases r2
          obtain ⟨a, rfl⟩ := r1.addr (ht d List.mem_cons_self)
          refine ⟨(nk d, a, .bl true) :: es, ⟨by rw [List.map_cons, List.map_cons, E.k], .cons r1 E.a, .cons (.bl true) E.v⟩, by simp [hl], fun j e hj => ?_⟩
          cases j with
          | zero => simp at hj; subst hj; exact ⟨_, rfl, h1⟩
          | succ j =>
            obtain ⟨T, h2, h3⟩ := hp j e (by simpa using hj)
            exact ⟨T, by simpa using h2, h3⟩
theorem do_dictL (hc : X.calm = true) (hu : X.A.units + 16 < cLine) (hm : X.mg "dict" = none) (hg : Gl X "dict") (h : DE X ρ ω ω1 e (.lst (ks.map fun d => D.tup [d, .bl true]))) (hk : ∀ d ∈ ks, kOk d ∧ isTup d = true) (hz : ks.length ≤ 100000) (hs : starEach [e] X.env = (false, eval e X.env) :: starEach [] X.env := by rfl) :
    DO X ρ ω ω1 (.Call (.Name "dict" p) [e] [] pos) (.dct (ddK ks) (tru (ddK ks))) :=
  do_of (pe_callTy (call_dictN hc hu) hg hm (by decide +kernel) sem_a (by decide) (by decide) hs (by rfl)) fun B F H σ W Q k => (da_1 h hs).go W fun vs F1 H1 W1 _ _ r => by
    obtain ⟨v, rfl, r1⟩ := r.one
    cases r1 with
    | lst h q =>
      obtain ⟨es, E, hl, hp⟩ := rp_pairs (fun d hd => (hk d hd).2) q
      refine ⟨_, _, es, rfl, W1.g.s _ _ h, hl, by rw [E.len]; exact hz, E.keys W1.g.s fun d hd => (hk d hd).1, fun j e hj => let ⟨T, h1, h2⟩ := hp j e hj; ⟨T, h1, W1.g.s _ _ h2⟩, fun q hq => ?_⟩
      have E3 := EsR.putAll E (w := X.w) (ks := []) (es := []) ⟨rfl, .nil, .nil⟩
      exact k _ _ _ (W1.laid hq) (newAt W1 hq ⟨(W1.g.fresh hq).2.2, _, upd_same, E3.k, E3.a, E3.v⟩)
end
end G

/-! G14 -/
set_option Elab.async false
set_option linter.all false
set_option maxRecDepth 100000
set_option maxHeartbeats 1000000
namespace G
open PySem L2
/-! ## 18. A def keeps its promise -/
def ownD : Own → D
  | .box _ _ => .non
  | .lst l => .lst l
  | .dct ks xs => .dT ks xs
abbrev Bx (P : Program) (w : World) (K : PySem.W.Frag) (mg : Str → Option Value) (base : Heap) (N : List Str) (qual : Str) (scope : Scope) (f : Addr) (cd : Value) (A : Around) (outer : List Env) (s : Shared) (H : Hp) (E : XK) : Cx := (cxOf CX0 P w K mg base N qual scope f cd A outer s H E).nox
def rho0 (N : List Str) (ds : List D) : Rho := ds.map some ++ List.replicate (N.length - ds.length) none
def retP (z : D) : Post := { nx := fun _ _ => z = .non, rt := fun d _ => d = z, ro := fun o => ownD o = z }
theorem rho0_get {N : List Str} : ∀ {ds : List D} {vs : List V} {w : World} {F : Hp} {i : Nat} {d : D}, RpL w F ds vs → (rho0 N ds)[i]? = some (some d) → ∃ v, (L2.start N vs)[i]? = some (some v) ∧ Rp w F d v := fun {ds vs w F i d} r e => by
  unfold rho0 at e
  unfold L2.start
  by_cases h : i < ds.length
  · rw [List.getElem?_append_left (by rw [List.length_map]; exact h), List.getElem?_map] at e
    rw [List.getElem?_append_left (by rw [List.length_map, r.length]; exact h), List.getElem?_map]
    cases q : ds[i]? with
    | none => rw [q] at e; cases e
    | some d' =>
      rw [q] at e
      cases e
      obtain ⟨v, h1, h2⟩ := r.get q
      exact ⟨v, by rw [h1]; rfl, h2⟩
  · rw [List.getElem?_append_right (by rw [List.length_map]; omega), List.getElem?_replicate] at e
    split at e <;> cases e
theorem wd_start {w : World} {N : List Str} {F H : Hp} {ds : List D} {vs : List V} (x : Ex F H) (r : RpL w F ds vs) : Wd w ⟨F, H, fun _ => False⟩ F H (L2.start N vs) (rho0 N ds) [] where
  g := ⟨ex_refl _, fun _ _ _ e => e, x, fun _ _ e => e, fun _ h => h.elim⟩
  len := by unfold rho0 L2.start; simp [r.length]
  dat := fun i d e => rho0_get r e
  own := fun p hp => nomatch hp
  apart := .nil
theorem upd_id {H : Hp} {a : Addr} {o : HO} (h : H a = some o) : upd H a o = H := by
  funext b
  by_cases q : b = a
  · subst q; rw [upd_same, h]
  · rw [upd_ne q]
/-- what is handed back, as data -/
theorem ret_data {w : World} {B : Base} {F H Hf : Hp} {σ : St} {ρ : Rho} {ω : Om} {v : V} {o : Own} (hM : ∀ a, ¬ B.M a) (W : Wd w B F H σ ρ ω) (r : RetOk w B F H v o Hf) : ∃ F', Grow B F' Hf ∧ Rp w F' (ownD o) v := by
  obtain ⟨a, rfl, oa, hB, q⟩ := r
  have nm := hM a
  have bH : B.H a = none := hB.elim (fun z => (nm z).elim) id
  have W' : Wd w B F H [] [] [] := ⟨W.g, rfl, fun i d e => by simp at e, fun p hp => by simp at hp, List.Pairwise.nil⟩
  have no : ¬ owned [] [] a := fun ⟨p, hp, _⟩ => nomatch hp
  cases o with
  | box b l => exact q.elim
  | lst l =>
    obtain ⟨fr, vs, hh, rl⟩ := oa
    have W2 := W'.frz0 (u := .lst vs) fr bH nm no
    rw [upd_id hh] at W2
    have q : Hf = H := q
    subst q
    exact ⟨_, W2.g, .lst upd_same (rl.mono (ex_new fr))⟩
  | dct ks xs =>
    obtain ⟨fr, es, hh, e1, r1, r2⟩ := oa
    obtain ⟨od, es', hh', e⟩ := q
    rw [hh'] at hh
    have W2 := W'.frz0 (u := .frz od (NdO w a es')) fr bH nm no
    subst e
    have ee : NdO w a es' = NdO w a es := Option.some.inj hh
    rw [ee] at W2 ⊢
    exact ⟨_, W2.g, .dT upd_same rfl rfl e1 (r1.mono (ex_new fr)) (r2.mono (ex_new fr))⟩
section
variable {P : Program} {w : World} {K : PySem.W.Frag} {mg : Str → Option Value} {base : Heap} {x qual : Str} {params : Arguments} {body : List Stmt} {scope : Scope} {dvs : List V} {kws : List (Str × V)} {f : Addr} {fd : FuncData}
theorem fn_pure {N ps : List Str} {k : Nat} {R : List D → D → Prop} (F : FunD K x qual params body scope dvs kws f fd) (S : FnScope N ps scope)
    (hbody : ∀ cdv A outer s H E ds z, Room k (A.deeper (PyProof.Rows.envOfC qual scope s.heap.objs.size f cdv)) → ds.length = ps.length → R ds z → DB (Bx P w K mg base N qual scope f cdv A outer s H E) (rho0 N ds) [] body (retP z)) :
    FnOk P w K mg base CX0 (k + 1) f fd ps (PSp w ps.length R) := by
  refine F.ok S (fun vs H Q E h => h.1) fun cdv A outer s H vs Q E hr h => ?_
  obtain ⟨hl, F0, ds, z, x, r, hR, q⟩ := h
  have hd : ds.length = ps.length := by rw [← r.length]; exact hl
  refine ⟨_, PSs.nox sem_b, hbody cdv A outer s H E ds z hr hd hR ⟨F0, H, fun _ => False⟩ F0 H (L2.start N vs) _ (wd_start x r) ⟨?_, ?_, fun _ _ _ _ _ z => z.elim, fun _ _ _ _ _ z => z.elim, ?_⟩⟩
  · intro ρ ω F' H' σ e W
    have e : z = .non := e
    subst e
    exact q .non F' H' W.g .non
  · intro d ρ ω F' H' σ v e W rd
    have e : d = z := e
    subst e
    exact q v F' H' W.g rd
  · intro o ρ ω F' H' σ v Hf e W ro
    have e : ownD o = z := e
    obtain ⟨F2, g, rd⟩ := ret_data (B := ⟨F0, H, fun _ => False⟩) (fun a h => h) W ro
    rw [e] at rd
    exact q v F2 Hf g rd
end
end G

/-! G15 -/
set_option Elab.async false
set_option linter.all false
set_option maxRecDepth 100000
set_option maxHeartbeats 1000000
namespace G
open PySem L2
/-! ## 19. Built-ins in short -/
/-- what the module's names hold -/
structure MG (mg : Str → Option Value) : Prop where
  len : mg "len" = none
  isi : mg "isinstance" = none
  int : mg "int" = none
  bool : mg "bool" = none
  list : mg "list" = none
  tuple : mg "tuple" = none
  str : mg "str" = none
  all : mg "all" = none
  any : mg "any" = none
  zip : mg "zip" = none
  range : mg "range" = none
  sorted : mg "sorted" = none
  abs : mg "abs" = none
  min : mg "min" = none
  set : mg "set" = none
  dict : mg "dict" = none
  repr : mg "repr" = none
  MOST_LABEL : ∃ t, mg "MOST_LABEL" = some (.int 12 t)
  MOST_CHARACTERS : ∃ t, mg "MOST_CHARACTERS" = some (.int 65535 t)
  LETTERS : ∃ t, mg "LETTERS" = some (.str "abcdefghijklmnopqrstuvwxyz" t)
  MOST_LABELS : ∃ t, mg "MOST_LABELS" = some (.int 6 t)
  MOST_TEXTS : ∃ t, mg "MOST_TEXTS" = some (.int 4 t)
  MOST_STATES : ∃ t, mg "MOST_STATES" = some (.int 200 t)
  MOST_ANSWERS : ∃ t, mg "MOST_ANSWERS" = some (.int 8 t)
section
variable {X : Cx} {ρ : Rho} {ω ω1 ω2 : Om} {e a b c tg : Expr} {d x y z : D} {pos p p1 p2 tpos : Pos}
theorem bInt {i : Int} (m : MG X.mg) (h : DE X ρ ω ω1 e (.int i)) (hg : Gl X "isinstance" := by exact rfl) (hgn : Gl X "int" := by exact rfl) (hs : starEach [e, .Name "int" p1] X.env = (false, eval e X.env) :: starEach [.Name "int" p1] X.env := by rfl)
    (hs2 : starEach [.Name "int" p1] X.env = (false, eval (.Name "int" p1) X.env) :: starEach [] X.env := by rfl) (hpl : (backTo pos (starEach [.Name "int" p1] X.env)).any (·.1) = false := by rfl) : DE X ρ ω ω1 (.Call (.Name "isinstance" p) [e, .Name "int" p1] [] pos) (.bl true) :=
  de_isi1 (n := "int") m.isi hg m.int hgn (by decide +kernel) rfl (by show kitB "int" "int" = some true; decide +kernel) h (by decide) (by decide) hs hs2 hpl
theorem bIntB {i : Int} (m : MG X.mg) (h : DE X ρ ω ω1 e (.int i)) (hg : Gl X "isinstance" := by exact rfl) (hgn : Gl X "bool" := by exact rfl) (hs : starEach [e, .Name "bool" p1] X.env = (false, eval e X.env) :: starEach [.Name "bool" p1] X.env := by rfl)
    (hs2 : starEach [.Name "bool" p1] X.env = (false, eval (.Name "bool" p1) X.env) :: starEach [] X.env := by rfl) (hpl : (backTo pos (starEach [.Name "bool" p1] X.env)).any (·.1) = false := by rfl) : DE X ρ ω ω1 (.Call (.Name "isinstance" p) [e, .Name "bool" p1] [] pos) (.bl false) :=
  de_isi1 (n := "bool") m.isi hg m.bool hgn (by decide +kernel) rfl (by show kitB "int" "bool" = some false; decide +kernel) h (by decide) (by decide) hs hs2 hpl
theorem bBlB {i : Bool} (m : MG X.mg) (h : DE X ρ ω ω1 e (.bl i)) (hg : Gl X "isinstance" := by exact rfl) (hgn : Gl X "bool" := by exact rfl) (hs : starEach [e, .Name "bool" p1] X.env = (false, eval e X.env) :: starEach [.Name "bool" p1] X.env := by rfl)
    (hs2 : starEach [.Name "bool" p1] X.env = (false, eval (.Name "bool" p1) X.env) :: starEach [] X.env := by rfl) (hpl : (backTo pos (starEach [.Name "bool" p1] X.env)).any (·.1) = false := by rfl) : DE X ρ ω ω1 (.Call (.Name "isinstance" p) [e, .Name "bool" p1] [] pos) (.bl true) :=
  de_isi1 (n := "bool") m.isi hg m.bool hgn (by decide +kernel) rfl (by show kitB "bool" "bool" = some true; decide +kernel) h (by decide) (by decide) hs hs2 hpl
theorem bStr {i : Str} (m : MG X.mg) (h : DE X ρ ω ω1 e (.str i)) (hg : Gl X "isinstance" := by exact rfl) (hgn : Gl X "str" := by exact rfl) (hs : starEach [e, .Name "str" p1] X.env = (false, eval e X.env) :: starEach [.Name "str" p1] X.env := by rfl)
    (hs2 : starEach [.Name "str" p1] X.env = (false, eval (.Name "str" p1) X.env) :: starEach [] X.env := by rfl) (hpl : (backTo pos (starEach [.Name "str" p1] X.env)).any (·.1) = false := by rfl) : DE X ρ ω ω1 (.Call (.Name "isinstance" p) [e, .Name "str" p1] [] pos) (.bl true) :=
  de_isi1 (n := "str") m.isi hg m.str hgn (by decide +kernel) rfl (by show kitB "str" "str" = some true; decide +kernel) h (by decide) (by decide) hs hs2 hpl
/-- a list or a tuple -/
def seqD (d : D) : Prop := tyD d = "list" ∨ tyD d = "tuple"
theorem bSeq {k0 : Nat} (m : MG X.mg) (h : DE X ρ ω ω1 e d) (hd : seqD d) (hg : Gl X "isinstance" := by exact rfl) (hg1 : Gl X "list" := by exact rfl) (hg2 : Gl X "tuple" := by exact rfl)
    (hs : starEach [e, .Tuple [.Name "list" p1, .Name "tuple" p2] k0 tpos] X.env = (false, eval e X.env) :: starEach [.Tuple [.Name "list" p1, .Name "tuple" p2] k0 tpos] X.env := by rfl)
    (hpl : (backTo pos (starEach [.Tuple [.Name "list" p1, .Name "tuple" p2] k0 tpos] X.env)).any (·.1) = false := by rfl) : DE X ρ ω ω1 (.Call (.Name "isinstance" p) [e, .Tuple [.Name "list" p1, .Name "tuple" p2] k0 tpos] [] pos) (.bl true) :=
  de_isiLT m.isi hg m.list hg1 m.tuple hg2 hd h hs hpl
theorem lenL {l : List D} (m : MG X.mg) (h : DE X ρ ω ω1 e (.lst l)) (hg : Gl X "len" := by exact rfl) (hs : starEach [e] X.env = (false, eval e X.env) :: starEach [] X.env := by rfl) : DE X ρ ω ω1 (.Call (.Name "len" p) [e] [] pos) (.int l.length) := de_lenL m.len hg h hs
theorem lenT {l : List D} (m : MG X.mg) (h : DE X ρ ω ω1 e (.tup l)) (hg : Gl X "len" := by exact rfl) (hs : starEach [e] X.env = (false, eval e X.env) :: starEach [] X.env := by rfl) : DE X ρ ω ω1 (.Call (.Name "len" p) [e] [] pos) (.int l.length) := de_lenT m.len hg h hs
theorem lenS {s : Str} (m : MG X.mg) (hz : s.length ≤ 100000) (h : DE X ρ ω ω1 e (.str s)) (hg : Gl X "len" := by exact rfl) (hs : starEach [e] X.env = (false, eval e X.env) :: starEach [] X.env := by rfl) : DE X ρ ω ω1 (.Call (.Name "len" p) [e] [] pos) (.int s.length) := de_lenS m.len hg hz h hs
theorem lenDI {l : List Int} (m : MG X.mg) (h : DE X ρ ω ω1 e (.dI l)) (hg : Gl X "len" := by exact rfl) (hs : starEach [e] X.env = (false, eval e X.env) :: starEach [] X.env := by rfl) : DE X ρ ω ω1 (.Call (.Name "len" p) [e] [] pos) (.int l.length) := de_lenDI m.len hg h hs
theorem allB {bs : List Bool} (m : MG X.mg) (h : DE X ρ ω ω1 e (.lst (bs.map D.bl))) (hc : X.calm = true := by rfl) (hg : Gl X "all" := by exact rfl) (hs : starEach [e] X.env = (false, eval e X.env) :: starEach [] X.env := by rfl) : DE X ρ ω ω1 (.Call (.Name "all" p) [e] [] pos) (.bl (bs.all id)) := de_all hc m.all hg h hs
theorem anyB {bs : List Bool} (m : MG X.mg) (h : DE X ρ ω ω1 e (.lst (bs.map D.bl))) (hc : X.calm = true := by rfl) (hg : Gl X "any" := by exact rfl) (hs : starEach [e] X.env = (false, eval e X.env) :: starEach [] X.env := by rfl) : DE X ρ ω ω1 (.Call (.Name "any" p) [e] [] pos) (.bl (bs.any id)) := de_any hc m.any hg h hs
/-- all hold -/
theorem allT {l : List D} (m : MG X.mg) (h : DE X ρ ω ω1 e (.lst l)) (ht : ∀ d ∈ l, d = .bl true) (hc : X.calm = true := by rfl) (hg : Gl X "all" := by exact rfl) (hs : starEach [e] X.env = (false, eval e X.env) :: starEach [] X.env := by rfl) : DE X ρ ω ω1 (.Call (.Name "all" p) [e] [] pos) (.bl true) := by
  have e1 : l = (l.map fun _ => true).map D.bl := by
    rw [List.map_map]
    exact (map_same _ _ fun x hx => (ht x hx).symm).symm
  rw [e1] at h
  have e2 : (l.map fun _ => true).all id = true := by rw [List.all_map, List.all_eq_true]; intro x _; rfl
  exact EvP.is (allB m h hc hg hs) (by rw [e2])
theorem tupL {l : List D} (m : MG X.mg) (h : DE X ρ ω ω1 e (.lst l)) (hg : Gl X "tuple" := by exact rfl) (hs : starEach [e] X.env = (false, eval e X.env) :: starEach [] X.env := by rfl) : DE X ρ ω ω1 (.Call (.Name "tuple" p) [e] [] pos) (.tup l) := de_tupleL m.tuple hg h hs
theorem tupT {l : List D} (m : MG X.mg) (h : DE X ρ ω ω1 e (.tup l)) (hg : Gl X "tuple" := by exact rfl) (hs : starEach [e] X.env = (false, eval e X.env) :: starEach [] X.env := by rfl) : DE X ρ ω ω1 (.Call (.Name "tuple" p) [e] [] pos) (.tup l) := de_tupleT m.tuple hg h hs
theorem lstL {l : List D} (m : MG X.mg) (h : DE X ρ ω ω1 e (.lst l)) (hg : Gl X "list" := by exact rfl) (hs : starEach [e] X.env = (false, eval e X.env) :: starEach [] X.env := by rfl) : DO X ρ ω ω1 (.Call (.Name "list" p) [e] [] pos) (.lst l) := do_listL m.list hg h hs
theorem lstT {l : List D} (m : MG X.mg) (h : DE X ρ ω ω1 e (.tup l)) (hg : Gl X "list" := by exact rfl) (hs : starEach [e] X.env = (false, eval e X.env) :: starEach [] X.env := by rfl) : DO X ρ ω ω1 (.Call (.Name "list" p) [e] [] pos) (.lst l) := do_listT m.list hg h hs
theorem lstK {ks xs : List D} (m : MG X.mg) (h : DE X ρ ω ω1 e (.dT ks xs)) (hc : X.calm = true := by rfl) (hg : Gl X "list" := by exact rfl) (hs : starEach [e] X.env = (false, eval e X.env) :: starEach [] X.env := by rfl) : DO X ρ ω ω1 (.Call (.Name "list" p) [e] [] pos) (.lst ks) := do_listK hc m.list hg h hs
theorem lstI {ks : List Int} (m : MG X.mg) (h : DE X ρ ω ω1 e (.dI ks)) (hc : X.calm = true := by rfl) (hg : Gl X "list" := by exact rfl) (hs : starEach [e] X.env = (false, eval e X.env) :: starEach [] X.env := by rfl) : DO X ρ ω ω1 (.Call (.Name "list" p) [e] [] pos) (.lst (ks.map D.int)) := do_listI hc m.list hg h hs
theorem int1 {i : Int} (m : MG X.mg) (h : DE X ρ ω ω1 e (.int i)) (hg : Gl X "int" := by exact rfl) (hs : starEach [e] X.env = (false, eval e X.env) :: starEach [] X.env := by rfl) : DE X ρ ω ω1 (.Call (.Name "int" p) [e] [] pos) (.int i) := de_int1 m.int hg h hs
theorem abs1 {i : Int} (m : MG X.mg) (h : DE X ρ ω ω1 e (.int i)) (hg : Gl X "abs" := by exact rfl) (hs : starEach [e] X.env = (false, eval e X.env) :: starEach [] X.env := by rfl) : DE X ρ ω ω1 (.Call (.Name "abs" p) [e] [] pos) (.int (if i < 0 then -i else i)) := de_abs m.abs hg h hs
theorem minI {ns : List Int} {k : Int} (m : MG X.mg) (h : DE X ρ ω ω1 e (.lst (ns.map D.int))) (h1 : k ∈ ns) (h2 : ∀ y ∈ ns, k ≤ y) (hc : X.calm = true := by rfl) (hg : Gl X "min" := by exact rfl) (hs : starEach [e] X.env = (false, eval e X.env) :: starEach [] X.env := by rfl) : DE X ρ ω ω1 (.Call (.Name "min" p) [e] [] pos) (.int k) := de_min hc m.min hg h1 h2 h hs
theorem srtI {ns ms : List Int} (m : MG X.mg) (h : DE X ρ ω ω1 e (.lst (ns.map D.int))) (hp : ms.Perm ns) (hs' : ms.Pairwise (· ≤ ·)) (hg : Gl X "sorted" := by exact rfl) (hs : starEach [e] X.env = (false, eval e X.env) :: starEach [] X.env := by rfl) : DE X ρ ω ω1 (.Call (.Name "sorted" p) [e] [] pos) (.lst (ms.map D.int)) := de_sortedI m.sorted hg hp hs' h hs
theorem rng1 {n : Int} (m : MG X.mg) (h : DE X ρ ω ω1 e (.int n)) (hb : -(2 ^ 62) ≤ n ∧ n < 2 ^ 62) (hg : Gl X "range" := by exact rfl) (hs : starEach [e] X.env = [(false, eval e X.env)] := by rfl) : DI X ρ ω ω1 tg (.Call (.Name "range" p) [e] [] pos) (rngD 0 1 n.toNat) := di_rng1 m.range hg hb h hs
/-- the constants -/
theorem kI {n : Str} {i : Int} (h : ∃ t, X.mg n = some (.int i t)) (hg : Gl X n := by exact rfl) (hd : (n == ("__debug__" : Str)) = false := by decide) : DE X ρ ω ω (.Name n pos) (.int i) := by
  obtain ⟨t, e⟩ := h
  exact de_globI hg e hd
theorem kS {n x : Str} (h : ∃ t, X.mg n = some (.str x t)) (hg : Gl X n := by exact rfl) (hd : (n == ("__debug__" : Str)) = false := by decide) : DE X ρ ω ω (.Name n pos) (.str x) := by
  obtain ⟨t, e⟩ := h
  exact de_globS hg e hd
/-- calls of the text's own defs -/
theorem ca1 {n : Str} {j k : Nat} {R : List D → D → Prop} (C : Callee X.prog X.w X.K X.mg X.base j n 1 R) (hr : Room k X.A) (hj : j ≤ k) (ha : DE X ρ ω ω1 a x) (hR : R [x] z) (hg : Gl X n := by exact rfl)
    (hdb : (n == ("__debug__" : Str)) = false := by decide) (he : starEach [a] X.env = (false, eval a X.env) :: starEach [] X.env := by rfl) (hpl : (backTo pos (starEach [] X.env)).any (·.1) = false := by rfl) : DE X ρ ω ω1 (.Call (.Name n p) [a] [] pos) z :=
  de_call C (hr.mono hj) hg hR (da_1 ha he) rfl hdb he hpl
theorem ca2 {n : Str} {j k : Nat} {R : List D → D → Prop} (C : Callee X.prog X.w X.K X.mg X.base j n 2 R) (hr : Room k X.A) (hj : j ≤ k) (ha : DE X ρ ω ω1 a x) (hb : DE X ρ ω1 ω2 b y) (hR : R [x, y] z) (hg : Gl X n := by exact rfl)
    (hdb : (n == ("__debug__" : Str)) = false := by decide) (he : starEach [a, b] X.env = (false, eval a X.env) :: starEach [b] X.env := by rfl) (he2 : starEach [b] X.env = (false, eval b X.env) :: starEach [] X.env := by rfl) (hpl : (backTo pos (starEach [b] X.env)).any (·.1) = false := by rfl) :
    DE X ρ ω ω2 (.Call (.Name n p) [a, b] [] pos) z := de_call C (hr.mono hj) hg hR (da_cons ha (da_1 hb he2) he) rfl hdb he hpl
end
section
variable {X : Cx} {ρ : Rho} {ω ω1 ω2 ω3 : Om} {a b c : Expr} {x y y2 z : D} {pos p : Pos}
theorem ca3 {n : Str} {j k : Nat} {R : List D → D → Prop} (C : Callee X.prog X.w X.K X.mg X.base j n 3 R) (hr : Room k X.A) (hj : j ≤ k) (ha : DE X ρ ω ω1 a x) (hb : DE X ρ ω1 ω2 b y) (hc : DE X ρ ω2 ω3 c y2) (hR : R [x, y, y2] z) (hg : Gl X n := by exact rfl)
    (hdb : (n == ("__debug__" : Str)) = false := by decide) (he : starEach [a, b, c] X.env = (false, eval a X.env) :: starEach [b, c] X.env := by rfl) (he2 : starEach [b, c] X.env = (false, eval b X.env) :: starEach [c] X.env := by rfl) (he3 : starEach [c] X.env = (false, eval c X.env) :: starEach [] X.env := by rfl)
    (hpl : (backTo pos (starEach [b, c] X.env)).any (·.1) = false := by rfl) : DE X ρ ω ω3 (.Call (.Name n p) [a, b, c] [] pos) z := de_call C (hr.mono hj) hg hR (da_cons ha (da_cons hb (da_1 hc he3) he2) he) rfl hdb he hpl
end
end G

/-! G16a -/
set_option Elab.async false
set_option linter.all false
set_option maxRecDepth 100000
set_option maxHeartbeats 4000000
namespace G
open PySem L2 PySem.Spec PyProof.Rows
/-! ## 20. set(xs), xs a list of ints -/
/-- as set.__new__ lays it -/
abbrev bareSet (w : World) : Obj := { cls := .type "set", dict := none, data := .set #[] 0 (.fresh 0 0 (!w.params.followText "set-order")) }
/-- t comes of s by filling a set at S with the ints ns: all else stands -/
structure Fills (w : World) (s : Shared) (S : Addr) (ns : List Int) (t : Shared) : Prop where
  eq : ∃ h tk, t = { s with heap := h, toks := tk }
  set : ∃ c, c ≤ ns.length ∧ SetR w t.heap S (fun j => decide (j ∈ ns)) c
  keep : ∀ b o, b ≠ S → s.heap.get? b = some o → t.heap.get? b = some o
section
variable {P : Program} {w : World} {A : Around} {s : Shared} {l S : Addr} {items : Array Value} {ns : List Int}
theorem int_of (hit : IntsAre items.toList ns) (i : Nat) (v : Value) (hv : items[i]? = some v) : ∃ k t, ns[i]? = some k ∧ v = .int k t := by
  obtain ⟨t, e⟩ := hit.int_at i v (by rw [Array.getElem?_toList, hv])
  have len : items.size = ns.length := by rw [← Array.length_toList, hit.length]
  have lt : i < ns.length := len ▸ (Array.getElem?_eq_some_iff.mp hv).1
  exact ⟨ns[i], t, List.getElem?_eq_getElem lt, by simp [e, List.getD_eq_getElem?_getD, lt]⟩
/-- the loop of set.update over a list's new iterator -/
theorem loop_fills {R : Result → Shared → Prop} (hh : A.in1.handled = none) (hS : s.heap.get? S = some (bareSet w)) (hl : s.heap.IsList l items) (hne : l ≠ S) (hit : IntsAre items.toList ns) (hb : ns.length + 1 < scanBound)
    (h : ∀ t, Fills w s S ns t → R (.ok (.ret .none)) t) :
    codeAny (model P w) A (.builtin "set.update.loop" ⟨[.ref S, .ref s.heap.objs.size], []⟩) R { s with heap := s.heap.push { cls := .type "list_iterator", data := .fields #[.ref l, .int 0 0] } } := by
  have len : items.size = ns.length := by rw [← Array.length_toList, hit.length]
  have lS := Heap.lt_size hS
  obtain ⟨ol, hol, _⟩ := id hl
  have ll := Heap.lt_size hol
  refine set_update_ints (Walks.list hh s.heap.objs.size l (Nat.ne_of_lt ll) items).toS S (fun m => ?_) ns len hb (int_of hit) items.size 0 _ (Nat.sub_zero _) (Nat.zero_le _) ⟨⟨_, Heap.get?_push_size _ rfl, rfl, rfl⟩, hl.push _⟩
    ⟨0, Nat.le_refl 0, setR_new_at (Heap.get?_push_of_some _ hS)⟩ fun t c mv hc hR => h t ⟨?_, ⟨c, len ▸ hc, hR⟩, fun b o ne e => ?_⟩
  · rcases List.mem_cons.mp m with e | m
    · exact Nat.ne_of_lt lS e
    · exact hne (List.mem_singleton.mp m).symm
  · obtain ⟨th, tg, td, tt, to⟩ := t
    have e1 : tg = s.gens := mv.gens
    have e2 : td = s.drawn := mv.drawn
    have e3 : to = s.os := mv.os
    exact ⟨th, tt, by rw [e1, e2, e3]⟩
  · have lb := Heap.lt_size e
    refine mv.heap b o (fun m => ?_) (Heap.get?_push_of_some _ e)
    rcases List.mem_cons.mp m with q | m
    · exact ne q
    · exact Nat.ne_of_lt lb (List.mem_singleton.mp m)
/-- set.__init__ of a bare set with a list -/
theorem init_fills {Q : PySem.Fin → Shared → Prop} {E : Value → Shared → Prop} (hh : A.handled = none) (hS : s.heap.get? S = some (bareSet w)) (hl : s.heap.IsList l items) (hne : l ≠ S) (hit : IntsAre items.toList ns) (hb : ns.length + 1 < scanBound)
    (h : ∀ t, Fills w s S ns t → Q (.done (.ret .none)) t) : wpAny (model P w) A (Builtin.«set.__init__» ⟨[.ref S, .ref l], []⟩) Q E s := by
  obtain ⟨ol, hol, hc, _, _⟩ := id hl
  have no1 : isSubtype ol.cls (.type "set") = pure false := hc ▸ F.sub_list_set
  have no2 : isSubtype ol.cls (.type "frozenset") = pure false := hc ▸ F.sub_list_frozenset
  have no3 : (ol.cls == Value.type "dict") = false := by rw [hc]; decide
  unfold Builtin.«set.__init__» noKeywords Builtin.Frozenset.updateFrom
  generalize hI : pyIter = iter
  wp_walk
  subst hI
  refine wpAny_pyIter_list hl (wpAny_bind (wpAny_runValue ?_))
  exact loop_fills hh hS hl hne hit hb fun t f => wpAny_pure (wpAny_pure (h t f))
/-- on from a call that gives something -/
theorem then_wants {M : Model} {k : Code} {Q E : Value → Shared → Prop} {R : Result → Shared → Prop} (h : codeAny M A k (wants Q E) s) (q : ∀ v t, Q v t → R (.ok (.ret v)) t) (e : ∀ x t, E x t → R (.error x) t) : codeAny M A k R s :=
  codeAny_mono h fun r t z => match r, z with
    | .error x, z => e x t z
    | .ok (.ret v), z => q v t z
    | .ok .next, z => False.elim z
    | .ok .brk, z => False.elim z
    | .ok .cont, z => False.elim z
theorem call_set_lstI (ns : List Int) {Q : Value → Shared → Prop} {E : Value → Shared → Prop} (hh : A.handled = none) (hl : s.heap.IsList l items) (hit : IntsAre items.toList ns) (hb : ns.length + 1 < scanBound)
    (h : ∀ (h' : Heap) (tk c : Nat), SetR w h' s.heap.objs.size (fun j => decide (j ∈ ns)) c → c ≤ ns.length → (∀ b o, s.heap.get? b = some o → h'.get? b = some o) → Q (.ref s.heap.objs.size) { s with heap := h', toks := tk }) :
    wpAny (model P w) A (call (.type "set") [.ref l]) Q E s := by
  obtain ⟨_, _, mro⟩ := F.called_set.mro
  have a1 := F.called_set.made
  have a2 := F.called_set.sub
  have a3 := F.called_set.notType
  have a4 := F.called_set.canCreate
  have a5 := F.typeCall_set_1 (.ref l)
  have a6 := F.called_set.init.lookup
  have a7 := F.called_set.init.bind (.ref s.heap.objs.size)
  have new : (s.heap.push (bareSet w)).get? s.heap.objs.size = some (bareSet w) := Heap.get?_push_size _ rfl
  have ty : Shared.TypeIs { s with heap := s.heap.push (bareSet w) } (.ref s.heap.objs.size) "set" := ⟨_, new, rfl⟩
  obtain ⟨ol, hol, _⟩ := id hl
  refine wpAny_call (codeAny_of_tree (wpAny_pure ⟨Code.quiet_builtin _ (by decide +kernel), codeAny_builtin F.entry_type_call ?_⟩))
  rw [Around.under_plain (weight_type_call_type "set" [.ref l] []) rfl]
  repeat (any_goals (first | assumption | wp_step))
  refine then_wants (code_set_led1 (.ref l) (E := E) (Q₁ := fun v t => v = .ref s.heap.objs.size ∧ t = { s with heap := s.heap.push (bareSet w) }) ⟨rfl, rfl⟩) (fun v t ⟨e1, e2⟩ => ?_) fun _ _ x => x
  subst e1 e2
  repeat (any_goals (first | assumption | wp_step))
  refine then_wants (codeAny_call_builtin (R := wants (fun v t => v = .none ∧ Fills w { s with heap := s.heap.push (bareSet w) } s.heap.objs.size ns t) E) F.called_set.init.plain F.entry_set_init (check_set_init_1 ty (init_fills (by simp [hh]) new (hl.push _) (Nat.ne_of_lt (Heap.lt_size hol)) hit hb fun t f => ⟨rfl, f⟩))) (fun v t ⟨e, f⟩ => ?_) fun _ _ x => x
  subst e
  obtain ⟨⟨h', tk, rfl⟩, ⟨c, hc, hS⟩, keep⟩ := f
  repeat (any_goals (first | assumption | wp_step))
  exact h h' tk c hS hc fun b o e => keep b o (Nat.ne_of_lt (Heap.lt_size e)) (Heap.get?_push_of_some _ e)
end
end G

/-! G16 -/
set_option Elab.async false
set_option linter.all false
set_option maxRecDepth 100000
set_option maxHeartbeats 4000000
namespace G
open PySem L2
/-! ## 21. Texts walked; slices; t += u -/
/-- the signs of a text -/
def chrs (x : Str) : List D := x.cps.toList.map fun c => D.str ⟨#[c]⟩
section
variable {X : Cx} {ρ : Rho} {ω ω1 ω2 : Om} {e a b c tg it : Expr} {d x y z : D} {pos p p1 p2 p3 p4 tpos : Pos}
theorem yields_str {w : World} {F0 : Hp} {x : Str} : Yields w F0 (Its x) (chrs x) where
  go := fun i F H _ _ hi => by
    show i < x.cps.size
    unfold chrs at hi; simpa using hi
  yld := fun B F H σ ρ ω i v H' W x1 hi ⟨e, c, hc, y⟩ => by
    subst e; subst y
    refine ⟨F, .str ⟨#[c]⟩, ?_, W, ex_refl _, Keep.refl, .str _⟩
    unfold chrs
    rw [List.getElem?_map, Array.getElem?_toList, hc]
    rfl
  stop := fun i F H _ _ hi => by
    show x.cps.size ≤ i
    unfold chrs at hi; simpa using hi
theorem di_str {x : Str} (h : DE X ρ ω ω1 it (.str x)) : DI X ρ ω ω1 tg it (chrs x) := di_of (pi_str sem_e) fun B F H σ W R k => h.go W fun v F1 H1 W1 _ _ r => by
  cases r
  exact ⟨_, rfl, k _ F1 H1 W1 yields_str⟩
theorem de_inS {k : Nat} {z : Str} (hm : behindInMarks .In b = false) (ha : DE X ρ ω ω1 a (.str ⟨#[k]⟩)) (hb : DE X ρ ω1 ω2 b (.str z)) : DE X ρ ω ω2 (.Compare a [.In] [b] pos) (.bl (decide (k ∈ z.cps.toList))) :=
  de_cmp op_in_sign (fun B F H σ ρ ω W u v r1 r2 Q q => by
    cases r1; cases r2
    exact ⟨k, z, rfl, rfl, q _ F H W (.bl _)⟩) hm ha hb
theorem cutV1 (vs : List V) : cutV vs (some 1) none = vs.drop 1 := by
  unfold cutV
  have e1 : HT.sIx vs.length 0 (some 1) = min 1 vs.length := HT.sIx_nat vs.length 0 1
  have e2 : HT.sIx vs.length vs.length none = vs.length := rfl
  rw [e1, e2]
  cases vs with
  | nil => rfl
  | cons v vs =>
    rw [show min 1 (v :: vs).length = 1 by simp]
    rw [List.take_of_length_le (by simp)]
/-- t[1:] -/
theorem de_sl1T {l : List D} {j : Nat} (h : DE X ρ ω ω1 e (.tup l)) : DE X ρ ω ω1 (.Subscript e (.Slice (some (.Constant (.int 1) j p1)) none none p2) pos) (.tup (l.drop 1)) :=
  de_of (pe_slice sl_tupA sem_e (po_some pe_int) po_none) fun B F H σ W Q k => h.go W fun v F1 H1 W1 _ _ r => by
    cases r with
    | tup hh q =>
      refine ⟨1, rfl, _, _, rfl, SqT.of (W1.g.s _ _ hh), fun hw => ?_, fun hw p hp => ?_⟩
      · have l0 := q.length
        rename_i vs'
        have e1 : HT.sIx vs'.length 0 (some 1) = min 1 vs'.length := HT.sIx_nat _ 0 1
        rw [e1] at hw
        have : l = [] := by
          cases l with
          | nil => rfl
          | cons d l => simp at l0; omega
        subst this
        exact k _ F1 H1 W1 (.tup hh q)
      · rw [cutV1]
        exact k _ _ _ (W1.laidF hp) (.tup upd_same ((q.drop 1).mono (ex_new (W1.g.fresh hp).2.2)))
theorem de_sl1L {l : List D} {j : Nat} (h : DE X ρ ω ω1 e (.lst l)) : DE X ρ ω ω1 (.Subscript e (.Slice (some (.Constant (.int 1) j p1)) none none p2) pos) (.lst (l.drop 1)) :=
  de_of (pe_slice sl_list sem_e (po_some pe_int) po_none) fun B F H σ W Q k => h.go W fun v F1 H1 W1 _ _ r => by
    cases r with
    | lst hh q =>
      refine ⟨1, rfl, _, _, rfl, SqL.of (W1.g.s _ _ hh), fun p hp => ?_⟩
      rw [cutV1]
      exact k _ _ _ (W1.laidF hp) (.lst upd_same ((q.drop 1).mono (ex_new (W1.g.fresh hp).2.2)))
/-- xs[::-1] -/
theorem de_revL {l : List D} {j : Nat} (h : DE X ρ ω ω1 e (.lst l)) : DE X ρ ω ω1 (.Subscript e (.Slice none none (some (.UnaryOp .USub (.Constant (.int 1) j p1) p2)) p3) pos) (.lst l.reverse) :=
  de_of (pe_revL sem_e) fun B F H σ W Q k => h.go W fun v F1 H1 W1 _ _ r => by
    cases r with
    | lst hh q => exact ⟨_, _, rfl, SqL.of (W1.g.s _ _ hh), fun p hp => k _ _ _ (W1.laidF hp) (.lst upd_same (q.reverse.mono (ex_new (W1.g.fresh hp).2.2)))⟩
end
/-! ### t[:0:-1] -/
section
variable {prog : Program} {w : World} {A : Around} {E : Value → Shared → Prop} {s : Shared}
/-- how far down, from the last to the second -/
theorem places_down (n : Nat) : Builtin.Slice.slicePlaces ((n : Int) - 1) (min 0 ((n : Int) - 1)) (-1) = n - 1 := by
  have step : ¬ (-1 : Int) > 0 := by decide
  rcases Nat.lt_or_ge 1 n with q | q
  · have m0 : min 0 ((n : Int) - 1) = 0 := Int.min_eq_left (by omega)
    simp only [Builtin.Slice.slicePlaces, step, if_false, m0, Int.neg_neg, Int.ediv_one]
    split <;> omega
  · have none : ¬ min 0 ((n : Int) - 1) < (n : Int) - 1 := by omega
    simp only [Builtin.Slice.slicePlaces, step, if_false, none]
    omega
open PyProof.Rows in
theorem applied_down {sl : Addr} {t0 t1 : Tok} {n : Nat} {Q : Int × Int × Nat → Shared → Prop} (hs : s.heap.IsSliceOf sl .none (.int 0 t0) (.int (-1) t1)) (h : Q ((n : Int) - 1, -1, n - 1) s) : wpAny (model prog w) A (Builtin.Slice.sliceApplied (.ref sl) (pure (n : Int))) Q E s := by
  obtain ⟨o, ho, _, hd⟩ := id hs
  have fields : ∀ {R : Value × Value × Value → Shared → Prop}, R (.none, .int 0 t0, .int (-1) t1) s → wpAny (model prog w) A (Builtin.Slice.sliceFields (.ref sl)) R E s := fun r => by
    unfold Builtin.Slice.sliceFields
    exact wpAny_bind (wpAny_field ho hd (x := .none) rfl (wpAny_bind (wpAny_field ho hd (x := .int 0 t0) rfl (wpAny_bind (wpAny_field ho hd (x := .int (-1) t1) rfl (wpAny_pure r))))))
  unfold Builtin.Slice.sliceApplied
  refine wpAny_bind (fields ?_)
  show wpAny _ _ (Builtin.Slice.slicePartIndex (.int (-1) t1) >>= _) _ _ s
  refine wpAny_bind (slicePart_int ?_)
  show wpAny _ _ (if false = true then _ else _) _ _ s
  rw [if_neg Bool.false_ne_true]
  refine wpAny_bind (slicePart_none (wpAny_bind (slicePart_int (wpAny_bind (wpAny_pure ?_)))))
  exact wpAny_pure (show Q ((n : Int) - 1, -1, Builtin.Slice.slicePlaces ((n : Int) - 1) (min 0 ((n : Int) - 1)) (-1)) s from (places_down n).symm ▸ h)
theorem fm_congr {α β : Type} {f g : α → Option β} : ∀ {l : List α}, (∀ x ∈ l, f x = g x) → l.filterMap f = l.filterMap g
  | [], _ => rfl
  | x :: l, h => by
    rw [List.filterMap_cons, List.filterMap_cons, h x List.mem_cons_self, fm_congr fun y hy => h y (List.mem_cons_of_mem _ hy)]
theorem pick_down (xs : List Value) : ((List.range (xs.length - 1)).filterMap fun (k : Nat) => xs.toArray[(((xs.length : Int) - 1) + (k : Int) * -1).toNat]?) = (xs.drop 1).reverse := by
  cases xs with
  | nil => rfl
  | cons x xs =>
    have e : ((List.range ((x :: xs).length - 1)).filterMap fun (k : Nat) => (x :: xs).toArray[((((x :: xs).length : Nat) : Int) - 1 + (k : Int) * -1).toNat]?) = ((List.range xs.length).filterMap fun (k : Nat) => xs.reverse[k]?) := by
      rw [show (x :: xs).length - 1 = xs.length by simp]
      refine fm_congr fun k hk => ?_
      have hk : k < xs.length := List.mem_range.mp hk
      rw [show ((((x :: xs).length : Nat) : Int) - 1 + (k : Int) * -1).toNat = xs.length - k by simp; omega]
      rw [List.getElem?_toArray, List.getElem?_reverse hk]
      rw [show xs.length - k = (xs.length - 1 - k) + 1 by omega, List.getElem?_cons_succ]
    rw [e, List.drop_one, List.tail_cons]
    have := fm_congr (l := List.range xs.length) (f := fun k => xs.reverse[k]?) (g := fun k => some (xs.reverse.getD k .none)) fun k hk => by
      have hk : k < xs.reverse.length := by simpa using List.mem_range.mp hk
      show xs.reverse[k]? = some (xs.reverse.getD k .none)
      rw [List.getD_eq_getElem?_getD, List.getElem?_eq_getElem hk]
      rfl
    rw [this]
    refine List.ext_getElem? fun i => ?_
    have e3 : (List.range xs.length).filterMap (fun k => some (xs.reverse.getD k .none)) = (List.range xs.length).map (fun k => xs.reverse.getD k .none) := by
      rw [← List.filterMap_eq_map]; rfl
    rw [e3, List.getElem?_map]
    by_cases hi : i < xs.length
    · rw [List.getElem?_range hi]
      show some (xs.reverse.getD i .none) = _
      rw [List.getD_eq_getElem?_getD, List.getElem?_eq_getElem (by simpa using hi)]
      rfl
    · rw [List.getElem?_eq_none (by simpa using hi), List.getElem?_eq_none (by simpa using hi)]
      rfl
/-- t[a slice] by what the slice comes to, the step not 1 -/
theorem item_by_slice {t sl : Addr} {xs ys : List Value} {lo st : Int} {n : Nat} {Q : Value → Shared → Prop} (ht : PyProof.Rows.IsTup s.heap t xs.toArray) (ty : s.TypeIs (.ref sl) "slice") (one : (st == 1) = false) (le : ys.length ≤ sizeLine)
    (app : ∀ (A : Around) (E : Value → Shared → Prop) (R : Int × Int × Nat → Shared → Prop), R (lo, st, n) s → wpAny (model prog w) A (Builtin.Slice.sliceApplied (.ref sl) (pure ((xs.toArray.size : Nat) : Int))) R E s)
    (pick : ((List.range n).filterMap fun (k : Nat) => xs.toArray[(lo + (k : Int) * st).toNat]?) = ys) (h : Q (.ref s.heap.objs.size) { s with heap := s.heap.push { cls := .type "tuple", data := .seq ys.toArray } }) : wpAny (model prog w) A (getItem (.ref t) (.ref sl)) Q E s := by
  have fits : sizeOk (.seq ys.toArray) := show ys.toArray.size ≤ sizeLine by rw [List.size_toArray]; exact le
  have slot := PyProof.Rows.slot_tuple_getitem
  unfold getItem
  refine wpAny_holding (wpAny_bind (wpAny_sequenceKey ht.typeIs (by decide) (wpAny_bind (wpAny_callSpecial?_slot (name := Str.ofString "__getitem__") ht.typeIs slot (wpAny_call_entry slot ht.typeIs PyProof.Rows.entry_tuple_getitem ?_ (PyProof.Rows.args_tuple_getitem _ _))))))
  unfold Builtin.«tuple.__getitem__»
  refine wpAny_bind (wpAny_of_eq (a := (.ref t, [.ref sl])) rfl (wpAny_bind (PyProof.Rows.tupleItemsOf_ ht (wpAny_bind (wpAny_typeOf ty ?_)))))
  rw [if_pos (beq_self_eq_true _)]
  refine wpAny_bind (app _ _ _ ?_)
  have part : (lo == 0 && st == 1 && n == xs.toArray.size) = false := by rw [one, Bool.and_false, Bool.false_and]
  dsimp only
  rw [part, if_neg Bool.false_ne_true, pick]
  have made : ∀ (A : Around) (R : Value → Shared → Prop), R (.ref s.heap.objs.size) { s with heap := s.heap.push { cls := .type "tuple", data := .seq ys.toArray } } → wpAny (model prog w) A (Builtin.Tuple.tupleExact ys.toArray) R E s := fun A R r => wpAny_newObj_type r fits
  exact wpAny_bind (made _ _ (wpAny_pure ⟨_, rfl, wpAny_pure h⟩))
end
def tDown (K : PySem.W.Frag) (te : TE) : TE := fun σ H Q => te σ H fun x H1 => ∃ a xs, x = .ref a ∧ SqT K H1 a xs ∧ ∀ p, H1 p = none → Q (.ref p) (upd H1 p (.tup (xs.drop 1).reverse))
section
variable {X : Cx} {ρ : Rho} {ω ω1 ω2 : Om} {e a b c tg it : Expr} {te : TE} {d x y z : D} {pos p p1 p2 p3 p4 tpos : Pos} {j k : Nat} {T : Post}
open PyProof.Rows in
theorem pe_down (he : PE X e te) : PE X (.Subscript e (.Slice none (some (.Constant (.int 0) j p1)) (some (.UnaryOp .USub (.Constant (.int 1) k p2) p3)) p4) pos) (tDown X.K te) := by
  refine ⟨fun pins s σ H Q I h => Subscript_ (thn (he.run pins s σ H _ I h) fun v s1 ⟨x, H1, I1, r1, a, xs, ex, hx, q⟩ => ?_)⟩
  subst ex
  have r1 : v = Value.ref a := r1
  subst r1
  have lo : PO X none (fun _ H R => R none H) := po_none
  have zero : PO X (some (.Constant (.int 0) j p1)) (tPart (tC (.int 0))) := po_some pe_int
  have down : PO X (some (.UnaryOp .USub (.Constant (.int 1) k p2) p3)) (tPart (tUn (rU fun i => .int (-i)) (tC (.int 1)))) := po_some (pe_un un_neg pe_int)
  refine wpAny_Slice (thn (lo.run pins s1 σ H1 (fun o H' => o = none ∧ H' = H1) I1 ⟨rfl, rfl⟩) fun u1 s2 ⟨o1, H2, I2, w1, e1, d1⟩ => thn (zero.run pins s2 σ H2 (fun o H' => o = some 0 ∧ H' = H2) I2 ⟨0, rfl, rfl, rfl⟩) fun u2 s3 ⟨o2, H3, I3, w2, e2, d2⟩ =>
    thn (down.run pins s3 σ H3 (fun o H' => o = some (-1) ∧ H' = H3) I3 ⟨1, rfl, -1, rfl, rfl, rfl⟩) fun u3 s4 ⟨o3, H4, I4, w3, e3, d3⟩ => ?_)
  subst e1 e2 e3 d1 d2 d3
  cases w1
  obtain ⟨t0, rfl⟩ : ∃ t, u2 = .int 0 t := by cases w2; exact ⟨_, rfl⟩
  obtain ⟨t1, rfl⟩ : ∃ t, u3 = .int (-1) t := by cases w3; exact ⟨_, rfl⟩
  have sl := Heap.IsSliceOf.new s4.heap .none (.int 0 t0) (.int (-1) t1)
  have I5 := I4.kept (t' := s4.toks) (h' := s4.heap.push { cls := .type "slice", data := .fields #[.none, .int 0 t0, .int (-1) t1] }) fun b ob q => Heap.get?_push_of_some _ q
  obtain ⟨its, r, ht, hz⟩ := I5.tuple hx
  have short : ((xs.drop 1).reverse).length ≤ sizeLine := by have := r.length; rw [List.length_reverse, List.length_drop]; omega
  have rr := (r.drop 1).reverse
  have ty : Shared.TypeIs { s4 with heap := s4.heap.push { cls := .type "slice", data := .fields #[.none, .int 0 t0, .int (-1) t1] } } (.ref s4.heap.objs.size) "slice" := let ⟨o, ho, hc, _⟩ := sl; ⟨o, ho, hc⟩
  have len := r.length
  refine tail_any (i := .ref s4.heap.objs.size) (ops := [.ref a, .ref s4.heap.objs.size]) ht.typeIs slot_tuple_getitem.lookup (item_by_slice (lo := (its.length : Int) - 1) (st := -1) (n := its.length - 1) (ys := (its.drop 1).reverse) ht ty rfl ?_ (fun A E R r => applied_down sl r) (pick_down its) ?_) (by with_unfolding_all rfl)
  · rw [List.length_reverse, List.length_drop]; omega
  · exact ⟨.ref _, _, I5.laid (t' := s4.toks) (o := .tup (xs.drop 1).reverse) (fun b ob q => Heap.get?_push_of_some _ q) (Nat.le_refl _) ⟨short, _, rr, IsTup.new _ _⟩, rfl, q _ (I5.hok.fresh (Nat.le_refl _))⟩
/-- t[:0:-1] -/
theorem de_down {l : List D} (h : DE X ρ ω ω1 e (.tup l)) : DE X ρ ω ω1 (.Subscript e (.Slice none (some (.Constant (.int 0) j p1)) (some (.UnaryOp .USub (.Constant (.int 1) k p2) p3)) p4) pos) (.tup (l.drop 1).reverse) :=
  de_of (pe_down sem_e) fun B F H σ W Q k => h.go W fun v F1 H1 W1 _ _ r => by
    cases r with
    | tup hh q => exact ⟨_, _, rfl, SqT.of (W1.g.s _ _ hh), fun p hp => k _ _ _ (W1.laidF hp) (.tup upd_same ((q.drop 1).reverse.mono (ex_new (W1.g.fresh hp).2.2)))⟩
/-- t += u, both not empty -/
theorem no_tuple_iadd : typeLookup (.type "tuple") (dunderI "add") = pure none := am_miss_of_fast (by decide +kernel)
def rICat (K : PySem.W.Frag) : R2 := fun x y H Q => ∃ a b xs ys, x = .ref a ∧ y = .ref b ∧ SqT K H a xs ∧ SqT K H b ys ∧ xs ≠ [] ∧ ys ≠ [] ∧ xs.length + ys.length ≤ sizeLine ∧ ∀ p, H p = none → Q (.ref p) (upd H p (.tup (xs ++ ys)))
open HT PyProof.Rows in
theorem iop_catT : OpR X (inplaceOp .Add) (rICat X.K) := by
  intro pins s σ H x y v u Q I rx ry h
  obtain ⟨a, b, xs, ys, rfl, rfl, ha, hb, hx, hy, hz, q⟩ := h
  cases rx
  cases ry
  obtain ⟨vs, r1, p1, _⟩ := I.tuple ha
  obtain ⟨ws, r2, p2, _⟩ := I.tuple hb
  have lv := r1.length
  have lw := r2.length
  have hv : vs ≠ [] := fun e => hx (List.length_eq_zero_iff.mp (by rw [lv, e]; rfl))
  have hw : ws ≠ [] := fun e => hy (List.length_eq_zero_iff.mp (by rw [lw, e]; rfl))
  obtain ⟨⟨cls, dd, data, sl⟩, ho, hc, n, hd⟩ := id p1
  obtain ⟨⟨cls2, dd2, data2, sl2⟩, ho2, hc2, n2, hd2⟩ := id p2
  simp only at hc hd hc2 hd2
  subst hc hd hc2 hd2
  have e : vs.toArray ++ ws.toArray = (vs ++ ws).toArray := by simp
  refine wpAny_inplaceOp_concat ⟨_, ho, rfl⟩ ⟨_, ho2, rfl⟩ no_tuple_iadd noFill_tuple_add seq_tuple_add (call_meets PySem.F.slot_tuple_add ⟨_, ho, rfl⟩ PySem.F.entry_tuple_add (PySem.F.args_tuple_add_2 _ _)
    (tuple_addW2 a b vs.toArray ws.toArray n n2 dd dd2 sl sl2 (by simpa using hv) (by simpa using hw) (by rw [List.size_toArray, List.size_toArray]; omega)) ⟨ho, ho2, ?_⟩)
  rw [e]
  refine ⟨.ref s.heap.objs.size, _, I.laid (t' := s.toks) (o := .tup (xs ++ ys)) (fun b ob q => Heap.get?_push_of_some _ q) (Nat.le_refl _) ⟨by rw [List.length_append]; exact hz, vs ++ ws, r1.append r2, IsTup.new _ _⟩, rfl, q _ (I.hok.fresh (Nat.le_refl _))⟩
end
end G

/-! G17 -/
set_option Elab.async false
set_option linter.all false
set_option maxRecDepth 100000
set_option maxHeartbeats 4000000
namespace G
open PySem L2
/-! ## 22. sorted, sets -/
/-- a tuple of ints -/
def dTI (l : List Int) : D := .tup (l.map D.int)
theorem code_inj {B : Int} : ∀ {a b : List Int}, a.length = b.length → TS.Bd B a → TS.Bd B b → TS.code B a = TS.code B b → a = b
  | [], [], _, _, _, _ => rfl
  | [], _ :: _, h, _, _, _ => by simp at h
  | _ :: _, [], h, _, _, _ => by simp at h
  | x :: a, y :: b, h, h1, h2, e => by
    have hl : a.length = b.length := by simpa using h
    have exy : x = y := by
      rcases Int.lt_trichotomy x y with q | q | q
      · have := TS.code_lt hl h1.tail h2.tail q; omega
      · exact q
      · have := TS.code_lt hl.symm h2.tail h1.tail q; omega
    subst exy
    have e2 : TS.code B a = TS.code B b := by
      have e : x * B ^ a.length + TS.code B a = x * B ^ b.length + TS.code B b := e
      rw [hl] at e
      omega
    rw [code_inj hl h1.tail h2.tail e2]
/-- what sorting settles: d ints each, in [0, B) -/
structure CodeOk (B : Int) (d : Nat) (l : List Int) : Prop where
  len : l.length = d
  bd : TS.Bd B l
theorem sorted_code {B : Int} {d : Nat} {l l' : List (List Int)} (hk : ∀ x ∈ l, CodeOk B d x) (p : l.Perm l') (h : l.Pairwise fun a b => TS.code B a ≤ TS.code B b) (h' : l'.Pairwise fun a b => TS.code B a ≤ TS.code B b) : l = l' :=
  List.Perm.eq_of_pairwise (fun a b ha hb h1 h2 => by
    have ka := hk a ha
    have kb := hk b (p.mem_iff.mpr hb)
    exact code_inj (ka.len.trans kb.len.symm) ka.bd kb.bd (Int.le_antisymm h1 h2)) h h' p
theorem RpL.mem {w : World} {F : Hp} : ∀ {l : List D} {vs : List V}, RpL w F l vs → ∀ v ∈ vs, ∃ d ∈ l, Rp w F d v
  | _, _, .nil, v, h => by simp at h
  | _, _, .cons r t, v, h => by
    rcases List.mem_cons.mp h with e | h
    · subst e; exact ⟨_, List.mem_cons_self, r⟩
    · obtain ⟨d, h1, h2⟩ := RpL.mem t v h
      exact ⟨d, List.mem_cons_of_mem _ h1, h2⟩
theorem Rp.dTI {w : World} {F : Hp} {l : List Int} {v : V} (r : Rp w F (G.dTI l) v) : ∃ a, v = .ref a ∧ F a = some (.tup (l.map V.int)) := by
  cases r with
  | tup h q => exact ⟨_, rfl, by rw [← q.ints]; exact h⟩
theorem rp_dTI {w : World} {F : Hp} {l : List Int} {a : Addr} (h : F a = some (.tup (l.map V.int))) : Rp w F (G.dTI l) (.ref a) := .tup h (RpL.of_ints l)
theorem map_inj {α β : Type} {f : α → β} (h : ∀ x y, f x = f y → x = y) : ∀ {a b : List α}, a.map f = b.map f → a = b
  | [], [], _ => rfl
  | [], _ :: _, e => by simp at e
  | _ :: _, [], e => by simp at e
  | x :: a, y :: b, e => by
    rw [List.map_cons, List.map_cons] at e
    obtain ⟨e1, e2⟩ := List.cons.inj e
    rw [h x y e1, map_inj h e2]
theorem dTI_inj {a b : List Int} (h : dTI a = dTI b) : a = b := map_inj (fun x y e => D.int.inj e) (D.tup.inj h)
theorem map_int_inj {a b : List Int} (h : a.map V.int = b.map V.int) : a = b := map_inj (fun x y e => V.int.inj e) h
/-- a list of values of which each is known -/
theorem rpl_known {w : World} {F : Hp} : ∀ (ys : List V), (∀ y ∈ ys, ∃ n : List Int, Rp w F (dTI n) y) → ∃ ms : List (List Int), RpL w F (ms.map dTI) ys
  | [], _ => ⟨[], .nil⟩
  | y :: ys, h => by
    obtain ⟨n, hn⟩ := h y List.mem_cons_self
    obtain ⟨ms, hm⟩ := rpl_known ys fun z hz => h z (List.mem_cons_of_mem _ hz)
    exact ⟨n :: ms, .cons hn hm⟩
theorem Rp.uniq {w : World} {F : Hp} {a b : List Int} {v : V} (h1 : Rp w F (G.dTI a) v) (h2 : Rp w F (G.dTI b) v) : a = b := by
  obtain ⟨x, rfl, e1⟩ := h1.dTI
  obtain ⟨y, e, e2⟩ := h2.dTI
  cases e
  rw [e1] at e2
  exact map_int_inj (HO.tup.inj (Option.some.inj e2))
theorem rpl_uniq {w : World} {F : Hp} : ∀ {ms ls : List (List Int)} {us : List V}, RpL w F (ms.map dTI) us → RpL w F (ls.map dTI) us → ms = ls
  | [], [], _, _, _ => rfl
  | [], _ :: _, _, .nil, r => by cases r
  | _ :: _, [], _, .cons _ _, r => by cases r
  | m :: ms, l :: ls, _, .cons a t, .cons b u => by rw [a.uniq b, rpl_uniq t u]
theorem rpl_perm {w : World} {F : Hp} {ys xs : List V} {ms ls : List (List Int)} (p : ys.Perm xs) (r1 : RpL w F (ms.map dTI) ys) (r2 : RpL w F (ls.map dTI) xs) : ms.Perm ls := by
  induction p generalizing ms ls with
  | nil =>
    cases ms with
    | nil => cases ls with
      | nil => exact .nil
      | cons l ls => cases r2
    | cons m ms => cases r1
  | cons x p ih =>
    cases ms with
    | nil => cases r1
    | cons m ms =>
      cases ls with
      | nil => cases r2
      | cons l ls =>
        cases r1 with
        | cons a t =>
          cases r2 with
          | cons b u =>
            rw [a.uniq b]
            exact (ih t u).cons _
  | swap x y l =>
    match ms, ls, r1, r2 with
    | m1 :: m2 :: ms, l1 :: l2 :: ls, .cons a (.cons a2 t), .cons b (.cons b2 u) =>
      rw [a.uniq b2, a2.uniq b]
      have : ms = ls := rpl_uniq t u
      rw [this]
      exact .swap _ _ _
  | trans p1 p2 ih1 ih2 =>
    rename_i l1 l2 l3
    have : ∃ ks : List (List Int), RpL w F (ks.map dTI) l2 := rpl_known l2 fun y hy => by
      obtain ⟨d, hd, r⟩ := r1.mem y (p1.mem_iff.mpr hy)
      obtain ⟨n, _, e⟩ := List.mem_map.mp hd
      exact ⟨n, by rw [e]; exact r⟩
    obtain ⟨ks, hk⟩ := this
    exact (ih1 r1 hk).trans (ih2 hk r2)
theorem rpl_pairwise {w : World} {F : Hp} {R : List Int → List Int → Prop} {S : V → V → Prop} (h : ∀ x y n m, S x y → Rp w F (dTI n) x → Rp w F (dTI m) y → R n m) : ∀ {ms : List (List Int)} {ys : List V}, RpL w F (ms.map dTI) ys → ys.Pairwise S → ms.Pairwise R
  | [], _, _, _ => .nil
  | m :: ms, _, .cons (v := v) (vs := ys) a t, p => by
    obtain ⟨p1, p2⟩ := List.pairwise_cons.mp p
    refine List.pairwise_cons.mpr ⟨fun n hn => ?_, rpl_pairwise h t p2⟩
    obtain ⟨i, hi⟩ := List.mem_iff_getElem?.mp hn
    obtain ⟨u, hu, ru⟩ := t.get (i := i) (d := dTI n) (by rw [List.getElem?_map, hi]; rfl)
    exact h v u m n (p1 u (List.mem_of_getElem? hu)) a ru
section
variable {X : Cx} {ρ : Rho} {ω ω1 ω2 : Om} {e a b c tg it : Expr} {d x y z : D} {pos p p1 p2 p3 p4 tpos : Pos}
/-- sorted(xs), xs a list of tuples of ints -/
theorem srtT {ls ms : List (List Int)} {B : Int} {n : Nat} (m : MG X.mg) (h : DE X ρ ω ω1 e (.lst (ls.map dTI))) (hn : 1 ≤ n) (hk : ∀ x ∈ ls, CodeOk B n x) (h64 : ls.length < 64) (hp : ms.Perm ls) (hs' : ms.Pairwise fun a b => TS.code B a ≤ TS.code B b)
    (hg : Gl X "sorted" := by exact rfl) (hs : starEach [e] X.env = (false, eval e X.env) :: starEach [] X.env := by rfl) : DE X ρ ω ω1 (.Call (.Name "sorted" p) [e] [] pos) (.lst (ms.map dTI)) :=
  de_callB (cr_sortT (d := n) (B := B) hn) (fun B0 F H σ ρ ω W vs r Q k => by
    obtain ⟨v, rfl, r1⟩ := r.one
    cases r1 with
    | lst h q =>
      refine ⟨_, _, rfl, SqL.of (W.g.s _ _ h), by rw [q.length, List.length_map]; exact h64, fun x hx => ?_, fun ys p py pw hp0 => ?_⟩
      · obtain ⟨d, hd, r⟩ := q.mem x hx
        obtain ⟨l, hl, rfl⟩ := List.mem_map.mp hd
        obtain ⟨a, e, ha⟩ := r.dTI
        exact ⟨l, ⟨a, e, SqT.of (W.g.s _ _ ha)⟩, (hk l hl).len, (hk l hl).bd⟩
      · have known : ∀ y ∈ ys, ∃ n : List Int, Rp X.w F (dTI n) y := fun y hy => by
          obtain ⟨d, hd, r⟩ := q.mem y (py.mem_iff.mp hy)
          obtain ⟨l, hl, rfl⟩ := List.mem_map.mp hd
          exact ⟨l, r⟩
        obtain ⟨ks, rk⟩ := rpl_known ys known
        have pk : ks.Perm ls := rpl_perm py rk q
        have sk : ks.Pairwise fun a b => TS.code B a ≤ TS.code B b := rpl_pairwise (fun x y n m hS rx ry => by
          obtain ⟨a, e1, h1⟩ := rx.dTI
          obtain ⟨b, e2, h2⟩ := ry.dTI
          exact hS n m ⟨a, e1, SqT.of (W.g.s _ _ h1)⟩ ⟨b, e2, SqT.of (W.g.s _ _ h2)⟩) rk pw
        have e : ks = ms := sorted_code (fun x hx => hk x (pk.mem_iff.mp hx)) (pk.trans hp.symm) sk hs'
        subst e
        exact k _ _ _ (W.laidF hp0) (.lst upd_same (rk.mono (ex_new (W.g.fresh hp0).2.2)))) m.sorted hg (by decide +kernel) (da_1 h hs) (by decide) (by decide) hs (by rfl)
/-- sorted(set(xs)), xs a list of tuples of ints -/
theorem srtSetT {ls ms : List (List Int)} {B : Int} {n : Nat} (m : MG X.mg) (h : DE X ρ ω ω1 e (.lst (ls.map dTI))) (hn : 1 ≤ n) (hk : ∀ x ∈ ls, CodeOk B n x) (h64 : ls.length < 64) (hnd : ms.Nodup) (hm : ∀ x, x ∈ ms ↔ x ∈ ls) (hs' : ms.Pairwise fun a b => TS.code B a ≤ TS.code B b)
    (hu : X.A.units + 64 < cLine) (hc : X.calm = true := by rfl) (hg : Gl X "sorted" := by exact rfl) (hg2 : Gl X "set" := by exact rfl) (hs : starEach [e] X.env = (false, eval e X.env) :: starEach [] X.env := by rfl)
    (hs2 : starEach [.Call (.Name "set" p1) [e] [] p2] X.env = (false, eval (.Call (.Name "set" p1) [e] [] p2) X.env) :: starEach [] X.env := by rfl) : DE X ρ ω ω1 (.Call (.Name "sorted" p) [.Call (.Name "set" p1) [e] [] p2] [] pos) (.lst (ms.map dTI)) :=
  de_of (pe_callB (cr_sortedT hc) hg m.sorted (by decide +kernel) (pa_cons (pe_callTy (cr_setOfT hc hu) hg2 m.set (by decide +kernel) sem_a (by decide) (by decide) hs (by rfl)) pa_nil hs2) (by decide) (by decide) hs2 (by rfl)) fun B0 F H σ W Q k =>
    (da_1 h hs).go W fun vs F1 H1 W1 _ _ r => by
      obtain ⟨v, rfl, r1⟩ := r.one
      cases r1 with
      | @lst l us _ h q =>
        have addr : ∀ u ∈ us, ∃ a, ∃ x ∈ ls, u = V.ref a ∧ F1 a = some (.tup (x.map V.int)) := fun u hu => by
          obtain ⟨d, hd, r⟩ := q.mem u hu
          obtain ⟨x, hx, rfl⟩ := List.mem_map.mp hd
          obtain ⟨a, e1, e2⟩ := r.dTI
          exact ⟨a, x, hx, e1, e2⟩
        -- the addresses with their ints
        have ex : ∃ ks : List (Addr × List Int), us = ks.map (fun p => V.ref p.1) ∧ ks.map (·.2) = ls ∧ ∀ p ∈ ks, F1 p.1 = some (.tup (p.2.map V.int)) := by
          have go : ∀ (ls : List (List Int)) (us : List V), RpL X.w F1 (ls.map dTI) us → ∃ ks : List (Addr × List Int), us = ks.map (fun p => V.ref p.1) ∧ ks.map (·.2) = ls ∧ ∀ p ∈ ks, F1 p.1 = some (.tup (p.2.map V.int)) := by
            intro ls
            induction ls with
            | nil => intro us r; cases r; exact ⟨[], rfl, rfl, fun p hp => nomatch hp⟩
            | cons x ls ih =>
              intro us r
              cases r with
              | cons r t =>
                obtain ⟨a, rfl, ha⟩ := r.dTI
                obtain ⟨ks, e1, e2, e3⟩ := ih _ t
                refine ⟨(a, x) :: ks, by rw [e1]; rfl, by rw [List.map_cons, e2], fun p hp => ?_⟩
                rcases List.mem_cons.mp hp with e | hp
                · subst e; exact ha
                · exact e3 p hp
          exact go ls us q
        obtain ⟨ks, eu, ek, hF⟩ := ex
        subst eu
        have lk : ks.length = ls.length := by rw [← ek, List.length_map]
        refine ⟨l, ks, rfl, SqL.of (W1.g.s _ _ h), fun p hp => SqT.of (W1.g.s _ _ (hF p hp)), by rw [lk]; exact h64, fun S L hS hL1 hL2 => ?_⟩
        have W2 := W1.laid (o := SetTO X.prog X.w S L) hS
        refine ⟨S, L, n, B, rfl, upd_same, fun p hp => SqT.of (W2.g.s _ _ (hF p (hL1 p hp))), hn, fun p hp => ?_, fun L' t pm nd hf pw ht => ?_⟩
        · have : p.2 ∈ ls := by rw [← ek]; exact List.mem_map.mpr ⟨p, hL1 p hp, rfl⟩
          exact ⟨(hk _ this).len, (hk _ this).bd⟩
        · have hsub : ∀ p ∈ L', p ∈ ks := fun p hp => hL1 p (pm.mem_iff.mp hp)
          have rL : RpL X.w F1 ((L'.map (·.2)).map dTI) (L'.map fun q => V.ref q.1) := by
            have go : ∀ (L : List (Addr × List Int)), (∀ p ∈ L, p ∈ ks) → RpL X.w F1 ((L.map (·.2)).map dTI) (L.map fun q => V.ref q.1) := by
              intro L
              induction L with
              | nil => exact fun _ => .nil
              | cons p L ih => exact fun hL => .cons (rp_dTI (hF p (hL p List.mem_cons_self))) (ih fun q hq => hL q (List.mem_cons_of_mem _ hq))
            exact go L' hsub
          have e : L'.map (·.2) = ms := by
            refine sorted_code (B := B) (d := n) (fun x hx => ?_) ?_ (List.pairwise_map.mpr pw) hs'
            · obtain ⟨p, hp, rfl⟩ := List.mem_map.mp hx
              have : p.2 ∈ ls := by rw [← ek]; exact List.mem_map.mpr ⟨p, hsub p hp, rfl⟩
              exact hk _ this
            · refine (List.perm_ext_iff_of_nodup nd hnd).mpr fun x => ?_
              rw [hm, ← ek]
              constructor
              · intro hx
                obtain ⟨p, hp, rfl⟩ := List.mem_map.mp hx
                exact List.mem_map.mpr ⟨p, hsub p hp, rfl⟩
              · intro hx
                obtain ⟨p, hp, rfl⟩ := List.mem_map.mp hx
                have : p.2 ∈ L.map (·.2) := hL2 p hp
                obtain ⟨q, hq, e⟩ := List.mem_map.mp this
                exact List.mem_map.mpr ⟨q, pm.mem_iff.mpr hq, e⟩
          rw [e] at rL
          exact k _ _ _ (W2.laidF ht) (.lst upd_same (rL.mono (ex_new (W2.g.fresh ht).2.2)))
/-- sorted(set(xs)), xs a tuple or a list of ints -/
def rSetI (K : PySem.W.Frag) (w : World) : List V → Hp → VK → Prop := fun xs H Q => ∃ (l : Addr) (ns : List Int), xs = [V.ref l] ∧ (SqL K H l (ns.map V.int) ∨ SqT K H l (ns.map V.int)) ∧ ns.length < 64 ∧
  ∀ a n, H a = none → n ≤ ns.length → Q (.ref a) (upd H a (SetO w a (fun j => decide (j ∈ ns)) n))
theorem cr_setI (hc : X.calm = true) : CallR X (.type "set") (rSetI X.K X.w) := by
  intro pins s σ H xs us Q I r h
  obtain ⟨l, ns, rfl, hl, hf, q⟩ := h
  obtain ⟨u, eu, rx⟩ := vals1 r
  subst eu
  obtain rfl : u = Value.ref l := rx
  have fin : ∀ (h' : Heap) (tk c : Nat), SetR X.w h' s.heap.objs.size (fun j => decide (j ∈ ns)) c → c ≤ ns.length → (∀ b o, s.heap.get? b = some o → h'.get? b = some o) → EP X pins σ Q (.ref s.heap.objs.size) { s with heap := h', toks := tk } := fun h' tk c R hcn k =>
    ⟨.ref s.heap.objs.size, _, I.laid (t' := tk) k (Nat.le_refl _) (setO_new R), rfl, q _ c (I.hok.fresh (Nat.le_refl _)) hcn⟩
  rcases hl with hl | hl
  · obtain ⟨its, rv, pl, _⟩ := I.list hl
    exact call_set_lstI (P := X.prog) ns (I.ok.hd hc) pl.isList (by simpa using intsAre_of rv) (by unfold scanBound; omega) fin
  · obtain ⟨its, rv, pt, _⟩ := I.tuple hl
    exact call_set_tupI (P := X.prog) ns (I.ok.hd hc) (show s.heap.IsTuple l its.toArray from pt) (by simpa using intsAre_of rv) (by unfold scanBound; omega) fin
theorem srtSetI {ns ms : List Int} (m : MG X.mg) (h : DE X ρ ω ω1 e (.lst (ns.map D.int)) ∨ DE X ρ ω ω1 e (.tup (ns.map D.int))) (h64 : ns.length < 64) (hs' : ms.Pairwise (· < ·)) (hm : ∀ k, k ∈ ms ↔ k ∈ ns)
    (hc : X.calm = true := by rfl) (hg : Gl X "sorted" := by exact rfl) (hg2 : Gl X "set" := by exact rfl) (hs : starEach [e] X.env = (false, eval e X.env) :: starEach [] X.env := by rfl)
    (hs2 : starEach [.Call (.Name "set" p1) [e] [] p2] X.env = (false, eval (.Call (.Name "set" p1) [e] [] p2) X.env) :: starEach [] X.env := by rfl) : DE X ρ ω ω1 (.Call (.Name "sorted" p) [.Call (.Name "set" p1) [e] [] p2] [] pos) (.lst (ms.map D.int)) := by
  have fin : ∀ {B0 : Base} {F1 H1 : Hp} {σ : St} (W1 : Wd X.w B0 F1 H1 σ ρ ω1) (Q : VK) (k : ∀ v F' H', Wd X.w B0 F' H' σ ρ ω1 → Rp X.w F' (.lst (ms.map D.int)) v → Q v H') (a : Addr), (SqL X.K H1 a (ns.map V.int) ∨ SqT X.K H1 a (ns.map V.int)) →
      rSetI X.K X.w [V.ref a] H1 fun x H2 => tNil σ H2 fun vs H3 => rSortedSet X.w (x :: vs) H3 Q := fun {B0 F1 H1 σ} W1 Q k a ha => by
    refine ⟨a, ns, rfl, ha, h64, fun S c hS hcn => ?_⟩
    refine ⟨S, _, c, rfl, upd_same, by omega, fun ks t pw hks hl ht => ?_⟩
    have e : ks = ms := by
      refine List.Perm.eq_of_pairwise (fun a b _ _ h1 h2 => by omega) pw hs' ((List.perm_ext_iff_of_nodup (pw.imp fun h e => by omega) (hs'.imp fun h e => by omega)).mpr fun x => ?_)
      rw [hks, hm]
      simp
    subst e
    exact k _ _ _ ((W1.laid hS).laidF ht) (.lst upd_same (RpL.of_ints _))
  refine de_of (pe_callB (cr_sortedSet hc) hg m.sorted (by decide +kernel) (pa_cons (pe_callTy (cr_setI hc) hg2 m.set (by decide +kernel) sem_a (by decide) (by decide) hs (by rfl)) pa_nil hs2) (by decide) (by decide) hs2 (by rfl)) fun B0 F H σ W Q k => ?_
  rcases h with h | h
  · refine (da_1 h hs).go W fun vs F1 H1 W1 _ _ r => ?_
    obtain ⟨v, rfl, r1⟩ := r.one
    cases r1 with
    | lst h q =>
      have e := q.ints
      subst e
      exact fin W1 Q k _ (.inl (SqL.of (W1.g.s _ _ h)))
  · refine (da_1 h hs).go W fun vs F1 H1 W1 _ _ r => ?_
    obtain ⟨v, rfl, r1⟩ := r.one
    cases r1 with
    | tup h q =>
      have e := q.ints
      subst e
      exact fin W1 Q k _ (.inr (SqT.of (W1.g.s _ _ h)))
end
end G

/-! G18 -/
set_option Elab.async false
set_option linter.all false
set_option maxRecDepth 100000
set_option maxHeartbeats 4000000
namespace G
open PySem L2
/-! ## 23. t += u; tuple(range(n)); local defs; keywords; repr -/
section
variable {X : Cx} {ρ : Rho} {ω ω1 ω2 ω3 : Om} {e a b c tg it : Expr} {es : List Expr} {te : TE} {d x y y2 z : D} {pos p p1 p2 p3 p4 tpos : Pos} {T : Post}
/-- i += e (tuples) -/
theorem ds_augT {i : Nat} {n : Str} {pos' : Pos} {l l2 : List D} (hd : ρ[i]? = some (some (.tup l))) (h : DE X ρ ω ω1 e (.tup l2)) (n1 : l ≠ []) (n2 : l2 ≠ []) (hz : l.length + l2.length ≤ 100000) (k : T.nx (ρ.set i (some (.tup (l ++ l2)))) ω1) (hN : X.N.Nodup) (hi : X.N[i]? = some n := by rfl) (hx : Loc X.env.scope n := by first | exact Or.inl rfl | exact Or.inr rfl)
    (hω : ∀ p ∈ ω1, p.1 ≠ i := by first | exact nil_om | simp) (hf : X.fn n = true ∨ X.env.scope.names.lookup n = some .local := by first | exact .inl rfl | exact .inr rfl) : DS X ρ ω (.AugAssign (.Name n pos') .Add e pos) T :=
  ds_of (ps_aug hN hi hx sem_e (op := .Add) (ti := rICat X.K) iop_catT hf) fun B F H σ Dn W M => by
    obtain ⟨v, e1, r1⟩ := W.dat i _ hd
    refine ⟨_, e1, h.go W fun u F1 H1 W1 x1 _ r => ?_⟩
    cases r1 with
    | tup h1 q1 =>
      cases r with
      | tup h2 q2 =>
        refine ⟨_, _, _, _, rfl, rfl, SqT.of (W1.g.s _ _ (x1 _ _ h1)), SqT.of (W1.g.s _ _ h2), ?_, ?_, by rw [q1.length, q2.length]; exact sz hz, fun p hp => ?_⟩
        · intro e0; subst e0; cases q1; exact n1 rfl
        · intro e0; subst e0; cases q2; exact n2 rfl
        · exact M.nx _ _ _ _ _ k ((W1.laidF hp).set (.tup upd_same (((q1.mono x1).append q2).mono (ex_new (W1.g.fresh hp).2.2))) hω)
theorem tupRng {n : Nat} (m : MG X.mg) (hn : n ≤ 1000) (h : DE X ρ ω ω1 e (.int n)) (hc : X.calm = true := by rfl) (hg : Gl X "tuple" := by exact rfl) (hg2 : Gl X "range" := by exact rfl) (hs : starEach [e] X.env = (false, eval e X.env) :: starEach [] X.env := by rfl)
    (hs2 : starEach [.Call (.Name "range" p1) [e] [] p2] X.env = (false, eval (.Call (.Name "range" p1) [e] [] p2) X.env) :: starEach [] X.env := by rfl) : DE X ρ ω ω1 (.Call (.Name "tuple" p) [.Call (.Name "range" p1) [e] [] p2] [] pos) (.tup ((List.range n).map fun (i : Nat) => D.int i)) :=
  de_of (pe_tupRg hc hg m.tuple (prg_1 hg2 m.range sem_e hs) hs2) fun B F H σ W Q k => h.go W fun v F1 H1 W1 _ _ r => by
    cases r
    refine ⟨n, rfl, RgOk.of_le (by omega) (by omega) (by omega) (by omega), fun q hq => ?_⟩
    have e1 : rgV 0 (n : Int) = ((List.range n).map fun (i : Nat) => (i : Int)).map V.int := by
      unfold rgV
      rw [List.map_map]
      rw [show ((n : Int) - 0).toNat = n by omega]
      refine List.map_congr_left fun i _ => ?_
      show V.int (0 + (i : Int)) = V.int (i : Int)
      rw [Int.zero_add]
    rw [e1]
    have e2 : ((List.range n).map fun (i : Nat) => D.int i) = ((List.range n).map fun (i : Nat) => (i : Int)).map D.int := by rw [List.map_map]; rfl
    exact k _ _ _ (W1.laidF hq) (.tup upd_same (by rw [e2]; exact RpL.of_ints _))
/-- the def at f keeps this promise -/
structure CalledAt (P : Program) (w : World) (K : PySem.W.Frag) (mg : Str → Option Value) (base : Heap) (j : Nat) (f : Addr) (n : Nat) (R : List D → D → Prop) : Prop where
  ex : ∃ fd ps, ps.length = n ∧ FnOk P w K mg base CX0 j f fd ps (PSp w n R) ∧ PySem.W.keepIn K (.ref f) = true ∧ Binds K fd ps []
theorem Callee.at {P : Program} {w : World} {K : PySem.W.Frag} {mg : Str → Option Value} {base : Heap} {j : Nat} {x : Str} {n : Nat} {R : List D → D → Prop} (C : Callee P w K mg base j x n R) : ∃ f, mg x = some (.ref f) ∧ CalledAt P w K mg base j f n R := by
  obtain ⟨f, fd, ps, hl, F, hm, hk, hb⟩ := C.ex
  exact ⟨f, hm, fd, ps, hl, F, hk, hb⟩
/-- a local name that holds a def is called -/
theorem de_callL {i j k : Nat} {f : Addr} {n : Str} {R : List D → D → Prop} (C : CalledAt X.prog X.w X.K X.mg X.base j f 1 R) (hr : Room k X.A) (hj : j ≤ k) (hf : ρ[i]? = some (some (.fn f))) (ha : DE X ρ ω ω1 a x) (hR : R [x] z) (hN : X.N[i]? = some n := by rfl) (hv : Vis X.env.scope n := by first | exact Or.inl rfl | exact Or.inr (Or.inl rfl) | exact Or.inr (Or.inr rfl))
    (hdb : (n == ("__debug__" : Str)) = false := by decide) (hcd : (n == ("__classdict__" : Str)) = false := by decide)
    (he : starEach [a] X.env = (false, eval a X.env) :: starEach [] X.env := by rfl) (hpl : (backTo pos (starEach [] X.env)).any (·.1) = false := by rfl) : DE X ρ ω ω1 (.Call (.Name n p) [a] [] pos) z := by
  obtain ⟨fd, ps, hl, F, hk, hb⟩ := C.ex
  refine de_of (pe_callL (i := i) F (hr.mono hj) hN hv hk hb .nil pass0 sem_a hdb hcd he hpl) fun B F0 H σ W Q k => ?_
  obtain ⟨v, e1, r1⟩ := W.dat i _ hf
  cases r1
  refine ⟨e1, (da_1 ha he).go W fun vs F1 H1 W1 _ _ r => ?_⟩
  rw [List.append_nil]
  exact PSp.use W1 r hR rfl k
/-- a def that is called with keywords ks alone, its parameters in the other order -/
structure CalleeV (P : Program) (w : World) (K : PySem.W.Frag) (mg : Str → Option Value) (base : Heap) (j : Nat) (x : Str) (n : Nat) (ks : List Str) (R : List D → D → Prop) : Prop where
  ex : ∃ f fd ps, ps.length = n ∧ ks.length = n ∧ FnOk P w K mg base CX0 j f fd ps (PSp w n R) ∧ mg x = some (.ref f) ∧ PySem.W.keepIn K (.ref f) = true ∧ KBn K fd ps 0 ks (fun _ ws => ws.reverse) (fun _ zs => zs.reverse)
theorem run_kbn {pins : List (Addr × Obj)} {σ : St} {H : Hp} {s : Shared} {Q : VK} {j n : Nat} {f : Addr} {fd : FuncData} {ps ks : List Str} {sp : Sp} {us ws : List Value} {vs zs : List V} {g : List Value → List Value → List Value} {gV : List V → List V → List V} (F : FnOk X.prog X.w X.K X.mg X.base CX0 j f fd ps sp) (hr : Room j X.A) (hb : KBn X.K fd ps n ks g gV)
    (I : Inv X pins σ H s) (r : Vals vs us) (rz : Vals zs ws) (l1 : us.length = n) (l2 : ws.length = ks.length) (h : sp (gV vs zs) H Q E0) : wpAny (model X.prog X.w) X.A (call (.ref f) us (ks.zip ws)) (EP X pins σ Q) X.xe s := by
  have r2 := hb.rel r rz
  refine wpAny_call (codeAny_mono (F.run X.A X.stack s H ⟨us, ks.zip ws⟩ (g us ws) (gV vs zs) Q E0 hr I.env0 (hb.to s us ws I.kIn l1 l2) r2 h) fun r s' hq => ?_)
  cases r with
  | error e => exact False.elim hq
  | ok fl =>
    cases fl with
    | ret u => exact I.after hq
    | next => exact False.elim hq
    | brk => exact False.elim hq
    | cont => exact False.elim hq
/-- the keywords' values -/
def EvK (X : Cx) (kws : List Keyword) (ρ : Rho) (ω ω' : Om) (ds : List D) : Prop := ∃ t, PK X kws t ∧ EvA X.w t ρ ω ω' ds
theorem ek_nil : EvK X [] ρ ω ω [] := ⟨_, pk_nil, fun B F H σ W Q k => k [] F H W .nil⟩
theorem ek_cons {nm : Option Str} {kpos : Pos} {kws : List Keyword} {ds : List D} (ha : DE X ρ ω ω1 a x) (hr : EvK X kws ρ ω1 ω2 ds) : EvK X (⟨nm, a, kpos⟩ :: kws) ρ ω ω2 (x :: ds) := by
  obtain ⟨t, ht, hv⟩ := hr
  exact ⟨_, pk_cons sem_e ht, fun B F H σ W Q k => ha.go W fun v F1 H1 W1 _ _ r1 => hv.go W1 fun vs F2 H2 W2 x2 _ r2 => k (v :: vs) F2 H2 W2 (.cons (r1.mono x2) r2)⟩
theorem de_callV {n : Str} {j k N : Nat} {ks : List Str} {kws : List Keyword} {R : List D → D → Prop} {ds : List D} (C : CalleeV X.prog X.w X.K X.mg X.base j n N ks R) (hr : Room k X.A) (hj : j ≤ k) (hkw : EvK X kws ρ ω ω1 ds) (hR : R ds.reverse z) (hn : ds.length = N := by rfl) (hg : Gl X n := by exact rfl)
    (hall : (backToKw pos (keywordEach kws X.env)).all (·.1.isSome) = true := by rfl) (hks : (backToKw pos (keywordEach kws X.env)).filterMap (·.1) = ks := by rfl) (hdb : (n == ("__debug__" : Str)) = false := by decide)
    (hpl : ((backTo pos (starEach [] X.env)).any (·.1) || (backToKw pos (keywordEach kws X.env)).any (·.1.isNone)) = false := by rfl) : DE X ρ ω ω1 (.Call (.Name n p) [] kws pos) z := by
  obtain ⟨f, fd, ps, hl, hl2, F, hm, hk, hb⟩ := C.ex
  obtain ⟨t, ht, hv⟩ := hkw
  refine de_of (te := fun σ H Q => t σ H fun zs H2 => zs.length = ks.length ∧ PSp X.w N R zs.reverse H2 Q E0) ⟨fun pins s σ H Q I h => ?_⟩ fun B F0 H σ W Q q => hv.go W fun vs F1 H1 W1 _ _ r1 => ?_
  · refine wpAny_Call_Name_kw (ld_glob I hg hm ?_ hdb)
    refine PySem.W.callWith_KW0 (h₀ := X.base) I.ok.mod.kin hk hall ?_ hpl
    refine thn (ht.run pos pins s σ H _ I h) fun ws s2 ⟨zs, H2, I2, rz, l2, q2⟩ => ⟨I2.kIn, ?_⟩
    rw [hks]
    exact run_kbn (us := []) (vs := []) F (hr.mono hj) hb I2 .nil rz rfl (by rw [← rz.length]; exact l2) q2
  · refine ⟨by rw [r1.length, hn, hl2], ?_⟩
    exact PSp.use W1 r1.reverse hR (by rw [List.length_reverse]; exact hn) q
/-- f(a, b, k = c): the keyword last -/
structure CalleeK (P : Program) (w : World) (K : PySem.W.Frag) (mg : Str → Option Value) (base : Heap) (j : Nat) (x : Str) (k : Str) (R : List D → D → Prop) : Prop where
  ex : ∃ f fd ps, ps.length = 3 ∧ FnOk P w K mg base CX0 j f fd ps (PSp w 3 R) ∧ mg x = some (.ref f) ∧ PySem.W.keepIn K (.ref f) = true ∧ KBn K fd ps 2 [k] (fun us ws => us ++ ws) (fun vs zs => vs ++ zs)
theorem de_callK {n : Str} {j k : Nat} {kn : Str} {kws : List Keyword} {R : List D → D → Prop} (C : CalleeK X.prog X.w X.K X.mg X.base j n kn R) (hr : Room k X.A) (hj : j ≤ k) (ha : DE X ρ ω ω1 a x) (hb : DE X ρ ω1 ω2 b y) (hkw : EvK X kws ρ ω2 ω3 [y2]) (hR : R [x, y, y2] z) (hg : Gl X n := by exact rfl)
    (hall : (backToKw pos (keywordEach kws X.env)).all (·.1.isSome) = true := by rfl) (hks : (backToKw pos (keywordEach kws X.env)).filterMap (·.1) = [kn] := by rfl) (hdb : (n == ("__debug__" : Str)) = false := by decide)
    (he : starEach [a, b] X.env = (false, eval a X.env) :: starEach [b] X.env := by rfl) (he2 : starEach [b] X.env = (false, eval b X.env) :: starEach [] X.env := by rfl)
    (hpl : ((backTo pos (starEach [a, b] X.env)).any (·.1) || (backToKw pos (keywordEach kws X.env)).any (·.1.isNone)) = false := by rfl) : DE X ρ ω ω3 (.Call (.Name n p) [a, b] kws pos) z := by
  obtain ⟨f, fd, ps, hl, F, hm, hk, hbn⟩ := C.ex
  obtain ⟨t, ht, hv⟩ := hkw
  refine de_of (te := fun σ H Q => semA X [a, b] σ H fun vs H1 => vs.length = 2 ∧ t σ H1 fun zs H2 => zs.length = 1 ∧ PSp X.w 3 R (vs ++ zs) H2 Q E0) ⟨fun pins s σ H Q I h => ?_⟩ fun B F0 H σ W Q q => (da_cons ha (da_1 hb he2) he).go W fun vs F1 H1 W1 _ _ r1 => ⟨by rw [r1.length]; rfl, hv.go W1 fun zs F2 H2 W2 x2 _ r2 => ?_⟩
  · refine wpAny_Call_Name_kw (ld_glob I hg hm ?_ hdb)
    refine PySem.W.callWith_KW (h₀ := X.base) I.ok.mod.kin hk hall (thn (sem_a.run pos pins s σ H _ I h) fun us s1 ⟨vs, H1, I1, r, lv, q⟩ => ?_) hpl he
    refine thn (ht.run pos pins s1 σ H1 _ I1 q) fun ws s2 ⟨zs, H2, I2, rz, l2, q2⟩ => ⟨I2.kIn, ?_⟩
    rw [hks]
    exact run_kbn F (hr.mono hj) hbn I2 r rz (by show us.length = 2; rw [← r.length]; exact lv) (by rw [← rz.length]; exact l2) q2
  · refine ⟨by rw [r2.length]; rfl, ?_⟩
    exact PSp.use W2 ((r1.mono x2).append r2) hR rfl q
/-- repr(e) -/
theorem call_repr {d : PyData} (hg : X.A.guards = some []) (hs : d.showable = true) (hnd : d.hasDict = false) (hu : X.A.units + (d.depth + 1) < cLine) (hz : d.shown.length ≤ sizeLine) : CallR X (.builtin "repr") (fun xs H Q => ∃ a, xs = [V.ref a] ∧ Dp X.K H (.ref a) d ∧ Q (.str d.shown) H) := by
  intro pins s σ H xs us Q I r h
  obtain ⟨a, rfl, hd, q⟩ := h
  obtain ⟨u, rfl, ru⟩ := vals1 r
  obtain rfl : u = Value.ref a := ru
  obtain ⟨as, rd⟩ := Dp.reads I d (.ref a) (.ref a) hd rfl
  exact repr_of_reads' rd hs (PyData.noDict_hsm hnd) hg hu (fun _ _ e => e) (fun h' u tk hk => ⟨.str d.shown, H, I.kept hk, ⟨u, rfl⟩, q⟩) hz
def isSeqD : D → Bool
  | .tup _ => true
  | .lst _ => true
  | _ => false
theorem de_repr (m : MG X.mg) (hgd : X.A.guards = some []) (h : DE X ρ ω ω1 e d) (hp : plain d = true) (hq : isSeqD d = true) (hs : (py d).showable = true) (hnd : (py d).hasDict = false) (hu : X.A.units + ((py d).depth + 1) < cLine) (hz : (py d).shown.length ≤ sizeLine) (hg : Gl X "repr" := by exact rfl)
    (hst : starEach [e] X.env = (false, eval e X.env) :: starEach [] X.env := by rfl) : DE X ρ ω ω1 (.Call (.Name "repr" p) [e] [] pos) (.str (py d).shown) :=
  de_callB (call_repr hgd hs hnd hu hz) (fun B F H σ ρ ω W vs r Q k => by
    obtain ⟨v, rfl, r1⟩ := r.one
    have dp := dp_mono W.g.s (r1.dp X.K hp)
    cases r1 with
    | tup h q => exact ⟨_, rfl, dp, k _ F H W (.str _)⟩
    | lst h q => exact ⟨_, rfl, dp, k _ F H W (.str _)⟩
    | _ => cases hq) m.repr hg (by decide +kernel) (da_1 h hst) (by decide) (by decide) hst (by rfl)
end
end G

/-! G19 -/
set_option Elab.async false
set_option linter.all false
set_option maxRecDepth 100000
set_option maxHeartbeats 1000000
namespace G
open PySem L2
/-! ## 24. == and in, by keys -/
mutual
/-- None, bools, ints, tuples of such -/
def eqish : D → Bool
  | .non => true
  | .bl _ => true
  | .int _ => true
  | .tup l => eqishs l
  | _ => false
def eqishs : List D → Bool
  | [] => true
  | d :: l => eqish d && eqishs l
end
theorem eqishs_cons {d : D} {l : List D} (h : eqishs (d :: l) = true) : eqish d = true ∧ eqishs l = true := by
  have h' : (eqish d && eqishs l) = true := h
  rwa [Bool.and_eq_true] at h'
theorem nk_tup_ne (l : List D) : nk (.tup l) = .tup (nks l) := rfl
mutual
theorem eqv_nk : ∀ {a b : D}, eqish a = true → eqish b = true → PyData.eqv (py a) (py b) = decide (nk a = nk b)
  | .non, .non, _, _ => by simp [py, nk, PyData.eqv]
  | .non, .bl b, _, _ => by simp [py, nk, PyData.eqv]
  | .non, .int i, _, _ => by simp [py, nk, PyData.eqv]
  | .non, .tup l, _, _ => by simp [py, nk, PyData.eqv]
  | .bl b, .non, _, _ => by simp [py, nk, PyData.eqv]
  | .bl a, .bl b, _, _ => by cases a <;> cases b <;> simp [py, nk, PyData.eqv]
  | .bl a, .int i, _, _ => by
    simp only [py, nk, PyData.eqv]
    rw [Bool.eq_iff_iff]
    simp
  | .bl a, .tup l, _, _ => by simp [py, nk, PyData.eqv]
  | .int i, .non, _, _ => by simp [py, nk, PyData.eqv]
  | .int i, .bl a, _, _ => by
    simp only [py, nk, PyData.eqv]
    rw [Bool.eq_iff_iff]
    simp
  | .int i, .int j, _, _ => by
    simp only [py, nk, PyData.eqv]
    rw [Bool.eq_iff_iff]
    simp
  | .int i, .tup l, _, _ => by simp [py, nk, PyData.eqv]
  | .tup l, .non, _, _ => by simp [py, nk, PyData.eqv]
  | .tup l, .bl a, _, _ => by simp [py, nk, PyData.eqv]
  | .tup l, .int i, _, _ => by simp [py, nk, PyData.eqv]
  | .tup l, .tup l', h, h' => by
    show PyData.eqvAll (pys l) (pys l') = decide (NestedKey.tup (nks l) = NestedKey.tup (nks l'))
    rw [eqv_nks h h', Bool.eq_iff_iff]
    simp
  | .fn _, _, h, _ => by cases h
  | .str _, _, h, _ => by cases h
  | .lst _, _, h, _ => by cases h
  | .dI _, _, h, _ => by cases h
  | .dT _ _, _, h, _ => by cases h
  | .fz _ _, _, h, _ => by cases h
  | _, .fn _, _, h => by cases h
  | _, .str _, _, h => by cases h
  | _, .lst _, _, h => by cases h
  | _, .dI _, _, h => by cases h
  | _, .dT _ _, _, h => by cases h
  | _, .fz _ _, _, h => by cases h
theorem eqv_nks : ∀ {a b : List D}, eqishs a = true → eqishs b = true → PyData.eqvAll (pys a) (pys b) = decide (nks a = nks b)
  | [], [], _, _ => by simp [pys, nks, PyData.eqvAll]
  | [], d :: l, _, _ => by simp [pys, nks, PyData.eqvAll]
  | d :: l, [], _, _ => by simp [pys, nks, PyData.eqvAll]
  | x :: a, y :: b, h, h' => by
    obtain ⟨h1, h2⟩ := eqishs_cons h
    obtain ⟨h3, h4⟩ := eqishs_cons h'
    show (PyData.eqv (py x) (py y) && PyData.eqvAll (pys a) (pys b)) = decide (nk x :: nks a = nk y :: nks b)
    rw [eqv_nk h1 h3, eqv_nks h2 h4, Bool.eq_iff_iff]
    simp
end
mutual
theorem eqish_plain : ∀ {d : D}, eqish d = true → plain d = true
  | .non, _ => rfl
  | .bl _, _ => rfl
  | .int _, _ => rfl
  | .tup l, h => eqishs_plain h
  | .fn _, h => by cases h
  | .str _, h => by cases h
  | .lst _, h => by cases h
  | .dI _, h => by cases h
  | .dT _ _, h => by cases h
  | .fz _ _, h => by cases h
theorem eqishs_plain : ∀ {l : List D}, eqishs l = true → plains l = true
  | [], _ => rfl
  | d :: l, h => by
    obtain ⟨h1, h2⟩ := eqishs_cons h
    show (plain d && plains l) = true
    rw [eqish_plain h1, eqishs_plain h2]; rfl
end
mutual
theorem canLay_eqish : ∀ {d : D}, eqish d = true → PyData.canLay0 (py d) = true
  | .non, _ => rfl
  | .bl _, _ => rfl
  | .int _, _ => rfl
  | .tup l, h => canLays_eqish h
  | .fn _, h => by cases h
  | .str _, h => by cases h
  | .lst _, h => by cases h
  | .dI _, h => by cases h
  | .dT _ _, h => by cases h
  | .fz _ _, h => by cases h
theorem canLays_eqish : ∀ {l : List D}, eqishs l = true → PyData.canLayAll0 (pys l) = true
  | [], _ => rfl
  | d :: l, h => by
    obtain ⟨h1, h2⟩ := eqishs_cons h
    show (PyData.canLay0 (py d) && PyData.canLayAll0 (pys l)) = true
    rw [canLay_eqish h1, canLays_eqish h2]; rfl
end
mutual
theorem depth_eqish : ∀ {d : D}, eqish d = true → (py d).depth = (nk d).depth
  | .non, _ => rfl
  | .bl _, _ => rfl
  | .int _, _ => rfl
  | .tup l, h => by
    show PyData.depthAll (pys l) + 1 = NestedKey.depthAll (nks l) + 1
    rw [depths_eqish h]
  | .fn _, h => by cases h
  | .str _, h => by cases h
  | .lst _, h => by cases h
  | .dI _, h => by cases h
  | .dT _ _, h => by cases h
  | .fz _ _, h => by cases h
theorem depths_eqish : ∀ {l : List D}, eqishs l = true → PyData.depthAll (pys l) = NestedKey.depthAll (nks l)
  | [], _ => rfl
  | d :: l, h => by
    obtain ⟨h1, h2⟩ := eqishs_cons h
    show max (PyData.depth (py d)) (PyData.depthAll (pys l)) = max (NestedKey.depth (nk d)) (NestedKey.depthAll (nks l))
    rw [depth_eqish h1, depths_eqish h2]
end
/-- a value that == can be asked of -/
structure EqOk (d : D) : Prop where
  e : eqish d = true
  dp : (nk d).depth ≤ 8
theorem EqOk.shaped {d : D} (h : EqOk d) : SeqAt.shaped (py d) = true := by
  unfold SeqAt.shaped
  rw [canLay_eqish h.e, Bool.true_and]
  exact decide_eq_true (by rw [depth_eqish h.e]; have := h.dp; omega)
theorem depthAll_le {c : Nat} : ∀ {l : List D}, (∀ d ∈ l, (nk d).depth ≤ c) → NestedKey.depthAll (nks l) ≤ c
  | [], _ => Nat.zero_le _
  | d :: l, h => by
    show max (NestedKey.depth (nk d)) (NestedKey.depthAll (nks l)) ≤ c
    exact Nat.max_le.mpr ⟨h d List.mem_cons_self, depthAll_le fun x hx => h x (List.mem_cons_of_mem _ hx)⟩
theorem eqishs_of : ∀ {l : List D}, (∀ d ∈ l, eqish d = true) → eqishs l = true
  | [], _ => rfl
  | d :: l, h => by
    show (eqish d && eqishs l) = true
    rw [h d List.mem_cons_self, eqishs_of fun x hx => h x (List.mem_cons_of_mem _ hx)]; rfl
theorem eqOks_shaped {l : List D} (h : ∀ d ∈ l, EqOk d) : SeqAt.shaped (.list (pys l)) = true := by
  have e : eqishs l = true := eqishs_of fun d hd => (h d hd).e
  unfold SeqAt.shaped
  have : PyData.canLay0 (.list (pys l)) = PyData.canLayAll0 (pys l) := rfl
  rw [this, canLays_eqish e, Bool.true_and]
  refine decide_eq_true ?_
  show PyData.depthAll (pys l) + 1 ≤ 64
  rw [depths_eqish e]
  have := depthAll_le fun d hd => (h d hd).dp
  omega
theorem any_nk {l : List D} {x : D} (h : ∀ d ∈ l, EqOk d) (hx : EqOk x) : ((pys l).any fun z => PyData.eqv z (py x)) = l.any fun z => decide (nk z = nk x) := by
  induction l with
  | nil => rfl
  | cons d l ih =>
    show (PyData.eqv (py d) (py x) || (pys l).any fun z => PyData.eqv z (py x)) = _
    rw [eqv_nk (h d List.mem_cons_self).e hx.e, ih fun y hy => h y (List.mem_cons_of_mem _ hy), List.any_cons]
section
variable {X : Cx} {ρ : Rho} {ω ω1 ω2 : Om} {a b : Expr} {x y : D} {l : List D} {pos : Pos}
theorem de_eqK (hu : X.A.units + 65 < cLine) (h1 : EqOk x) (h2 : EqOk y) (ha : DE X ρ ω ω1 a x) (hb : DE X ρ ω1 ω2 b y) : DE X ρ ω ω2 (.Compare a [.Eq] [b] pos) (.bl (decide (nk x = nk y))) := by
  have := de_cmp (pos := pos) (op_eqD (by omega)) (rr_eqD (K := X.K) (eqish_plain h1.e) (eqish_plain h2.e) h1.shaped h2.shaped) (nomark _) ha hb
  unfold eqD at this
  rwa [eqv_nk h1.e h2.e] at this
theorem de_neK (hu : X.A.units + 65 < cLine) (h1 : EqOk x) (h2 : EqOk y) (ha : DE X ρ ω ω1 a x) (hb : DE X ρ ω1 ω2 b y) : DE X ρ ω ω2 (.Compare a [.NotEq] [b] pos) (.bl (!decide (nk x = nk y))) := by
  have := de_cmp (pos := pos) (op_neD (by omega)) (rr_neD (K := X.K) (eqish_plain h1.e) (eqish_plain h2.e) h1.shaped h2.shaped) (nomark _) ha hb
  unfold eqD at this
  rwa [eqv_nk h1.e h2.e] at this
theorem dt_neK (hu : X.A.units + 65 < cLine) (h1 : EqOk x) (h2 : EqOk y) (ha : DE X ρ ω ω1 a x) (hb : DE X ρ ω1 ω2 b y) : DT X ρ ω ω2 (.Compare a [.NotEq] [b] pos) (!decide (nk x = nk y)) := by
  have := dt_cmp (pos := pos) (op_neD (by omega)) (rr_neD (K := X.K) (eqish_plain h1.e) (eqish_plain h2.e) h1.shaped h2.shaped) (nomark _) ha hb
  unfold eqD at this
  rwa [eqv_nk h1.e h2.e] at this
theorem de_inK (hu : X.A.units + 65 < cLine) (h1 : EqOk x) (h2 : ∀ d ∈ l, EqOk d) (ha : DE X ρ ω ω1 a x) (hb : DE X ρ ω1 ω2 b (.lst l)) (hm : behindInMarks .In b = false := by rfl) : DE X ρ ω ω2 (.Compare a [.In] [b] pos) (.bl (l.any fun z => decide (nk z = nk x))) := by
  have := de_cmp (pos := pos) (op_inD hu) (rr_inD (K := X.K) (l := l) (eqish_plain h1.e) (eqishs_plain (eqishs_of fun d hd => (h2 d hd).e)) h1.shaped (eqOks_shaped h2)) hm ha hb
  rwa [any_nk h2 h1] at this
theorem dt_inK (hu : X.A.units + 65 < cLine) (h1 : EqOk x) (h2 : ∀ d ∈ l, EqOk d) (ha : DE X ρ ω ω1 a x) (hb : DE X ρ ω1 ω2 b (.lst l)) (hm : behindInMarks .In b = false := by rfl) : DT X ρ ω ω2 (.Compare a [.In] [b] pos) (l.any fun z => decide (nk z = nk x)) := by
  have := dt_cmp (pos := pos) (op_inD hu) (rr_inD (K := X.K) (l := l) (eqish_plain h1.e) (eqishs_plain (eqishs_of fun d hd => (h2 d hd).e)) h1.shaped (eqOks_shaped h2)) hm ha hb
  rwa [any_nk h2 h1] at this
theorem dt_niK (hu : X.A.units + 65 < cLine) (h1 : EqOk x) (h2 : ∀ d ∈ l, EqOk d) (ha : DE X ρ ω ω1 a x) (hb : DE X ρ ω1 ω2 b (.lst l)) (hm : behindInMarks .NotIn b = false := by rfl) : DT X ρ ω ω2 (.Compare a [.NotIn] [b] pos) (!l.any fun z => decide (nk z = nk x)) := by
  have := dt_cmp (pos := pos) (op_notInD hu) (rr_niD (K := X.K) (l := l) (eqish_plain h1.e) (eqishs_plain (eqishs_of fun d hd => (h2 d hd).e)) h1.shaped (eqOks_shaped h2)) hm ha hb
  rwa [any_nk h2 h1] at this
end
/-- a way to write data, told by its keys -/
structure Enc {α : Type} (enc : α → D) : Prop where
  ok : ∀ a, EqOk (enc a)
  inj : ∀ a b, nk (enc a) = nk (enc b) → a = b
theorem Enc.any {α : Type} [DecidableEq α] {enc : α → D} (E : Enc enc) {l : List α} {a : α} : ((l.map enc).any fun z => decide (nk z = nk (enc a))) = decide (a ∈ l) := by
  rw [Bool.eq_iff_iff, List.any_eq_true, decide_eq_true_iff]
  constructor
  · rintro ⟨d, hd, e⟩
    obtain ⟨b, hb, rfl⟩ := List.mem_map.mp hd
    rw [← E.inj b a (of_decide_eq_true e)]; exact hb
  · intro h
    exact ⟨enc a, List.mem_map.mpr ⟨a, h, rfl⟩, decide_eq_true rfl⟩
theorem Enc.dec {α : Type} [DecidableEq α] {enc : α → D} (E : Enc enc) (a b : α) : decide (nk (enc a) = nk (enc b)) = decide (a = b) := by
  rw [Bool.eq_iff_iff, decide_eq_true_iff, decide_eq_true_iff]
  exact ⟨E.inj a b, fun e => by rw [e]⟩
theorem Enc.all {α : Type} {enc : α → D} (E : Enc enc) {l : List α} : ∀ d ∈ l.map enc, EqOk d := fun d hd => by
  obtain ⟨a, _, rfl⟩ := List.mem_map.mp hd
  exact E.ok a
theorem nks_map {α : Type} {enc : α → D} (hi : ∀ a b, nk (enc a) = nk (enc b) → a = b) : ∀ {l l' : List α}, nks (l.map enc) = nks (l'.map enc) → l = l'
  | [], [], _ => rfl
  | [], _ :: _, h => by simp [nks] at h
  | _ :: _, [], h => by simp [nks] at h
  | a :: l, b :: l', h => by
    have h' : nk (enc a) :: nks (l.map enc) = nk (enc b) :: nks (l'.map enc) := h
    obtain ⟨h1, h2⟩ := List.cons.inj h'
    rw [hi a b h1, nks_map hi h2]
/-! dedup, as the dicts do it -/
section
variable {α : Type} [DecidableEq α]
def addU (l : List α) (a : α) : List α := if a ∈ l then l else l ++ [a]
def ddU (l : List α) : List α := l.foldl addU []
theorem addK_enc {enc : α → D} (E : Enc enc) {l : List α} {a : α} : addK (l.map enc) (enc a) = (addU l a).map enc := by
  unfold addK addU
  rw [E.any]
  by_cases h : a ∈ l
  · rw [if_pos (decide_eq_true h), if_pos h]
  · rw [if_neg (by rw [decide_eq_false h]; simp), if_neg h, List.map_append]; rfl
theorem foldK_enc {enc : α → D} (E : Enc enc) : ∀ {l acc : List α}, (l.map enc).foldl addK (acc.map enc) = (l.foldl addU acc).map enc
  | [], _ => rfl
  | a :: l, acc => by
    rw [List.map_cons, List.foldl_cons, List.foldl_cons, addK_enc E, foldK_enc E]
theorem ddK_enc {enc : α → D} (E : Enc enc) {l : List α} : ddK (l.map enc) = (ddU l).map enc := foldK_enc E (acc := [])
theorem mem_addU {l : List α} {a x : α} : x ∈ addU l a ↔ x ∈ l ∨ x = a := by
  unfold addU
  split
  · constructor
    · exact .inl
    · rintro (h | rfl)
      · exact h
      · assumption
  · simp
theorem mem_foldU {x : α} : ∀ {l acc : List α}, x ∈ l.foldl addU acc ↔ x ∈ acc ∨ x ∈ l
  | [], acc => by simp
  | a :: l, acc => by
    rw [List.foldl_cons, mem_foldU, mem_addU, List.mem_cons, or_assoc]
theorem mem_ddU {l : List α} {x : α} : x ∈ ddU l ↔ x ∈ l := by unfold ddU; rw [mem_foldU]; simp
theorem nodup_addU {l : List α} {a : α} (h : l.Nodup) : (addU l a).Nodup := by
  unfold addU
  split
  · exact h
  · rename_i n
    exact List.nodup_append.mpr ⟨h, by simp, fun x hx y hy e => n (by simp at hy; rw [← hy, ← e]; exact hx)⟩
theorem nodup_foldU : ∀ (l acc : List α), acc.Nodup → (l.foldl addU acc).Nodup
  | [], _, h => h
  | a :: l, acc, h => nodup_foldU l _ (nodup_addU h)
theorem nodup_ddU {l : List α} : (ddU l).Nodup := nodup_foldU _ _ .nil
end
theorem ddI_nat {l : List Nat} : ddI (l.map fun (n : Nat) => (n : Int)) = (ddU l).map fun (n : Nat) => (n : Int) := by
  have go : ∀ (l acc : List Nat), (l.map fun (n : Nat) => (n : Int)).foldl addI (acc.map fun (n : Nat) => (n : Int)) = (l.foldl addU acc).map fun (n : Nat) => (n : Int) := by
    intro l
    induction l with
    | nil => intro acc; rfl
    | cons a l ih =>
      intro acc
      have e : addI (acc.map fun (n : Nat) => (n : Int)) (a : Int) = (addU acc a).map fun (n : Nat) => (n : Int) := by
        unfold addI addU
        have : (a : Int) ∈ acc.map (fun (n : Nat) => (n : Int)) ↔ a ∈ acc := by
          rw [List.mem_map]
          constructor
          · rintro ⟨b, hb, e⟩
            have : b = a := by omega
            rw [← this]; exact hb
          · intro h; exact ⟨a, h, rfl⟩
        by_cases h : a ∈ acc
        · rw [if_pos (this.mpr h), if_pos h]
        · rw [if_neg (fun z => h (this.mp z)), if_neg h, List.map_append]; rfl
      rw [List.map_cons, List.foldl_cons, List.foldl_cons, e, ih]
  exact go l []
end G

/-! Q1 -/
set_option Elab.async false
set_option linter.all false
set_option maxRecDepth 100000
set_option maxHeartbeats 1000000
namespace G
open PySem L2
/-! ## 24. The text -/
def top (i : Nat) : Stmt := PySem.Challenge.pw_stillopen_k31_whole_one_least_stack_a_cl.main.body.getD i (.Pass ⟨0, 0, 0, 0⟩)
abbrev FnP (K : PySem.W.Frag) (x : Str) (i : Nat) (f : Addr) (fd : FuncData) : Prop := FunD K x x (defArgs (top i)) (defBody (top i)) (defScope (top i)) [] [] f fd
section
variable {P : Program} {w : World} {K : PySem.W.Frag} {mg : Str → Option Value} {base : Heap} {f : Addr} {fd : FuncData}
/-- from the kept promise to what a caller wants -/
theorem callee {x : Str} {i k : Nat} {ps : List Str} {R : List D → D → Prop} (F : FnP K x i f fd) (g : mg x = some (.ref f)) (h : FnOk P w K mg base CX0 k f fd ps (PSp w ps.length R))
    (hb : ∀ (kV doc pm : Value) (an : Option Addr) (cdv ct : Value) (us : List Value), us.length = ps.length → bindArgs (PySem.W.fnOf x x (defArgs (top i)) (defBody (top i)) (defScope (top i)) .none kV doc pm an cdv ct) ⟨us, []⟩ = pure (ps.zip us)) : Callee P w K mg base k x ps.length R :=
  ⟨f, fd, ps, rfl, h, g, F.kp, F.bindsN hb⟩
theorem no_om {Q : Nat × Own → Prop} : ∀ p ∈ ([] : Om), Q p := fun p hp => nomatch hp
def R_is_integer (ds : List D) (z : D) : Prop := ∃ i : Int, ds = [.int i] ∧ z = .bl true
def R_is_number (ds : List D) (z : D) : Prop := ∃ i : Int, 0 ≤ i ∧ ds = [.int i] ∧ z = .bl true
def R_is_below (ds : List D) (z : D) : Prop := ∃ i j : Int, 0 ≤ i ∧ i < j ∧ ds = [.int i, .int j] ∧ z = .bl true
def R_is_sequence (ds : List D) (z : D) : Prop := ∃ d, seqD d ∧ ds = [d] ∧ z = .bl true
def R_is_string (ds : List D) (z : D) : Prop := ∃ x : Str, ds = [.str x] ∧ z = .bl true
def R_is_label (ds : List D) (z : D) : Prop := ∃ c : Nat, 97 ≤ c ∧ c ≤ 122 ∧ ds = [.str ⟨#[c]⟩] ∧ z = .bl true
def R_is_text (ds : List D) (z : D) : Prop := ∃ x : Str, x.length ≤ 1000 ∧ ds = [.str x] ∧ z = .bl true
theorem c_is_integer (m : MG mg) (F : FnP K "is_integer" 9 f fd) (g : mg "is_integer" = some (.ref f)) : Callee P w K mg base 1 "is_integer" 1 R_is_integer :=
  callee (ps := ["value"]) F g (fn_pure (k := 0) (N := ["value"]) F ⟨rfl, rfl, rfl, by decide +kernel, rfl, by decide +kernel, by decide +kernel⟩ (by
    rintro cdv A outer s H E ds z hr hl ⟨i, rfl, rfl⟩
    exact db_one (ds_ret (de_and (bInt m (de_var 0 rfl)) fun _ => de_one (de_not (bIntB m (de_var 0 rfl)))) rfl))) (fun _ _ _ _ _ _ us hl => match us, hl with | [_], _ => rfl)
theorem c_is_number (C1 : Callee P w K mg base 1 "is_integer" 1 R_is_integer) (F : FnP K "is_number" 10 f fd) (g : mg "is_number" = some (.ref f)) : Callee P w K mg base 2 "is_number" 1 R_is_number :=
  callee (ps := ["value"]) F g (fn_pure (k := 1) (N := ["value"]) F ⟨rfl, rfl, rfl, by decide +kernel, rfl, by decide +kernel, by decide +kernel⟩ (by
    rintro cdv A outer s H E ds z hr hl ⟨i, hi, rfl, rfl⟩
    exact db_one (ds_ret (de_and (ca1 C1 hr (Nat.le_refl _) (de_var 0 rfl) ⟨i, rfl, rfl⟩) fun _ => de_one (de_ge (de_var 0 rfl) de_int)) (show D.bl (true && decide (0 ≤ i)) = .bl true by rw [decide_eq_true hi]; rfl)))) (fun _ _ _ _ _ _ us hl => match us, hl with | [_], _ => rfl)
theorem c_is_below (C1 : Callee P w K mg base 2 "is_number" 1 R_is_number) (F : FnP K "is_below" 11 f fd) (g : mg "is_below" = some (.ref f)) : Callee P w K mg base 3 "is_below" 2 R_is_below :=
  callee (ps := ["value", "most"]) F g (fn_pure (k := 2) (N := ["value", "most"]) F ⟨rfl, rfl, rfl, by decide +kernel, rfl, by decide +kernel, by decide +kernel⟩ (by
    rintro cdv A outer s H E ds z hr hl ⟨i, j, hi, hj, rfl, rfl⟩
    exact db_one (ds_ret (de_and (ca1 C1 hr (Nat.le_refl _) (de_var 0 rfl) ⟨i, hi, rfl, rfl⟩) fun _ => de_one (de_lt (de_var 0 rfl) (de_var 1 rfl))) (show D.bl (true && decide (i < j)) = .bl true by rw [decide_eq_true hj]; rfl)))) (fun _ _ _ _ _ _ us hl => match us, hl with | [_, _], _ => rfl)
theorem c_is_sequence (m : MG mg) (F : FnP K "is_sequence" 12 f fd) (g : mg "is_sequence" = some (.ref f)) : Callee P w K mg base 1 "is_sequence" 1 R_is_sequence :=
  callee (ps := ["value"]) F g (fn_pure (k := 0) (N := ["value"]) F ⟨rfl, rfl, rfl, by decide +kernel, rfl, by decide +kernel, by decide +kernel⟩ (by
    rintro cdv A outer s H E ds z hr hl ⟨d, hd, rfl, rfl⟩
    exact db_one (ds_ret (bSeq m (de_var 0 rfl) hd) rfl))) (fun _ _ _ _ _ _ us hl => match us, hl with | [_], _ => rfl)
theorem c_is_string (m : MG mg) (F : FnP K "is_string" 13 f fd) (g : mg "is_string" = some (.ref f)) : Callee P w K mg base 1 "is_string" 1 R_is_string :=
  callee (ps := ["value"]) F g (fn_pure (k := 0) (N := ["value"]) F ⟨rfl, rfl, rfl, by decide +kernel, rfl, by decide +kernel, by decide +kernel⟩ (by
    rintro cdv A outer s H E ds z hr hl ⟨x, rfl, rfl⟩
    exact db_one (ds_ret (bStr m (de_var 0 rfl)) rfl))) (fun _ _ _ _ _ _ us hl => match us, hl with | [_], _ => rfl)
theorem c_is_label (m : MG mg) (C1 : Callee P w K mg base 1 "is_string" 1 R_is_string) (F : FnP K "is_label" 14 f fd) (g : mg "is_label" = some (.ref f)) : Callee P w K mg base 2 "is_label" 1 R_is_label :=
  callee (ps := ["value"]) F g (fn_pure (k := 1) (N := ["value", "sign"]) F ⟨rfl, rfl, rfl, by decide +kernel, rfl, by decide +kernel, by decide +kernel⟩ (by
    rintro cdv A outer s H E ds z hr hl ⟨c, h1, h2, rfl, rfl⟩
    have nd : (["value", "sign"] : List Str).Nodup := by decide +kernel
    refine db_one (ds_ret (de_and (ca1 C1 hr (Nat.le_refl _) (de_var 0 rfl) ⟨_, rfl, rfl⟩) fun _ => de_and (k := true) (de_chain (k := true) op_le op_le (rr_I0 fun _ => .bl _) (fun _ => rr_I0 fun _ => .bl _) (fun q => nomatch q) de_int (lenS m (by show 1 ≤ 100000; decide) (de_var 0 rfl)) (kI m.MOST_LABEL)) fun _ => de_one (allT m (do_map (own := [("sign", 1)]) (f := fun _ => .bl true) rfl nd (di_str (de_var 0 rfl)) (blkOk_by (by show blkC ["value", "sign"] (defScope (top 14)) _ _ = true; decide +kernel)) no_om (by show 1 ≤ 100000; decide) (fun d hd => ?_)).data ?_)) rfl)
    · have e : d = .str ⟨#[c]⟩ := by simpa [chrs] using hd
      subst e
      refine ⟨_, [1], by simp, fun _ _ _ _ _ => dg_name 1 nd, fun _ _ _ _ _ => EvP.is (de_inS rfl (de_var 1 rfl) (kS m.LETTERS)) ?_⟩
      have hc : c ∈ ("abcdefghijklmnopqrstuvwxyz" : Str).cps.toList := by
        have : ∀ c : Nat, c < 123 → 97 ≤ c → c ∈ ("abcdefghijklmnopqrstuvwxyz" : Str).cps.toList := by decide +kernel
        exact this c (by omega) h1
      rw [decide_eq_true hc]
    · intro d hd
      obtain ⟨_, _, rfl⟩ := List.mem_map.mp hd
      rfl)) (fun _ _ _ _ _ _ us hl => match us, hl with | [_], _ => rfl)
theorem c_is_text (m : MG mg) (C1 : Callee P w K mg base 1 "is_string" 1 R_is_string) (F : FnP K "is_text" 15 f fd) (g : mg "is_text" = some (.ref f)) : Callee P w K mg base 2 "is_text" 1 R_is_text :=
  callee (ps := ["value"]) F g (fn_pure (k := 1) (N := ["value"]) F ⟨rfl, rfl, rfl, by decide +kernel, rfl, by decide +kernel, by decide +kernel⟩ (by
    rintro cdv A outer s H E ds z hr hl ⟨x, hx, rfl, rfl⟩
    refine db_one (ds_ret (de_and (ca1 C1 hr (Nat.le_refl _) (de_var 0 rfl) ⟨_, rfl, rfl⟩) fun _ => de_one (de_cmp op_le (rr_I0 fun _ => .bl _) (nomark _) (lenS m (by omega) (de_var 0 rfl)) (kI m.MOST_CHARACTERS))) ?_)
    show D.bl (true && decide ((x.length : Int) ≤ 65535)) = .bl true
    rw [decide_eq_true (by omega)]; rfl)) (fun _ _ _ _ _ _ us hl => match us, hl with | [_], _ => rfl)
end
end G

/-! Q2 -/
set_option Elab.async false
set_option linter.all false
set_option maxRecDepth 100000
set_option maxHeartbeats 1000000
namespace G
open PySem L2
/-! ## 25. The machine, as data -/
structure Mach where
  lab : List Str
  txt : List Str
  tm : Nat
  tb : Nat
  ttx : List (List Nat)
  tch : List (List Nat)
  ans : List (List Bool)
  im : Nat
  st : List Nat
  itx : List (List Nat)
  ich : List (List Nat)
abbrev nI (n : Nat) : D := .int n
abbrev tN (l : List Nat) : D := .tup (l.map nI)
abbrev tNN (l : List (List Nat)) : D := .tup (l.map tN)
abbrev tS (l : List Str) : D := .tup (l.map D.str)
abbrev tB (l : List Bool) : D := .tup (l.map D.bl)
abbrev tBB (l : List (List Bool)) : D := .tup (l.map tB)
abbrev topD (m : Mach) : D := .tup [nI m.tm, nI m.tb, tNN m.ttx, tNN m.tch, tBB m.ans]
abbrev innD (m : Mach) : D := .tup [nI m.im, tN m.st, tNN m.itx, tNN m.ich]
abbrev parts (m : Mach) : List D := [tS m.lab, tS m.txt, topD m, innD m]
abbrev machD (m : Mach) : D := .tup (parts m)
/-- a table: rows, columns, what is below -/
structure Tab (t : List (List Nat)) (rows cols most : Nat) : Prop where
  rows : t.length = rows
  cols : ∀ r ∈ t, r.length = cols
  bd : ∀ r ∈ t, ∀ x ∈ r, x < most
structure Mach.Ok (m : Mach) : Prop where
  lab : m.lab = [] ∨ m.lab = ([("a" : Str)]) ∨ m.lab = [("a" : Str), "b"] ∨ m.lab = [("b" : Str)]
  txt : m.txt = [] ∨ m.txt = [("x" : Str)] ∨ m.txt = [("x" : Str), "y"]
  tm1 : 1 ≤ m.tm
  tm3 : m.tm ≤ 3
  tb : m.tb < m.tm
  ttx : Tab m.ttx (m.txt.length + 1) m.tm m.tm
  tch : Tab m.tch m.im m.tm m.tm
  ans : m.ans.length = m.tm
  wor : ∃ n : Nat, 1 ≤ n ∧ n ≤ 2 ∧ ∀ r ∈ m.ans, r.length = n
  im1 : 1 ≤ m.im
  im2 : m.im ≤ 2
  stl : m.st.length = m.lab.length + 1
  stb : ∀ x ∈ m.st, x < m.im
  itx : Tab m.itx (m.txt.length + 1) m.im m.im
  ich : Tab m.ich m.im m.im m.im
/-- the items of a tuple, a list -/
def items : D → List D
  | .tup l => l
  | .lst l => l
  | _ => []
section
variable {X : Cx} {ρ ρ' : Rho} {ω ω1 : Om} {e tg : Expr} {es : List Expr} {a b c dd : Expr} {d x y y2 y3 z : D} {pos p : Pos} {ω2 ω3 ω4 : Om}
/-- (names) = a list of as many -/
theorem dg_lst {ts : List Expr} {k n : Nat} {ds : List D} {js : List Nat} (hc : X.calm = true) (h : DGs X ts ds ρ ρ' ω js) (hl : ds.length = n := by rfl) (hn : (assignEach ts X.env).length = n := by rfl) (hst : (assignEach ts X.env).findIdx? (·.1) = none := by rfl) :
    DG X (.Tuple ts k pos) (.lst ds) ρ ρ' ω js := by
  obtain ⟨t, ht, hv⟩ := h.ex
  refine dg_of (pg_unl hc ht hn hst) fun B F H σ v W r Q q => ?_
  cases r with
  | lst h1 q1 => exact ⟨_, _, rfl, SqL.of (W.g.s _ _ h1), by rw [q1.length, hl], hv B F H σ _ W q1 Q q⟩
theorem ca4 {n : Str} {j k : Nat} {R : List D → D → Prop} (C : Callee X.prog X.w X.K X.mg X.base j n 4 R) (hr : Room k X.A) (hj : j ≤ k) (ha : DE X ρ ω ω1 a x) (hb : DE X ρ ω1 ω2 b y) (hc : DE X ρ ω2 ω3 c y2) (hd : DE X ρ ω3 ω4 dd y3) (hR : R [x, y, y2, y3] z) (hg : Gl X n := by exact rfl)
    (hdb : (n == ("__debug__" : Str)) = false := by decide) (he : starEach [a, b, c, dd] X.env = (false, eval a X.env) :: starEach [b, c, dd] X.env := by rfl) (he2 : starEach [b, c, dd] X.env = (false, eval b X.env) :: starEach [c, dd] X.env := by rfl) (he3 : starEach [c, dd] X.env = (false, eval c X.env) :: starEach [dd] X.env := by rfl)
    (he4 : starEach [dd] X.env = (false, eval dd X.env) :: starEach [] X.env := by rfl) (hpl : (backTo pos (starEach [b, c, dd] X.env)).any (·.1) = false := by rfl) : DE X ρ ω ω4 (.Call (.Name n p) [a, b, c, dd] [] pos) z := de_call C (hr.mono hj) hg hR (da_cons ha (da_cons hb (da_cons hc (da_1 hd he4) he3) he2) he) rfl hdb he hpl
theorem zipT2 {l l' : List D} {elts : List Expr} {kk : Nat} {tpos : Pos} (m : MG X.mg) (h : DE X ρ ω ω1 a (.tup l)) (h2 : DE X ρ ω1 ω2 b (.tup l')) (hg : Gl X "zip" := by exact rfl) (hs : starEach [a, b] X.env = (false, eval a X.env) :: starEach [b] X.env := by rfl) (hs2 : starEach [b] X.env = (false, eval b X.env) :: starEach [] X.env := by rfl)
    (hpl : (backTo pos (starEach [b] X.env)).any (·.1) = false := by rfl) : DI X ρ ω ω2 (.Tuple elts kk tpos) (.Call (.Name "zip" p) [a, b] [] pos) (l.zipWith (fun x y => D.tup [x, y]) l') := di_zipT m.zip hg (da_cons h (da_1 h2 hs2) hs) hs hpl
theorem flat_len {α : Type} {g : α → D} {ys : D → List D} {f : D → D → D} {c : Nat} : ∀ {l : List α}, (∀ x ∈ l, (ys (g x)).length ≤ c) → ((l.map g).flatMap fun d => (ys d).map (f d)).length ≤ l.length * c
  | [], _ => by simp
  | x :: l, h => by
    have ih := flat_len (f := f) (fun y hy => h y (List.mem_cons_of_mem _ hy))
    have h1 := h x List.mem_cons_self
    rw [List.map_cons, List.flatMap_cons, List.length_append, List.length_map, List.length_cons, Nat.add_mul, Nat.one_mul]
    omega
theorem dt_ltS {i j : Str} (ha : DE X ρ ω ω1 a (.str i)) (hb : DE X ρ ω1 ω2 b (.str j)) : DE X ρ ω ω2 (.Compare a [.Lt] [b] pos) (.bl (decide (i.cps.toList < j.cps.toList))) :=
  de_cmp op_lt_str (fun B F H σ ρ ω W u v r1 r2 Q k => by
    cases r1; cases r2
    exact ⟨i, j, rfl, rfl, k _ F H W (.bl _)⟩) (nomark _) ha hb
end
section
variable {P : Program} {w : World} {K : PySem.W.Frag} {mg : Str → Option Value} {base : Heap} {f : Addr} {fd : FuncData}
def R_are_names (P : Program) (w : World) (K : PySem.W.Frag) (mg : Str → Option Value) (base : Heap) (ds : List D) (z : D) : Prop := ∃ (xs : List Str) (most : Nat) (f : Addr) (Rn : List D → D → Prop), xs.length ≤ most ∧ xs.length ≤ 100 ∧ ds = [tS xs, nI most, .fn f] ∧ CalledAt P w K mg base 2 f 1 Rn ∧ (∀ x ∈ xs, Rn [.str x] (.bl true)) ∧
  (∀ p ∈ xs.zip (xs.drop 1), p.1.cps.toList < p.2.cps.toList) ∧ z = .bl true
def R_is_table (ds : List D) (z : D) : Prop := ∃ (t : List (List Nat)) (rows cols most : Nat), Tab t rows cols most ∧ rows ≤ 100 ∧ cols ≤ 100 ∧ ds = [tNN t, nI rows, nI cols, nI most] ∧ z = .bl true
theorem c_are_names (m : MG mg) (C1 : Callee P w K mg base 1 "is_sequence" 1 R_is_sequence) (F : FnP K "are_names" 21 f fd) (g : mg "are_names" = some (.ref f)) : Callee P w K mg base 3 "are_names" 3 (R_are_names P w K mg base) :=
  callee (ps := ["value", "most", "is_name"]) F g (fn_pure (k := 2) (N := ["value", "most", "is_name", "one", "other"]) F ⟨rfl, rfl, rfl, by decide +kernel, rfl, by decide +kernel, by decide +kernel⟩ (by
    rintro cdv A outer s H E ds z hr hl ⟨xs, most, f, Rn, h1, h2, rfl, C, h3, h4, rfl⟩
    have nd : (["value", "most", "is_name", "one", "other"] : List Str).Nodup := by decide +kernel
    refine db_cons (ds_skip (EvT.is (dw_t (dw_or (dt_not (dt_val (ca1 C1 hr (by decide) (de_var 0 rfl) ⟨_, .inr rfl, rfl, rfl⟩))) fun _ => dw_or (dt_gt (lenT m (de_var 0 rfl)) (de_var 1 rfl)) fun _ =>
      dw_one (dt_not (dt_val (allT m (do_map (own := [("one", 3)]) (f := fun _ => .bl true) rfl nd (di_tup (de_var 0 rfl)) (blkOk_by (by show blkC ["value", "most", "is_name", "one", "other"] (defScope (top 21)) _ _ = true; decide +kernel)) no_om (by rw [List.length_map]; omega) (fun d hd => ?_)).data ?_))))) ?_) ?_)
    · obtain ⟨x, hx, rfl⟩ := List.mem_map.mp hd
      exact ⟨_, [3], by simp, fun _ _ _ _ _ => dg_name 3 nd, fun _ _ _ _ _ => de_callL (i := 2) C hr (by decide) rfl (de_var 3 rfl) (h3 x hx)⟩
    · intro d hd
      obtain ⟨_, _, rfl⟩ := List.mem_map.mp hd
      rfl
    · rw [List.length_map, decide_eq_false (by omega)]; rfl
    refine db_one (ds_ret (allT m (do_map (own := [("one", 3), ("other", 4)]) (f := fun _ => .bl true) rfl nd (zipT2 m (de_var 0 rfl) (de_sl1T (de_var 0 rfl))) (blkOk_by (by show blkC ["value", "most", "is_name", "one", "other"] (defScope (top 21)) _ _ = true; decide +kernel)) no_om (by rw [List.length_zipWith, List.length_map]; omega) (fun d hd => ?_)).data ?_) rfl)
    · obtain ⟨x, y, hxy, rfl⟩ : ∃ x y, (x, y) ∈ xs.zip (xs.drop 1) ∧ d = D.tup [.str x, .str y] := by
        rw [← List.map_drop, List.zipWith_map] at hd
        rw [show xs.zipWith (fun x y => D.tup [D.str x, D.str y]) (xs.drop 1) = (xs.zip (xs.drop 1)).map (fun p => D.tup [.str p.1, .str p.2]) by rw [List.zip, List.map_zipWith]] at hd
        obtain ⟨p, hp, e⟩ := List.mem_map.mp hd
        exact ⟨p.1, p.2, hp, e.symm⟩
      refine ⟨_, [3, 4], by simp, fun _ _ _ _ _ => dg_tup rfl (dgs_cons (dgs_cons dgs_nil nd) nd), fun _ _ _ _ _ => EvP.is (dt_ltS (de_var 3 rfl) (de_var 4 rfl)) ?_⟩
      rw [decide_eq_true (h4 _ hxy)]
    · intro d hd
      obtain ⟨_, _, rfl⟩ := List.mem_map.mp hd
      rfl)) (fun _ _ _ _ _ _ us hl => match us, hl with | [_, _, _], _ => rfl)
theorem c_is_table (m : MG mg) (C1 : Callee P w K mg base 1 "is_sequence" 1 R_is_sequence) (C2 : Callee P w K mg base 3 "is_below" 2 R_is_below) (F : FnP K "is_table" 22 f fd) (g : mg "is_table" = some (.ref f)) : Callee P w K mg base 4 "is_table" 4 R_is_table :=
  callee (ps := ["value", "rows", "columns", "most"]) F g (fn_pure (k := 3) (N := ["value", "rows", "columns", "most", "row", "one"]) F ⟨rfl, rfl, rfl, by decide +kernel, rfl, by decide +kernel, by decide +kernel⟩ (by
    rintro cdv A outer s H E ds z hr hl ⟨t, rows, cols, most, T, h1, h2, rfl, rfl⟩
    have nd : (["value", "rows", "columns", "most", "row", "one"] : List Str).Nodup := by decide +kernel
    refine db_cons (ds_skip (EvT.is (dw_t (dw_or (dt_not (dt_val (ca1 C1 hr (by decide) (de_var 0 rfl) ⟨_, .inr rfl, rfl, rfl⟩))) fun _ => dw_one (dt_neI (lenT m (de_var 0 rfl)) (de_var 1 rfl)))) ?_) ?_)
    · rw [List.length_map, T.rows]; simp
    refine db_cons (ds_skip (EvT.is (dt_not (dt_val (allT m (do_map (own := [("row", 4)]) (f := fun _ => .bl true) rfl nd (di_tup (de_var 0 rfl)) (blkOk_by (by show blkC ["value", "rows", "columns", "most", "row", "one"] (defScope (top 22)) _ _ = true; decide +kernel)) no_om (by rw [List.length_map, T.rows]; omega) (fun d hd => ?_)).data ?_))) rfl) ?_)
    · obtain ⟨r, hr', rfl⟩ := List.mem_map.mp hd
      refine ⟨_, [4], by simp, fun _ _ _ _ _ => dg_name 4 nd, fun _ _ _ _ _ => EvP.is (de_and (ca1 C1 hr (by decide) (de_var 4 rfl) ⟨_, .inr rfl, rfl, rfl⟩) fun _ => de_one (de_eqI (lenT m (de_var 4 rfl)) (de_var 2 rfl))) ?_⟩
      rw [List.length_map, T.cols r hr']; simp
    · intro d hd
      obtain ⟨_, _, rfl⟩ := List.mem_map.mp hd
      rfl
    refine db_one (ds_ret (allT m (do_lc2 (own := [("row", 4), ("one", 5)]) (vs1 := [5]) (ys := items) (f := fun _ _ => .bl true) rfl nd (di_tup (de_var 0 rfl)) (blkOk_by (by show blkC ["value", "rows", "columns", "most", "row", "one"] (defScope (top 22)) _ _ = true; decide +kernel)) no_om (by simp) ?_ (fun d hd => ?_)).data ?_) rfl)
    · have q := flat_len (g := tN) (ys := items) (f := fun _ _ => D.bl true) (c := 100) (l := t) fun r hr' => by
        show (r.map nI).length ≤ 100
        rw [List.length_map, T.cols r hr']; exact h2
      have : t.length * 100 ≤ 100 * 100 := Nat.mul_le_mul_right _ (by rw [T.rows]; exact h1)
      omega
    · obtain ⟨r, hr', rfl⟩ := List.mem_map.mp hd
      refine ⟨_, [4], by simp, fun _ _ _ _ _ => dg_name 4 nd, fun _ _ _ _ _ => di_tup (de_var 4 rfl), fun e he => ?_⟩
      obtain ⟨x, hx, rfl⟩ := List.mem_map.mp (show e ∈ r.map nI from he)
      exact ⟨_, [5], by simp, fun _ _ _ _ _ => dg_name 5 nd, fun _ _ _ _ _ => ca2 C2 hr (by decide) (de_var 5 rfl) (de_var 3 rfl) ⟨x, most, by omega, by have := T.bd r hr' x hx; omega, rfl, rfl⟩⟩
    · intro d hd
      obtain ⟨e, _, he⟩ := List.mem_flatMap.mp hd
      obtain ⟨_, _, rfl⟩ := List.mem_map.mp he
      rfl)) (fun _ _ _ _ _ _ us hl => match us, hl with | [_, _, _, _], _ => rfl)
end
end G

/-! Q3 -/
set_option Elab.async false
set_option linter.all false
set_option maxRecDepth 100000
set_option maxHeartbeats 1000000
namespace G
open PySem L2
theorem ddI_const {c : Int} : ∀ {l : List Int} {acc : List Int}, (∀ x ∈ l, x = c) → (acc = [] ∨ acc = [c]) → l.foldl addI acc = if acc = [] ∧ l = [] then [] else [c]
  | [], acc, _, h => by
    rcases h with h | h <;> subst h <;> simp
  | x :: l, acc, hx, h => by
    have e : x = c := hx x List.mem_cons_self
    subst e
    have e2 : addI acc x = [x] := by rcases h with h | h <;> subst h <;> simp [addI]
    rw [List.foldl_cons, e2, ddI_const (fun y hy => hx y (List.mem_cons_of_mem _ hy)) (.inr rfl)]
    simp
theorem ddI_all {c : Int} {l : List Int} (h : ∀ x ∈ l, x = c) (hl : l ≠ []) : ddI l = [c] := by
  unfold ddI
  rw [ddI_const h (.inl rfl)]
  simp [hl]
theorem de_chainT {X : Cx} {ρ : Rho} {ω : Om} {a b c : Expr} {pos : Pos} {i j k : Int} (h1 : i ≤ j) (h2 : j ≤ k) (ha : DE X ρ ω ω a (.int i)) (hb : DE X ρ ω ω b (.int j)) (hc : DE X ρ ω ω c (.int k)) (hm : lastMarks [CmpOp.LtE, CmpOp.LtE] [b, c] = false := by with_unfolding_all rfl) : DE X ρ ω ω (.Compare a [.LtE, .LtE] [b, c] pos) (.bl true) :=
  de_chain (k := true) op_le op_le (by
    have := rr_I0 (X := X) (g := fun i j => .bl (decide (i ≤ j))) (i := i) (j := j) (z := .bl (decide (i ≤ j))) fun _ => .bl _
    rw [decide_eq_true h1] at this
    exact this) (fun _ => by
    have := rr_I0 (X := X) (g := fun i j => .bl (decide (i ≤ j))) (i := j) (j := k) (z := .bl (decide (j ≤ k))) fun _ => .bl _
    rw [decide_eq_true h2] at this
    exact this) (fun q => nomatch q) ha hb hc hm
section
variable {P : Program} {w : World} {K : PySem.W.Frag} {mg : Str → Option Value} {base : Heap} {f : Addr} {fd : FuncData}
def R_are_answers (ds : List D) (z : D) : Prop := ∃ (t : List (List Bool)) (many n : Nat), t.length = many ∧ 1 ≤ many ∧ many ≤ 100 ∧ 1 ≤ n ∧ n ≤ 8 ∧ (∀ r ∈ t, r.length = n) ∧ ds = [tBB t, nI many] ∧ z = .bl true
def R_are_inners (ds : List D) (z : D) : Prop := ∃ m : Mach, m.Ok ∧ ds = [innD m, tS m.lab, tS m.txt] ∧ z = .bl true
def R_are_tops (ds : List D) (z : D) : Prop := ∃ m : Mach, m.Ok ∧ ds = [topD m, tS m.txt, nI m.im] ∧ z = .bl true
def R_told_table (ds : List D) (z : D) : Prop := ∃ l : List (List D), l.length ≤ 100 ∧ ds = [.tup (l.map D.tup)] ∧ z = .tup (l.map D.tup)
def R_check_machine (ds : List D) (z : D) : Prop := ∃ m : Mach, m.Ok ∧ (ds = [machD m] ∨ ds = [.lst (parts m)]) ∧ z = machD m
theorem c_are_answers (m : MG mg) (C1 : Callee P w K mg base 1 "is_sequence" 1 R_is_sequence) (F : FnP K "are_answers" 23 f fd) (g : mg "are_answers" = some (.ref f)) : Callee P w K mg base 2 "are_answers" 2 R_are_answers :=
  callee (ps := ["value", "many"]) F g (fn_pure (k := 1) (N := ["value", "many", "one", "lengths", "word"]) F ⟨rfl, rfl, rfl, by decide +kernel, rfl, by decide +kernel, by decide +kernel⟩ (by
    rintro cdv A outer s H E ds z hr hl ⟨t, many, n, h1, h2, h3, h4, h5, h6, rfl, rfl⟩
    have nd : (["value", "many", "one", "lengths", "word"] : List Str).Nodup := by decide +kernel
    refine db_cons (ds_skip (EvT.is (dw_t (dw_or (dt_not (dt_val (ca1 C1 hr (by decide) (de_var 0 rfl) ⟨_, .inr rfl, rfl, rfl⟩))) fun _ => dw_or (dt_neI (lenT m (de_var 0 rfl)) (de_var 1 rfl)) fun _ =>
      dw_one (dt_not (dt_val (allT m (do_map (own := [("one", 2)]) (f := fun _ => .bl true) rfl nd (di_tup (de_var 0 rfl)) (blkOk_by (by show blkC ["value", "many", "one", "lengths", "word"] (defScope (top 23)) _ _ = true; decide +kernel)) no_om (by rw [List.length_map]; omega) (fun d hd => ?_)).data ?_))))) ?_) ?_)
    · obtain ⟨r, hr', rfl⟩ := List.mem_map.mp hd
      exact ⟨_, [2], by simp, fun _ _ _ _ _ => dg_name 2 nd, fun _ _ _ _ _ => ca1 C1 hr (by decide) (de_var 2 rfl) ⟨_, .inr rfl, rfl, rfl⟩⟩
    · intro d hd
      obtain ⟨_, _, rfl⟩ := List.mem_map.mp hd
      rfl
    · rw [List.length_map, h1]; simp
    refine db_cons (ds_setDcI (own := [("one", 2)]) (i := 3) (f := fun d => ((items d).length : Int)) rfl nd (di_tup (de_var 0 rfl)) (blkOk_by (by show blkC ["value", "many", "one", "lengths", "word"] (defScope (top 23)) _ _ = true; decide +kernel)) no_om (by rw [List.length_map]; omega) (fun d hd => ?_) ?_)
    · obtain ⟨r, hr', rfl⟩ := List.mem_map.mp hd
      exact ⟨_, [2], by simp, fun _ _ _ _ _ => dg_name 2 nd, fun _ _ _ _ _ => lenT m (de_var 2 rfl)⟩
    have ed : ddI ((t.map tB).map fun d => ((items d).length : Int)) = [(n : Int)] := ddI_all (fun x hx => by
      obtain ⟨d, hd, rfl⟩ := List.mem_map.mp hx
      obtain ⟨r, hr', rfl⟩ := List.mem_map.mp hd
      show (((r.map D.bl).length : Nat) : Int) = n
      rw [List.length_map, h6 r hr']) (by
      intro e
      have := congrArg List.length e
      rw [List.length_map, List.length_map, h1] at this
      simp at this
      omega)
    rw [ed]
    refine db_cons (ds_skip (EvT.is (dw_t (dw_or (dt_neI (lenDI m (de_var 3 rfl)) de_int) fun _ => dw_one (dt_not (dt_val (allT m (do_map (own := [("one", 2)]) (f := fun _ => .bl true) rfl nd (di_keysI (de_var 3 rfl)) (blkOk_by (by show blkC ["value", "many", "one", "lengths", "word"] (defScope (top 23)) _ _ = true; decide +kernel)) no_om (by show 1 ≤ 100000; decide) (fun d hd => ?_)).data ?_))))) rfl) ?_)
    · obtain ⟨x, hx, rfl⟩ := List.mem_map.mp hd
      have hx : x = n := by simpa using hx
      subst hx
      exact ⟨_, [2], by simp, fun _ _ _ _ _ => dg_name 2 nd, fun _ _ _ _ _ => de_chainT (by omega) (by omega) de_int (de_var 2 rfl) (kI m.MOST_ANSWERS)⟩
    · intro d hd
      obtain ⟨_, _, rfl⟩ := List.mem_map.mp hd
      rfl
    refine db_one (ds_ret (allT m (do_lc2 (own := [("one", 2), ("word", 4)]) (vs1 := [4]) (ys := items) (f := fun _ _ => .bl true) rfl nd (di_tup (de_var 0 rfl)) (blkOk_by (by show blkC ["value", "many", "one", "lengths", "word"] (defScope (top 23)) _ _ = true; decide +kernel)) no_om (by simp) ?_ (fun d hd => ?_)).data ?_) rfl)
    · have q := flat_len (g := tB) (ys := items) (f := fun _ _ => D.bl true) (c := 8) (l := t) fun r hr' => by
        show (r.map D.bl).length ≤ 8
        rw [List.length_map, h6 r hr']; exact h5
      have : t.length * 8 ≤ 100 * 8 := Nat.mul_le_mul_right _ (by omega)
      omega
    · obtain ⟨r, hr', rfl⟩ := List.mem_map.mp hd
      refine ⟨_, [2], by simp, fun _ _ _ _ _ => dg_name 2 nd, fun _ _ _ _ _ => di_tup (de_var 2 rfl), fun e he => ?_⟩
      obtain ⟨x, hx, rfl⟩ := List.mem_map.mp (show e ∈ r.map D.bl from he)
      exact ⟨_, [4], by simp, fun _ _ _ _ _ => dg_name 4 nd, fun _ _ _ _ _ => bBlB m (de_var 4 rfl)⟩
    · intro d hd
      obtain ⟨e, _, he⟩ := List.mem_flatMap.mp hd
      obtain ⟨_, _, rfl⟩ := List.mem_map.mp he
      rfl)) (fun _ _ _ _ _ _ us hl => match us, hl with | [_, _], _ => rfl)
theorem c_are_inners (m : MG mg) (C1 : Callee P w K mg base 1 "is_sequence" 1 R_is_sequence) (C2 : Callee P w K mg base 3 "is_below" 2 R_is_below) (C3 : Callee P w K mg base 4 "is_table" 4 R_is_table) (F : FnP K "are_inners" 24 f fd) (g : mg "are_inners" = some (.ref f)) : Callee P w K mg base 5 "are_inners" 3 R_are_inners :=
  callee (ps := ["value", "labels", "texts"]) F g (fn_pure (k := 4) (N := ["value", "labels", "texts", "many", "starts", "by_text", "by_child", "one"]) F ⟨rfl, rfl, rfl, by decide +kernel, rfl, by decide +kernel, by decide +kernel⟩ (by
    rintro cdv A outer s H E ds z hr hl ⟨M, O, rfl, rfl⟩
    have nd : (["value", "labels", "texts", "many", "starts", "by_text", "by_child", "one"] : List Str).Nodup := by decide +kernel
    have i1 := O.im1
    have i2 := O.im2
    have ltx : M.txt.length ≤ 2 := by rcases O.txt with e | e | e <;> rw [e] <;> decide
    refine db_cons (ds_skip (EvT.is (dw_t (dw_or (dt_not (dt_val (ca1 C1 hr (by decide) (de_var 0 rfl) ⟨_, .inr rfl, rfl, rfl⟩))) fun _ => dw_or (dt_neI (lenT m (de_var 0 rfl)) de_int) fun _ =>
      dw_or (dt_not (dt_val (ca2 C2 hr (by decide) (de_ixT (atN (j := 0) rfl) (de_var 0 rfl) de_int) (de_add (kI m.MOST_STATES) de_int) ⟨M.im, 201, by omega, by omega, rfl, rfl⟩))) fun _ => dw_one (dt_eqI (de_ixT (atN (j := 0) rfl) (de_var 0 rfl) de_int) de_int))) ?_) ?_)
    · show (false || (false || (false || decide ((M.im : Int) = 0)))) = false
      rw [decide_eq_false (by omega)]; rfl
    refine db_cons (ds_unpack (de_var 0 rfl) (dg_tup rfl (dgs_cons (i := 3) (dgs_cons (i := 4) (dgs_cons (i := 5) (dgs_cons (i := 6) dgs_nil nd) nd) nd) nd)) ?_)
    refine db_cons (ds_skip (EvT.is (dw_t (dw_or (dt_not (dt_val (ca1 C1 hr (by decide) (de_var 4 rfl) ⟨_, .inr rfl, rfl, rfl⟩))) fun _ => dw_or (dt_neI (lenT m (de_var 4 rfl)) (de_add (lenT m (de_var 1 rfl)) de_int)) fun _ =>
      dw_one (dt_not (dt_val (allT m (do_map (own := [("one", 7)]) (f := fun _ => .bl true) rfl nd (di_tup (de_var 4 rfl)) (blkOk_by (by show blkC ["value", "labels", "texts", "many", "starts", "by_text", "by_child", "one"] (defScope (top 24)) _ _ = true; decide +kernel)) no_om (by rw [List.length_map, O.stl]; rcases O.lab with e | e | e | e <;> rw [e] <;> decide) (fun d hd => ?_)).data ?_))))) ?_) ?_)
    · obtain ⟨x, hx, rfl⟩ := List.mem_map.mp hd
      exact ⟨_, [7], by simp, fun _ _ _ _ _ => dg_name 7 nd, fun _ _ _ _ _ => ca2 C2 hr (by decide) (de_var 7 rfl) (de_var 3 rfl) ⟨x, M.im, by omega, by have := O.stb x hx; omega, rfl, rfl⟩⟩
    · intro d hd
      obtain ⟨_, _, rfl⟩ := List.mem_map.mp hd
      rfl
    · rw [List.length_map, List.length_map, O.stl]; simp
    refine db_one (ds_ret (de_and (ca4 C3 hr (by decide) (de_var 5 rfl) (de_add (lenT m (de_var 2 rfl)) de_int) (de_var 3 rfl) (de_var 3 rfl) ⟨M.itx, M.txt.length + 1, M.im, M.im, O.itx, by omega, by omega, by rw [List.length_map]; rfl, rfl⟩) fun _ =>
      de_one (ca4 C3 hr (by decide) (de_var 6 rfl) (de_var 3 rfl) (de_var 3 rfl) (de_var 3 rfl) ⟨M.ich, M.im, M.im, M.im, O.ich, by omega, by omega, rfl, rfl⟩)) rfl))) (fun _ _ _ _ _ _ us hl => match us, hl with | [_, _, _], _ => rfl)
theorem c_are_tops (m : MG mg) (C1 : Callee P w K mg base 1 "is_sequence" 1 R_is_sequence) (C2 : Callee P w K mg base 3 "is_below" 2 R_is_below) (C3 : Callee P w K mg base 4 "is_table" 4 R_is_table) (C4 : Callee P w K mg base 2 "are_answers" 2 R_are_answers) (F : FnP K "are_tops" 25 f fd) (g : mg "are_tops" = some (.ref f)) : Callee P w K mg base 5 "are_tops" 3 R_are_tops :=
  callee (ps := ["value", "texts", "inner"]) F g (fn_pure (k := 4) (N := ["value", "texts", "inner", "many", "begin", "by_text", "by_child", "answers"]) F ⟨rfl, rfl, rfl, by decide +kernel, rfl, by decide +kernel, by decide +kernel⟩ (by
    rintro cdv A outer s H E ds z hr hl ⟨M, O, rfl, rfl⟩
    have nd : (["value", "texts", "inner", "many", "begin", "by_text", "by_child", "answers"] : List Str).Nodup := by decide +kernel
    have i1 := O.tm1
    have i2 := O.tm3
    have i3 := O.im2
    have i4 := O.tb
    have ltx : M.txt.length ≤ 2 := by rcases O.txt with e | e | e <;> rw [e] <;> decide
    refine db_cons (ds_skip (EvT.is (dw_t (dw_or (dt_not (dt_val (ca1 C1 hr (by decide) (de_var 0 rfl) ⟨_, .inr rfl, rfl, rfl⟩))) fun _ => dw_or (dt_neI (lenT m (de_var 0 rfl)) de_int) fun _ =>
      dw_or (dt_not (dt_val (ca2 C2 hr (by decide) (de_ixT (atN (j := 0) rfl) (de_var 0 rfl) de_int) (de_add (kI m.MOST_STATES) de_int) ⟨M.tm, 201, by omega, by omega, rfl, rfl⟩))) fun _ => dw_one (dt_eqI (de_ixT (atN (j := 0) rfl) (de_var 0 rfl) de_int) de_int))) ?_) ?_)
    · show (false || (false || (false || decide ((M.tm : Int) = 0)))) = false
      rw [decide_eq_false (by omega)]; rfl
    refine db_cons (ds_unpack (de_var 0 rfl) (dg_tup rfl (dgs_cons (i := 3) (dgs_cons (i := 4) (dgs_cons (i := 5) (dgs_cons (i := 6) (dgs_cons (i := 7) dgs_nil nd) nd) nd) nd) nd)) ?_)
    refine db_cons (ds_skip (EvT.is (dw_t (dw_or (dt_not (dt_val (ca2 C2 hr (by decide) (de_var 4 rfl) (de_var 3 rfl) ⟨M.tb, M.tm, by omega, by omega, rfl, rfl⟩))) fun _ =>
      dw_one (dt_not (dt_val (ca4 C3 hr (by decide) (de_var 5 rfl) (de_add (lenT m (de_var 1 rfl)) de_int) (de_var 3 rfl) (de_var 3 rfl) ⟨M.ttx, M.txt.length + 1, M.tm, M.tm, O.ttx, by omega, by omega, by rw [List.length_map]; rfl, rfl⟩))))) rfl) ?_)
    obtain ⟨n, n1, n2, n3⟩ := O.wor
    refine db_one (ds_ret (de_and (ca4 C3 hr (by decide) (de_var 6 rfl) (de_var 2 rfl) (de_var 3 rfl) (de_var 3 rfl) ⟨M.tch, M.im, M.tm, M.tm, O.tch, by omega, by omega, rfl, rfl⟩) fun _ =>
      de_one (ca2 C4 hr (by decide) (de_var 7 rfl) (de_var 3 rfl) ⟨M.ans, M.tm, n, O.ans, i1, by omega, n1, by omega, n3, rfl, rfl⟩)) rfl))) (fun _ _ _ _ _ _ us hl => match us, hl with | [_, _, _], _ => rfl)
theorem c_told_table (m : MG mg) (F : FnP K "told_table" 26 f fd) (g : mg "told_table" = some (.ref f)) : Callee P w K mg base 1 "told_table" 1 R_told_table :=
  callee (ps := ["value"]) F g (fn_pure (k := 0) (N := ["value", "row"]) F ⟨rfl, rfl, rfl, by decide +kernel, rfl, by decide +kernel, by decide +kernel⟩ (by
    rintro cdv A outer s H E ds z hr hl ⟨l, h1, rfl, rfl⟩
    have nd : (["value", "row"] : List Str).Nodup := by decide +kernel
    refine db_one (ds_ret (tupL m (do_map (own := [("row", 1)]) (f := fun d => d) rfl nd (di_tup (de_var 0 rfl)) (blkOk_by (by show blkC ["value", "row"] (defScope (top 26)) _ _ = true; decide +kernel)) no_om (by rw [List.length_map]; omega) (fun d hd => ?_)).data) ?_)
    · obtain ⟨r, hr', rfl⟩ := List.mem_map.mp hd
      exact ⟨_, [1], by simp, fun _ _ _ _ _ => dg_name 1 nd, fun _ _ _ _ _ => tupT m (de_var 1 rfl)⟩
    · show D.tup ((l.map D.tup).map fun d => d) = _
      rw [List.map_id'])) (fun _ _ _ _ _ _ us hl => match us, hl with | [_], _ => rfl)
end
end G

/-! Q4 -/
set_option Elab.async false
set_option linter.all false
set_option maxRecDepth 100000
set_option maxHeartbeats 1000000
namespace G
open PySem L2
section
variable {P : Program} {w : World} {K : PySem.W.Frag} {mg : Str → Option Value} {base : Heap} {f : Addr} {fd : FuncData}
theorem c_check_machine (m : MG mg) (C1 : Callee P w K mg base 1 "is_sequence" 1 R_is_sequence) (C2 : Callee P w K mg base 3 "are_names" 3 (R_are_names P w K mg base)) (C3 : Callee P w K mg base 5 "are_inners" 3 R_are_inners) (C4 : Callee P w K mg base 5 "are_tops" 3 R_are_tops) (C5 : Callee P w K mg base 1 "told_table" 1 R_told_table) (C7 : Callee P w K mg base 2 "is_label" 1 R_is_label) (C8 : Callee P w K mg base 2 "is_text" 1 R_is_text) (F : FnP K "check_machine" 27 f fd) (g : mg "check_machine" = some (.ref f)) : Callee P w K mg base 6 "check_machine" 1 R_check_machine :=
  callee (ps := ["value"]) F g (fn_pure (k := 5) (N := ["value", "labels", "texts", "tops", "inners", "top", "inner"]) F ⟨rfl, rfl, rfl, by decide +kernel, rfl, by decide +kernel, by decide +kernel⟩ (by
    rintro cdv A outer s H E ds z hr hl ⟨M, O, hds, rfl⟩
    have nd : (["value", "labels", "texts", "tops", "inners", "top", "inner"] : List Str).Nodup := by decide +kernel
    obtain ⟨fl, hfl, CL⟩ := C7.at
    obtain ⟨ft, hft, CT⟩ := C8.at
    have ltx : M.txt.length ≤ 2 := by rcases O.txt with e | e | e <;> rw [e] <;> decide
    have llb : M.lab.length ≤ 2 := by rcases O.lab with e | e | e | e <;> rw [e] <;> decide
    have rl : R_are_names P w K mg base [tS M.lab, nI 6, .fn fl] (.bl true) := by
      refine ⟨M.lab, 6, fl, R_is_label, by omega, by omega, rfl, CL, fun x hx => ?_, ?_, rfl⟩
      · have : x = "a" ∨ x = "b" := by
          rcases O.lab with e | e | e | e <;> rw [e] at hx <;> simp at hx
          · exact .inl hx
          · exact hx
          · exact .inr hx
        rcases this with e | e
        · exact ⟨97, by decide, by decide, by rw [e]; rfl, rfl⟩
        · exact ⟨98, by decide, by decide, by rw [e]; rfl, rfl⟩
      · rcases O.lab with e | e | e | e <;> rw [e] <;> decide +kernel
    have rt : R_are_names P w K mg base [tS M.txt, nI 4, .fn ft] (.bl true) := by
      refine ⟨M.txt, 4, ft, R_is_text, by omega, by omega, rfl, CT, fun x hx => ⟨x, ?_, rfl, rfl⟩, ?_, rfl⟩
      · have : x = "x" ∨ x = "y" := by
          rcases O.txt with e | e | e <;> rw [e] at hx <;> simp at hx
          · exact .inl hx
          · exact hx
        rcases this with e | e <;> rw [e] <;> decide
      · rcases O.txt with e | e | e <;> rw [e] <;> decide +kernel
    have tc : ∀ {t : List (List Nat)} {a b c : Nat}, Tab t a b c → a ≤ 100 → R_told_table [tNN t] (tNN t) := fun {t a b c} T h => ⟨t.map fun r => r.map nI, by rw [List.length_map, T.rows]; exact h, by rw [List.map_map]; rfl, by rw [List.map_map]; rfl⟩
    have tb : R_told_table [tBB M.ans] (tBB M.ans) := ⟨M.ans.map fun r => r.map D.bl, by rw [List.length_map, O.ans]; have := O.tm3; omega, by rw [List.map_map]; rfl, by rw [List.map_map]; rfl⟩
    have i2 := O.im2
    rcases hds with rfl | rfl
    · refine db_cons (ds_skip (EvT.is (dw_t (dw_or (dt_not (dt_val (ca1 C1 hr (by decide) (de_var 0 rfl) ⟨_, .inr rfl, rfl, rfl⟩))) fun _ => dw_one (dt_neI (lenT m (de_var 0 rfl)) de_int))) rfl) ?_)
      refine db_cons (ds_unpack (de_var 0 rfl) (dg_tup rfl (dgs_cons (i := 1) (dgs_cons (i := 2) (dgs_cons (i := 3) (dgs_cons (i := 4) dgs_nil nd) nd) nd) nd)) ?_)
      refine db_cons (ds_skip (EvT.is (dt_not (dt_val (ca3 C2 hr (by decide) (de_var 1 rfl) (kI m.MOST_LABELS) (de_globF (f := fl) rfl hfl) rl))) rfl) ?_)
      refine db_cons (ds_skip (EvT.is (dt_not (dt_val (ca3 C2 hr (by decide) (de_var 2 rfl) (kI m.MOST_TEXTS) (de_globF (f := ft) rfl hft) rt))) rfl) ?_)
      refine db_cons (ds_skip (EvT.is (dt_not (dt_val (ca3 C3 hr (by decide) (de_var 4 rfl) (de_var 1 rfl) (de_var 2 rfl) ⟨M, O, rfl, rfl⟩))) rfl) ?_)
      refine db_cons (ds_skip (EvT.is (dt_not (dt_val (ca3 C4 hr (by decide) (de_var 3 rfl) (de_var 2 rfl) (de_ixT (atN (j := 0) rfl) (de_var 4 rfl) de_int) ⟨M, O, rfl, rfl⟩))) rfl) ?_)
      refine db_cons (ds_set (i := 5) (de_tup (da_cons (de_ixT (atN (j := 0) rfl) (de_var 3 rfl) de_int) (da_cons (de_ixT (atN (j := 1) rfl) (de_var 3 rfl) de_int) (da_cons (ca1 C5 hr (by decide) (de_ixT (atN (j := 2) rfl) (de_var 3 rfl) de_int) (tc O.ttx (by omega)))
        (da_cons (ca1 C5 hr (by decide) (de_ixT (atN (j := 3) rfl) (de_var 3 rfl) de_int) (tc O.tch (by omega))) (da_cons (ca1 C5 hr (by decide) (de_ixT (atN (j := 4) rfl) (de_var 3 rfl) de_int) tb) da_nil))))) (by show 5 ≤ 100000; decide)) ?_ nd)
      refine db_cons (ds_set (i := 6) (de_tup (da_cons (de_ixT (atN (j := 0) rfl) (de_var 4 rfl) de_int) (da_cons (tupT m (de_ixT (atN (j := 1) rfl) (de_var 4 rfl) de_int)) (da_cons (ca1 C5 hr (by decide) (de_ixT (atN (j := 2) rfl) (de_var 4 rfl) de_int) (tc O.itx (by omega)))
        (da_cons (ca1 C5 hr (by decide) (de_ixT (atN (j := 3) rfl) (de_var 4 rfl) de_int) (tc O.ich (by omega))) da_nil)))) (by show 4 ≤ 100000; decide)) ?_ nd)
      exact db_one (ds_ret (de_tup (da_cons (tupT m (de_var 1 rfl)) (da_cons (tupT m (de_var 2 rfl)) (da_cons (de_var 5 rfl) (da_cons (de_var 6 rfl) da_nil)))) (by show 4 ≤ 100000; decide)) rfl)
    · refine db_cons (ds_skip (EvT.is (dw_t (dw_or (dt_not (dt_val (ca1 C1 hr (by decide) (de_var 0 rfl) ⟨_, .inl rfl, rfl, rfl⟩))) fun _ => dw_one (dt_neI (lenL m (de_var 0 rfl)) de_int))) rfl) ?_)
      refine db_cons (ds_unpack (de_var 0 rfl) (dg_lst rfl (dgs_cons (i := 1) (dgs_cons (i := 2) (dgs_cons (i := 3) (dgs_cons (i := 4) dgs_nil nd) nd) nd) nd)) ?_)
      refine db_cons (ds_skip (EvT.is (dt_not (dt_val (ca3 C2 hr (by decide) (de_var 1 rfl) (kI m.MOST_LABELS) (de_globF (f := fl) rfl hfl) rl))) rfl) ?_)
      refine db_cons (ds_skip (EvT.is (dt_not (dt_val (ca3 C2 hr (by decide) (de_var 2 rfl) (kI m.MOST_TEXTS) (de_globF (f := ft) rfl hft) rt))) rfl) ?_)
      refine db_cons (ds_skip (EvT.is (dt_not (dt_val (ca3 C3 hr (by decide) (de_var 4 rfl) (de_var 1 rfl) (de_var 2 rfl) ⟨M, O, rfl, rfl⟩))) rfl) ?_)
      refine db_cons (ds_skip (EvT.is (dt_not (dt_val (ca3 C4 hr (by decide) (de_var 3 rfl) (de_var 2 rfl) (de_ixT (atN (j := 0) rfl) (de_var 4 rfl) de_int) ⟨M, O, rfl, rfl⟩))) rfl) ?_)
      refine db_cons (ds_set (i := 5) (de_tup (da_cons (de_ixT (atN (j := 0) rfl) (de_var 3 rfl) de_int) (da_cons (de_ixT (atN (j := 1) rfl) (de_var 3 rfl) de_int) (da_cons (ca1 C5 hr (by decide) (de_ixT (atN (j := 2) rfl) (de_var 3 rfl) de_int) (tc O.ttx (by omega)))
        (da_cons (ca1 C5 hr (by decide) (de_ixT (atN (j := 3) rfl) (de_var 3 rfl) de_int) (tc O.tch (by omega))) (da_cons (ca1 C5 hr (by decide) (de_ixT (atN (j := 4) rfl) (de_var 3 rfl) de_int) tb) da_nil))))) (by show 5 ≤ 100000; decide)) ?_ nd)
      refine db_cons (ds_set (i := 6) (de_tup (da_cons (de_ixT (atN (j := 0) rfl) (de_var 4 rfl) de_int) (da_cons (tupT m (de_ixT (atN (j := 1) rfl) (de_var 4 rfl) de_int)) (da_cons (ca1 C5 hr (by decide) (de_ixT (atN (j := 2) rfl) (de_var 4 rfl) de_int) (tc O.itx (by omega)))
        (da_cons (ca1 C5 hr (by decide) (de_ixT (atN (j := 3) rfl) (de_var 4 rfl) de_int) (tc O.ich (by omega))) da_nil)))) (by show 4 ≤ 100000; decide)) ?_ nd)
      exact db_one (ds_ret (de_tup (da_cons (tupT m (de_var 1 rfl)) (da_cons (tupT m (de_var 2 rfl)) (da_cons (de_var 5 rfl) (da_cons (de_var 6 rfl) da_nil)))) (by show 4 ≤ 100000; decide)) rfl))) (fun _ _ _ _ _ _ us hl => match us, hl with | [_], _ => rfl)
end
end G

/-! M1 -/
set_option Elab.async false
set_option linter.all false
set_option maxRecDepth 100000
set_option maxHeartbeats 1000000
namespace G
/-! ## 26. What can be come to -/
def app (f : List Nat) (a : Nat) : Nat := f.getD a 0
def ent (t : List (List Nat)) (i j : Nat) : Nat := app (t.getD i []) j
inductive InnR (m : Mach) : Nat → Prop where
  | start {x : Nat} : x ∈ m.st → InnR m x
  | text {s : Nat} {r : List Nat} : InnR m s → r ∈ m.itx → InnR m (app r s)
  | child {s o : Nat} : InnR m s → InnR m o → InnR m (ent m.ich o s)
inductive TopR (m : Mach) : Nat → Prop where
  | begin : TopR m m.tb
  | text {s : Nat} {r : List Nat} : TopR m s → r ∈ m.ttx → TopR m (app r s)
  | child {s o : Nat} : TopR m s → InnR m o → TopR m (ent m.tch o s)
theorem app_mem {f : List Nat} {a : Nat} (h : a < f.length) : app f a ∈ f := by
  unfold app
  rw [List.getD_eq_getElem?_getD, List.getElem?_eq_getElem h]
  exact List.getElem_mem h
theorem Tab.app {t : List (List Nat)} {rows cols most : Nat} (T : Tab t rows cols most) {r : List Nat} {a : Nat} (hr : r ∈ t) (ha : a < cols) : G.app r a < most := T.bd r hr _ (app_mem (by rw [T.cols r hr]; exact ha))
theorem Tab.row {t : List (List Nat)} {rows cols most i : Nat} (T : Tab t rows cols most) (h : i < rows) : t.getD i [] ∈ t := by
  rw [List.getD_eq_getElem?_getD, List.getElem?_eq_getElem (by rw [T.rows]; exact h)]
  exact List.getElem_mem _
theorem Tab.ent {t : List (List Nat)} {rows cols most i a : Nat} (T : Tab t rows cols most) (h : i < rows) (ha : a < cols) : G.ent t i a < most := T.app (T.row h) ha
theorem InnR.lt {m : Mach} (O : m.Ok) {x : Nat} (h : InnR m x) : x < m.im := by
  induction h with
  | start h => exact O.stb _ h
  | text _ hr ih => exact O.itx.app hr ih
  | child _ _ ih1 ih2 => exact O.ich.ent ih2 ih1
theorem TopR.lt {m : Mach} (O : m.Ok) {x : Nat} (h : TopR m x) : x < m.tm := by
  induction h with
  | begin => exact O.tb
  | text _ hr ih => exact O.ttx.app hr ih
  | child _ h2 ih1 => exact O.tch.ent (h2.lt O) ih1
/-! a list without doubles, all below n -/
theorem nodup_sub {α : Type} [DecidableEq α] : ∀ {l u : List α}, l.Nodup → (∀ x ∈ l, x ∈ u) → l.length ≤ u.length
  | [], _, _, _ => Nat.zero_le _
  | x :: l, u, nd, h => by
    obtain ⟨n1, n2⟩ := List.nodup_cons.mp nd
    have hx : x ∈ u := h x List.mem_cons_self
    have ih := nodup_sub (l := l) (u := u.erase x) n2 fun y hy => by
      have ne : y ≠ x := fun e => n1 (by rw [← e]; exact hy)
      exact (List.mem_erase_of_ne ne).mpr (h y (List.mem_cons_of_mem _ hy))
    rw [List.length_erase_of_mem hx] at ih
    have : 0 < u.length := List.length_pos_of_mem hx
    rw [List.length_cons]
    omega
theorem nodup_below {l : List Nat} {n : Nat} (nd : l.Nodup) (h : ∀ x ∈ l, x < n) : l.length ≤ n := by
  have := nodup_sub (u := List.range n) nd fun x hx => List.mem_range.mpr (h x hx)
  rwa [List.length_range] at this
/-! the text's own way -/
/-- found, with what is new of later -/
def more {α : Type} [DecidableEq α] (found later : List α) : List α := found ++ (ddU later).filter fun x => !decide (x ∈ found)
theorem mem_more {α : Type} [DecidableEq α] {found later : List α} {x : α} : x ∈ more found later ↔ x ∈ found ∨ x ∈ later := by
  unfold more
  rw [List.mem_append, List.mem_filter, mem_ddU]
  by_cases h : x ∈ found <;> simp [h]
theorem nodup_more {α : Type} [DecidableEq α] {found later : List α} (h : found.Nodup) : (more found later).Nodup := by
  unfold more
  refine List.nodup_append.mpr ⟨h, nodup_ddU.filter _, fun a ha b hb e => ?_⟩
  obtain ⟨_, h2⟩ := List.mem_filter.mp hb
  subst e
  simp [ha] at h2
theorem more_len {α : Type} [DecidableEq α] {found later : List α} : found.length ≤ (more found later).length := by unfold more; rw [List.length_append]; omega
theorem more_same {α : Type} [DecidableEq α] {found later : List α} (h : (more found later).length = found.length) : ∀ x ∈ later, x ∈ found := fun x hx => by
  unfold more at h
  rw [List.length_append] at h
  have e : (ddU later).filter (fun x => !decide (x ∈ found)) = [] := List.length_eq_zero_iff.mp (by omega)
  by_cases q : x ∈ found
  · exact q
  · have : x ∈ (ddU later).filter (fun x => !decide (x ∈ found)) := List.mem_filter.mpr ⟨mem_ddU.mpr hx, by simp [q]⟩
    rw [e] at this
    simp at this
/-- what comes behind s -/
def lat (rows ch : List (List Nat)) (inn : List Nat) (s : Nat) : List Nat := rows.map (fun r => app r s) ++ inn.map fun o => ent ch o s
def innPass (m : Mach) (found : List Nat) : List Nat := found.foldl (fun f s => more f (lat m.itx m.ich f s)) found
def innLoop (m : Mach) : Nat → Nat → List Nat → List Nat
  | 0, _, found => found
  | n + 1, size, found => if size < found.length then innLoop m n found.length (innPass m found) else found
def innCome (m : Mach) : List Nat := innLoop m (m.im + 1) 0 (ddU m.st)
def topLoop (m : Mach) (inn : List Nat) : Nat → Nat → List Nat → List Nat
  | 0, _, found => found
  | n + 1, at_, found => if at_ < found.length then topLoop m inn n (at_ + 1) (more found (lat m.ttx m.tch inn (found.getD at_ 0))) else found
def topCome (m : Mach) (inn : List Nat) : List Nat := topLoop m inn (m.tm + 1) 0 [m.tb]
/-- .. and what it gives -/
structure InnOk (m : Mach) (found : List Nat) : Prop where
  nd : found.Nodup
  r : ∀ x ∈ found, InnR m x
  st : ∀ x ∈ m.st, x ∈ found
theorem InnOk.more {m : Mach} {f inn : List Nat} {s : Nat} (h : InnOk m f) (hs : s ∈ f) (hi : ∀ o ∈ inn, InnR m o) : InnOk m (G.more f (lat m.itx m.ich inn s)) := by
  refine ⟨nodup_more h.nd, fun x hx => ?_, fun x hx => mem_more.mpr (.inl (h.st x hx))⟩
  rcases mem_more.mp hx with hx | hx
  · exact h.r x hx
  · rcases List.mem_append.mp hx with hx | hx
    · obtain ⟨r, hr, rfl⟩ := List.mem_map.mp hx
      exact .text (h.r s hs) hr
    · obtain ⟨o, ho, rfl⟩ := List.mem_map.mp hx
      exact .child (h.r s hs) (hi o ho)
theorem InnOk.fold {m : Mach} : ∀ {l f : List Nat}, InnOk m f → (∀ s ∈ l, s ∈ f) → InnOk m (l.foldl (fun f s => G.more f (lat m.itx m.ich f s)) f) ∧ f.length ≤ (l.foldl (fun f s => G.more f (lat m.itx m.ich f s)) f).length
  | [], f, h, _ => ⟨h, Nat.le_refl _⟩
  | s :: l, f, h, hl => by
    have h1 := h.more (hl s List.mem_cons_self) h.r
    obtain ⟨h2, h3⟩ := h1.fold (l := l) fun x hx => mem_more.mpr (.inl (hl x (List.mem_cons_of_mem _ hx)))
    exact ⟨h2, Nat.le_trans more_len h3⟩
theorem InnOk.pass {m : Mach} {f : List Nat} (h : InnOk m f) : InnOk m (innPass m f) := (h.fold fun _ hs => hs).1
theorem InnOk.len {m : Mach} (O : m.Ok) {f : List Nat} (h : InnOk m f) : f.length ≤ m.im := nodup_below h.nd fun x hx => (h.r x hx).lt O
/-- closed under one step -/
def InnClosed (m : Mach) (f : List Nat) : Prop := ∀ s ∈ f, ∀ x ∈ lat m.itx m.ich f s, x ∈ f
theorem fold_same {m : Mach} : ∀ {l f : List Nat}, InnOk m f → (∀ s ∈ l, s ∈ f) → (l.foldl (fun f s => G.more f (lat m.itx m.ich f s)) f).length = f.length → ∀ s ∈ l, ∀ x ∈ lat m.itx m.ich f s, x ∈ f
  | [], _, _, _, _, s, hs, _, _ => by simp at hs
  | s0 :: l, f, h, hl, e, s, hs, x, hx => by
    have h1 := h.more (hl s0 List.mem_cons_self) h.r
    have hl1 : ∀ y ∈ l, y ∈ G.more f (lat m.itx m.ich f s0) := fun y hy => mem_more.mpr (.inl (hl y (List.mem_cons_of_mem _ hy)))
    have q := (h1.fold (l := l) hl1).2
    rw [List.foldl_cons] at e
    have e1 : (G.more f (lat m.itx m.ich f s0)).length = f.length := by have := more_len (found := f) (later := lat m.itx m.ich f s0); omega
    have sm := more_same e1
    have e2 : G.more f (lat m.itx m.ich f s0) = f := by
      have : G.more f (lat m.itx m.ich f s0) = f ++ (ddU (lat m.itx m.ich f s0)).filter fun x => !decide (x ∈ f) := rfl
      rw [this] at e1 ⊢
      rw [List.length_append] at e1
      have z : (ddU (lat m.itx m.ich f s0)).filter (fun x => !decide (x ∈ f)) = [] := List.length_eq_zero_iff.mp (by omega)
      rw [z, List.append_nil]
    rcases List.mem_cons.mp hs with rfl | hs
    · exact sm x hx
    · rw [e2] at e
      exact fold_same h (fun y hy => hl y (List.mem_cons_of_mem _ hy)) e s hs x hx
theorem innLoop_ok {m : Mach} (O : m.Ok) : ∀ {n size : Nat} {found : List Nat}, InnOk m found → m.im + 1 ≤ n + size → (size = found.length → InnClosed m found) → size ≤ found.length → InnOk m (innLoop m n size found) ∧ InnClosed m (innLoop m n size found)
  | 0, size, found, h, hn, hc, hs => by
    have := h.len O
    exact absurd hn (by omega)
  | n + 1, size, found, h, hn, hc, hs => by
    unfold innLoop
    split
    · rename_i q
      have hp := h.fold (l := found) fun _ z => z
      refine innLoop_ok O h.pass (by omega) (fun e => ?_) hp.2
      have e' : (found.foldl (fun f s => G.more f (lat m.itx m.ich f s)) found).length = found.length := e.symm
      have cl := fold_same h (fun _ z => z) e'
      have : innPass m found = found := by
        have hsub : ∀ x ∈ innPass m found, x ∈ found := fun x hx => by
          have go : ∀ {l f : List Nat}, (∀ y ∈ f, y ∈ found) → (∀ y ∈ found, y ∈ f) → (∀ s ∈ l, s ∈ found) → ∀ x ∈ l.foldl (fun f s => G.more f (lat m.itx m.ich f s)) f, x ∈ found := by
            intro l
            induction l with
            | nil => exact fun h1 _ _ x hx => h1 x hx
            | cons s l ih =>
              intro f h1 h2 h3 x hx
              refine ih (fun y hy => ?_) (fun y hy => mem_more.mpr (.inl (h2 y hy))) (fun y hy => h3 y (List.mem_cons_of_mem _ hy)) x hx
              rcases mem_more.mp hy with hy | hy
              · exact h1 y hy
              · refine cl s (h3 s List.mem_cons_self) y ?_
                rcases List.mem_append.mp hy with hy | hy
                · exact List.mem_append_left _ hy
                · obtain ⟨o, ho, rfl⟩ := List.mem_map.mp hy
                  exact List.mem_append_right _ (List.mem_map.mpr ⟨o, h1 o ho, rfl⟩)
          exact go (fun y hy => hy) (fun y hy => hy) (fun s hs => hs) x hx
        have pre : ∃ t, innPass m found = found ++ t := by
          have go : ∀ {l f : List Nat}, (∃ t, f = found ++ t) → ∃ t, l.foldl (fun f s => G.more f (lat m.itx m.ich f s)) f = found ++ t := by
            intro l
            induction l with
            | nil => exact fun h => h
            | cons s l ih =>
              intro f ⟨t, e⟩
              refine ih ⟨t ++ (ddU (lat m.itx m.ich f s)).filter fun x => !decide (x ∈ f), ?_⟩
              unfold G.more
              rw [← List.append_assoc, ← e]
          exact go ⟨[], by simp⟩
        obtain ⟨t, et⟩ := pre
        have e2 : (innPass m found).length = found.length := e'
        rw [et, List.length_append] at e2
        have : t = [] := List.length_eq_zero_iff.mp (by omega)
        rw [et, this, List.append_nil]
      rw [this]
      exact cl
    · exact ⟨h, hc (by omega)⟩
theorem innOk0 {m : Mach} : InnOk m (ddU m.st) := ⟨nodup_ddU, fun x hx => .start (mem_ddU.mp hx), fun x hx => mem_ddU.mpr hx⟩
theorem innCome_ok {m : Mach} (O : m.Ok) : InnOk m (innCome m) ∧ InnClosed m (innCome m) := innLoop_ok O innOk0 (by omega) (fun e s hs => by
  have : ddU m.st = [] := List.length_eq_zero_iff.mp e.symm
  rw [this] at hs
  simp at hs) (Nat.zero_le _)
theorem mem_innCome {m : Mach} (O : m.Ok) {x : Nat} : x ∈ innCome m ↔ InnR m x := by
  obtain ⟨h1, h2⟩ := innCome_ok O
  constructor
  · exact h1.r x
  · intro h
    induction h with
    | start h => exact h1.st _ h
    | text _ hr ih => exact h2 _ ih _ (List.mem_append_left _ (List.mem_map.mpr ⟨_, hr, rfl⟩))
    | child _ _ ih1 ih2 => exact h2 _ ih1 _ (List.mem_append_right _ (List.mem_map.mpr ⟨_, ih2, rfl⟩))
theorem innCome_nd {m : Mach} (O : m.Ok) : (innCome m).Nodup := (innCome_ok O).1.nd
theorem innCome_len {m : Mach} (O : m.Ok) : (innCome m).length ≤ m.im := (innCome_ok O).1.len O
/-! the top's -/
structure TopOk (m : Mach) (found : List Nat) : Prop where
  nd : found.Nodup
  r : ∀ x ∈ found, TopR m x
  b : m.tb ∈ found
theorem TopOk.len {m : Mach} (O : m.Ok) {f : List Nat} (h : TopOk m f) : f.length ≤ m.tm := nodup_below h.nd fun x hx => (h.r x hx).lt O
theorem TopOk.more {m : Mach} {f inn : List Nat} {s : Nat} (h : TopOk m f) (hs : s ∈ f) (hi : ∀ o ∈ inn, InnR m o) : TopOk m (G.more f (lat m.ttx m.tch inn s)) := by
  refine ⟨nodup_more h.nd, fun x hx => ?_, mem_more.mpr (.inl h.b)⟩
  rcases mem_more.mp hx with hx | hx
  · exact h.r x hx
  · rcases List.mem_append.mp hx with hx | hx
    · obtain ⟨r, hr, rfl⟩ := List.mem_map.mp hx
      exact .text (h.r s hs) hr
    · obtain ⟨o, ho, rfl⟩ := List.mem_map.mp hx
      exact .child (h.r s hs) (hi o ho)
theorem getD_mem {l : List Nat} {i : Nat} (h : i < l.length) : l.getD i 0 ∈ l := app_mem h
theorem topLoop_ok {m : Mach} {inn : List Nat} (O : m.Ok) (hi : ∀ o ∈ inn, InnR m o) : ∀ {n i : Nat} {found : List Nat}, TopOk m found → m.tm + 1 ≤ n + i → i ≤ found.length → (∀ j, j < i → ∀ x ∈ lat m.ttx m.tch inn (found.getD j 0), x ∈ found) →
    TopOk m (topLoop m inn n i found) ∧ ∀ s ∈ topLoop m inn n i found, ∀ x ∈ lat m.ttx m.tch inn s, x ∈ topLoop m inn n i found
  | 0, i, found, h, hn, hl, hc => by
    have := h.len O
    exact absurd hn (by omega)
  | n + 1, i, found, h, hn, hl, hc => by
    unfold topLoop
    split
    · rename_i q
      have ml : found.length ≤ (G.more found (lat m.ttx m.tch inn (found.getD i 0))).length := more_len
      refine topLoop_ok O hi (h.more (getD_mem q) hi) (by omega) (by omega) fun j hj x hx => ?_
      have hj' : j < found.length := by omega
      have e : (G.more found (lat m.ttx m.tch inn (found.getD i 0))).getD j 0 = found.getD j 0 := by
        unfold G.more
        rw [List.getD_eq_getElem?_getD, List.getElem?_append_left hj', ← List.getD_eq_getElem?_getD]
      rw [e] at hx
      by_cases hji : j = i
      · subst hji
        exact mem_more.mpr (.inr hx)
      · exact mem_more.mpr (.inl (hc j (by omega) x hx))
    · refine ⟨h, fun s hs x hx => ?_⟩
      obtain ⟨j, hj, e⟩ := List.mem_iff_getElem.mp hs
      refine hc j (by omega) x ?_
      rw [List.getD_eq_getElem?_getD, List.getElem?_eq_getElem hj]
      show x ∈ lat m.ttx m.tch inn (found[j])
      rw [e]; exact hx
theorem topOk0 {m : Mach} : TopOk m [m.tb] := ⟨by simp, fun x hx => by simp at hx; rw [hx]; exact .begin, by simp⟩
theorem topCome_ok {m : Mach} {inn : List Nat} (O : m.Ok) (hi : ∀ o ∈ inn, InnR m o) : TopOk m (topCome m inn) ∧ ∀ s ∈ topCome m inn, ∀ x ∈ lat m.ttx m.tch inn s, x ∈ topCome m inn :=
  topLoop_ok O hi topOk0 (by omega) (Nat.zero_le _) fun j hj => absurd hj (by omega)
theorem mem_topCome {m : Mach} {inn : List Nat} (O : m.Ok) (hi : ∀ o, o ∈ inn ↔ InnR m o) {x : Nat} : x ∈ topCome m inn ↔ TopR m x := by
  obtain ⟨h1, h2⟩ := topCome_ok O fun o ho => (hi o).mp ho
  constructor
  · exact h1.r x
  · intro h
    induction h with
    | begin => exact h1.b
    | text _ hr ih => exact h2 _ ih _ (List.mem_append_left _ (List.mem_map.mpr ⟨_, hr, rfl⟩))
    | child _ ho ih => exact h2 _ ih _ (List.mem_append_right _ (List.mem_map.mpr ⟨_, (hi _).mpr ho, rfl⟩))
end G

/-! Q5 -/
set_option Elab.async false
set_option linter.all false
set_option maxRecDepth 100000
set_option maxHeartbeats 1000000
namespace G
open PySem L2
theorem EvO.is {w : World} {te : TE} {ρ : Rho} {ω ω' : Om} {o o' : Own} (h : EvO w te ρ ω ω' o) (e : o = o') : EvO w te ρ ω ω' o' := e ▸ h
theorem lstO {X : Cx} {ρ : Rho} {ω : Om} {p p1 pos : Pos} {n : Str} {l : List D} (i : Nat) (m : MG X.mg) (hm : (i, Own.lst l) ∈ ω) (hg : Gl X "list" := by exact rfl) (hN : X.N[i]? = some n := by rfl) (hv : Vis X.env.scope n := by first | exact Or.inl rfl | exact Or.inr (Or.inl rfl) | exact Or.inr (Or.inr rfl))
    (h1 : (n == ("__debug__" : Str)) = false := by decide) (h2 : (n == ("__classdict__" : Str)) = false := by decide) (hs : starEach [.Name n p1] X.env = (false, eval (.Name n p1) X.env) :: starEach [] X.env := by rfl) : DO X ρ ω ω (.Call (.Name "list" p) [.Name n p1] [] pos) (.lst l) := do_listOwn i hm m.list hg hN hv h1 h2 hs
theorem EvI.is {w : World} {ti : TI} {ρ : Rho} {ω ω' : Om} {xs xs' : List D} (h : EvI w ti ρ ω ω' xs) (e : xs = xs') : EvI w ti ρ ω ω' xs' := e ▸ h
/-! data read back -/
def unI : D → Int
  | .int i => i
  | _ => 0
def unN (d : D) : Nat := (unI d).toNat
def unL (d : D) : List Nat := (items d).map unN
theorem unN_nI (n : Nat) : unN (nI n) = n := by show ((n : Int)).toNat = n; omega
theorem map_unN (l : List Nat) : (l.map nI).map unN = l := by
  rw [List.map_map]
  exact (List.map_congr_left fun x _ => unN_nI x).trans (List.map_id' l)
theorem unL_tN (r : List Nat) : unL (tN r) = r := map_unN r
theorem at_nI {r : List Nat} {s : Nat} (h : s < r.length) : L2.atI (r.map nI) (s : Int) = some (nI (app r s)) := atN (by
  rw [List.getElem?_map, List.getElem?_eq_getElem h]
  unfold app
  rw [List.getD_eq_getElem?_getD, List.getElem?_eq_getElem h]
  rfl)
theorem at_tN {t : List (List Nat)} {i : Nat} (h : i < t.length) : L2.atI (t.map tN) (i : Int) = some (tN (t.getD i [])) := atN (by
  rw [List.getElem?_map, List.getElem?_eq_getElem h, List.getD_eq_getElem?_getD, List.getElem?_eq_getElem h]
  rfl)
theorem encN : Enc nI := ⟨fun n => ⟨rfl, by show 0 ≤ 8; decide⟩, fun a b h => by
  have : (a : Int) = b := NestedKey.num.inj h
  omega⟩
theorem ddI_nI (l : List Nat) : (ddI ((l.map nI).map unI)).map D.int = (ddU l).map nI := by
  have e : (l.map nI).map unI = l.map fun (n : Nat) => (n : Int) := by rw [List.map_map]; rfl
  rw [e, ddI_nat, List.map_map]
  rfl
section
variable {P : Program} {w : World} {K : PySem.W.Frag} {mg : Str → Option Value} {base : Heap} {f : Addr} {fd : FuncData}
def R_inner_come (ds : List D) (z : D) : Prop := ∃ m : Mach, m.Ok ∧ ds = [machD m] ∧ z = .lst ((innCome m).map nI)
def R_top_come (ds : List D) (z : D) : Prop := ∃ (m : Mach) (inn : List Nat), m.Ok ∧ (∀ o ∈ inn, InnR m o) ∧ inn.length ≤ 100 ∧ ds = [machD m, .lst (inn.map nI)] ∧ z = .lst ((topCome m inn).map nI)
theorem c_inner_come (m : MG mg) (F : FnP K "inner_come" 28 f fd) (g : mg "inner_come" = some (.ref f)) : Callee P w K mg base 1 "inner_come" 1 R_inner_come :=
  callee (ps := ["machine"]) F g (fn_pure (k := 0) (N := ["machine", "many", "starts", "by_text", "by_child", "found", "size", "state", "later", "one", "row", "other"]) F ⟨rfl, rfl, rfl, by decide +kernel, rfl, by decide +kernel, by decide +kernel⟩ (by
    rintro cdv A outer s H E ds z hr hl ⟨M, O, rfl, rfl⟩
    have nd : (["machine", "many", "starts", "by_text", "by_child", "found", "size", "state", "later", "one", "row", "other"] : List Str).Nodup := by decide +kernel
    have hu := room65 hr
    have i2 := O.im2
    have llb : M.lab.length ≤ 2 := by rcases O.lab with e | e | e | e <;> rw [e] <;> decide
    have ltx : M.txt.length ≤ 2 := by rcases O.txt with e | e | e <;> rw [e] <;> decide
    refine db_cons (ds_unpack (de_ixT (atN (j := 3) rfl) (de_var 0 rfl) de_int) (dg_tup rfl (dgs_cons (i := 1) (dgs_cons (i := 2) (dgs_cons (i := 3) (dgs_cons (i := 4) dgs_nil nd) nd) nd) nd)) ?_)
    refine db_cons (ds_setO (i := 5) (EvO.is (lstI m (de_dcI (own := [("one", 9)]) (f := unI) rfl nd (di_tup (de_var 2 rfl)) (blkOk_by (by show blkC ["machine", "many", "starts", "by_text", "by_child", "found", "size", "state", "later", "one", "row", "other"] (defScope (top 28)) _ _ = true; decide +kernel)) no_om (by rw [List.length_map, O.stl]; omega) (fun d hd => ?_))) (congrArg Own.lst (ddI_nI M.st))) ?_ (by show 5 < 12; decide) nd)
    · obtain ⟨x, hx, rfl⟩ := List.mem_map.mp hd
      exact ⟨_, [9], by simp, fun _ _ _ _ _ => dg_name 9 nd, fun _ _ _ _ _ => de_var 9 rfl⟩
    refine db_cons (ds_set (i := 6) de_int ?_ nd)
    refine db_cons (ds_while (fun n ρ ω => ∃ (found : List Nat) (size : Nat) (a b : Option D), ρ = [some (machD M), some (nI M.im), some (tN M.st), some (tNN M.itx), some (tNN M.ich), none, some (nI size), a, b, none, none, none] ∧ ω = [(5, .lst (found.map nI))] ∧ InnOk M found ∧ M.im + 1 ≤ n + size ∧ innLoop M n size found = innCome M)
      (M.im + 1) ⟨ddU M.st, 0, none, none, rfl, rfl, innOk0, by omega, rfl⟩ ?_ PySem.PassesOwn.never)
    rintro n ρ ω ⟨found, size, a, b, rfl, rfl, K1, hn, hL⟩
    have lf := K1.len O
    refine ⟨decide (size < found.length), [(5, .lst (found.map nI))], EvT.is (et_view (i := 5) List.mem_cons_self calm_nil (dt_lt (de_var 6 rfl) (lenL m (de_var 5 rfl)))) ?_, fun hk => ?_, fun hk => ?_⟩
    · rw [List.length_map]; simp
    · have hlt : size < found.length := of_decide_eq_true hk
      obtain ⟨n, rfl⟩ : ∃ n', n = n' + 1 := ⟨n - 1, by omega⟩
      unfold innLoop at hL
      rw [if_pos hlt] at hL
      refine db_cons (ds_set (i := 6) (ev_view (i := 5) List.mem_cons_self calm_nil rfl (lenL m (de_var 5 rfl))) ?_ nd)
      rw [List.length_map]
      refine db_one (ds_for (di_list (lstO 5 m List.mem_cons_self).data) (fun i ρ ω => ∃ (f : List Nat) (a b : Option D), ρ = [some (machD M), some (nI M.im), some (tN M.st), some (tNN M.itx), some (tNN M.ich), none, some (nI found.length), a, b, none, none, none] ∧ ω = [(5, .lst (f.map nI))] ∧ InnOk M f ∧ (∀ s ∈ found, s ∈ f) ∧
        (found.drop i).foldl (fun f s => more f (lat M.itx M.ich f s)) f = innPass M found) ⟨found, a, b, rfl, rfl, K1, fun _ h => h, rfl⟩ ?_ ?_ rfl PySem.PassesOwn.never)
      · rintro i d ρ ω hd ⟨f, a, b, rfl, rfl, K2, hsub, hf⟩
        rw [List.getElem?_map] at hd
        cases hx : found[i]? with
        | none => rw [hx] at hd; cases hd
        | some x =>
          rw [hx] at hd
          cases hd
          have hxm : x ∈ found := List.mem_of_getElem? hx
          have hxlt := (K2.r x (hsub x hxm)).lt O
          have lf2 := K2.len O
          refine ⟨_, [7], dg_name 7 nd, ?_⟩
          have ecat : (M.itx.map tN).map (fun d => nI (app (unL d) x)) ++ (f.map nI).map (fun d => nI (ent M.ich (unN d) x)) = (lat M.itx M.ich f x).map nI := by
            unfold lat
            rw [List.map_append, List.map_map, List.map_map, List.map_map, List.map_map]
            congr 1
            exact List.map_congr_left fun r _ => by show nI (app (unL (tN r)) x) = nI (app r x); rw [unL_tN]
          have lz : ((M.itx.map tN).map (fun d => nI (app (unL d) x))).length + ((f.map nI).map (fun d => nI (ent M.ich (unN d) x))).length ≤ 100000 := by
            simp only [List.length_map]; rw [O.itx.rows]; omega
          refine db_cons (ds_set (i := 8) (EvP.is (de_cat lz (do_map (own := [("row", 10)]) (f := fun d => nI (app (unL d) x)) rfl nd (di_tup (de_var 3 rfl)) (blkOk_by (by show blkC ["machine", "many", "starts", "by_text", "by_child", "found", "size", "state", "later", "one", "row", "other"] (defScope (top 28)) _ _ = true; decide +kernel)) (by simp) (by rw [List.length_map, O.itx.rows]; omega) (fun d hd => ?_)).data
            (do_map (own := [("other", 11)]) (f := fun d => nI (ent M.ich (unN d) x)) rfl nd (di_list (lstO 5 m List.mem_cons_self).data) (blkOk_by (by show blkC ["machine", "many", "starts", "by_text", "by_child", "found", "size", "state", "later", "one", "row", "other"] (defScope (top 28)) _ _ = true; decide +kernel)) (by simp) (by rw [List.length_map]; omega) (fun d hd => ?_)).data) (congrArg D.lst ecat)) ?_ nd)
          · obtain ⟨r, hr', rfl⟩ := List.mem_map.mp hd
            refine ⟨_, [10], by simp, fun _ _ _ _ _ => dg_name 10 nd, fun _ _ _ _ _ => EvP.is (de_ixT (at_nI (r := r) (s := x) (by rw [O.itx.cols r hr']; exact hxlt)) (de_var 10 rfl) (de_var 7 rfl)) ?_⟩
            rw [unL_tN]
          · obtain ⟨r, hr', rfl⟩ := List.mem_map.mp hd
            have hr2 := (K2.r r hr').lt O
            refine ⟨_, [11], by simp, fun _ _ _ _ _ => dg_name 11 nd, fun _ _ _ _ _ => EvP.is (de_ixT (at_nI (r := M.ich.getD r []) (s := x) (by rw [O.ich.cols _ (O.ich.row hr2)]; exact hxlt)) (de_ixT (at_tN (by rw [O.ich.rows]; exact hr2)) (de_var 4 rfl) (de_var 11 rfl)) (de_var 7 rfl)) ?_⟩
            rw [unN_nI]; rfl
          have K3 := K2.more (hsub x hxm) K2.r
          have llat : (lat M.itx M.ich f x).length ≤ 100 := by unfold lat; rw [List.length_append, List.length_map, List.length_map, O.itx.rows]; omega
          have efil : (((ddU (lat M.itx M.ich f x)).map nI).filter (fun d => !decide (unN d ∈ f))).map (fun d => d) = ((ddU (lat M.itx M.ich f x)).filter (fun x => !decide (x ∈ f))).map nI := by
            rw [List.map_id', List.filter_map]
            rfl
          refine db_one (ds_extend 5 List.mem_cons_self (EvP.is (do_filter (own := [("one", 9)]) (q := fun d => !decide (unN d ∈ f)) (f := fun d => d) rfl nd (EvI.is (di_keysI (de_dcI (own := [("one", 9)]) (f := unI) rfl nd (di_list (de_var 8 rfl)) (blkOk_by (by show blkC ["machine", "many", "starts", "by_text", "by_child", "found", "size", "state", "later", "one", "row", "other"] (defScope (top 28)) _ _ = true; decide +kernel)) (by simp) (by rw [List.length_map]; omega) (fun d hd => ?_))) (ddI_nI _)) (blkOk_by (by show blkC ["machine", "many", "starts", "by_text", "by_child", "found", "size", "state", "later", "one", "row", "other"] (defScope (top 28)) _ _ = true; decide +kernel)) (by simp) ?_ (fun d hd => ?_)).data (congrArg D.lst efil)) ?_ ?_)
          · obtain ⟨y, hy, rfl⟩ := List.mem_map.mp hd
            exact ⟨_, [9], by simp, fun _ _ _ _ _ => dg_name 9 nd, fun _ _ _ _ _ => de_var 9 rfl⟩
          · rw [List.length_map]
            have := nodup_sub (l := ddU (lat M.itx M.ich f x)) nodup_ddU fun y hy => mem_ddU.mp hy
            omega
          · obtain ⟨y, hy, rfl⟩ := List.mem_map.mp hd
            refine ⟨_, [9], by simp, fun _ _ _ _ _ => dg_name 9 nd, fun _ _ _ _ _ => dts_one (EvT.is (et_view (i := 5) List.mem_cons_self calm_nil (dt_niK hu (encN.ok y) encN.all (de_var 9 rfl) (de_var 5 rfl))) ?_), fun _ _ _ _ _ _ => de_var 9 rfl⟩
            rw [encN.any, unN_nI]
          · have := K3.len O
            have e : (more f (lat M.itx M.ich f x)).length = f.length + ((ddU (lat M.itx M.ich f x)).filter (fun x => !decide (x ∈ f))).length := by unfold more; rw [List.length_append]
            rw [List.length_map, List.length_map]; omega
          · refine ⟨more f (lat M.itx M.ich f x), _, _, rfl, ?_, K3, fun y hy => mem_more.mpr (.inl (hsub y hy)), ?_⟩
            · show [(5, Own.lst (f.map nI ++ _))] = _
              rw [← List.map_append]; rfl
            · rw [← hf, List.drop_eq_getElem_cons (List.getElem?_eq_some_iff.mp hx).1, List.foldl_cons, (List.getElem?_eq_some_iff.mp hx).2]
      · rintro ρ ω ⟨f, a, b, rfl, rfl, K2, hsub, hf⟩
        rw [List.length_map, List.drop_length] at hf
        have hf : f = innPass M found := hf
        subst hf
        exact ⟨n, by omega, innPass M found, found.length, a, b, rfl, rfl, K2, by omega, hL⟩
    · have hge : ¬ size < found.length := of_decide_eq_false hk
      have e : found = innCome M := by
        rw [← hL]
        cases n with
        | zero => rfl
        | succ n => unfold innLoop; rw [if_neg hge]
      subst e
      exact db_one (ds_retOwn 5 List.mem_cons_self rfl))) (fun _ _ _ _ _ _ us hl => match us, hl with | [_], _ => rfl)
end
end G

/-! Q6 -/
set_option Elab.async false
set_option linter.all false
set_option maxRecDepth 100000
set_option maxHeartbeats 1000000
namespace G
open PySem L2
section
variable {P : Program} {w : World} {K : PySem.W.Frag} {mg : Str → Option Value} {base : Heap} {f : Addr} {fd : FuncData}
def R_need_depth (ds : List D) (z : D) : Prop := ∃ n : Nat, ds = [nI n] ∧ z = nI n
/-- a stack of states: the top's, the inner ones -/
structure StackOk (m : Mach) (S : List Nat) : Prop where
  ne : S ≠ []
  hd : app S 0 < m.tm
  tl : ∀ x ∈ S.drop 1, x < m.im
  len : S.length ≤ 100
def R_is_stack (ds : List D) (z : D) : Prop := ∃ (m : Mach) (S : List Nat), m.Ok ∧ StackOk m S ∧ (ds = [machD m, tN S] ∨ ds = [machD m, .lst (S.map nI)]) ∧ z = .bl true
def R_check_stack (ds : List D) (z : D) : Prop := ∃ (m : Mach) (S : List Nat), m.Ok ∧ StackOk m S ∧ (ds = [machD m, tN S] ∨ ds = [machD m, .lst (S.map nI)]) ∧ z = tN S
/-- a pair -/
abbrev pD (p : Nat × Nat) : D := .tup [nI p.1, nI p.2]
def ansOf (m : Mach) (a : Nat) : List Bool := m.ans.getD a []
def R_is_parted (ds : List D) (z : D) : Prop := ∃ (m : Mach) (p : Nat × Nat), m.Ok ∧ p.1 < m.tm ∧ p.2 < m.tm ∧ ds = [machD m, pD p] ∧ z = .bl (!decide (ansOf m p.1 = ansOf m p.2))
def maps3 (m : Mach) : List (List Nat) := m.itx ++ (innCome m).map fun s => m.ich.getD s []
def maps2 (m : Mach) : List (List Nat) := m.ttx ++ (innCome m).map fun s => m.tch.getD s []
def R_step_maps (ds : List D) (z : D) : Prop := ∃ m : Mach, m.Ok ∧ ((ds = [machD m, nI 3] ∧ z = .lst ((maps3 m).map tN)) ∨ (ds = [machD m, nI 2] ∧ z = .lst ((maps2 m).map tN)))
theorem c_top_come (m : MG mg) (F : FnP K "top_come" 29 f fd) (g : mg "top_come" = some (.ref f)) : Callee P w K mg base 1 "top_come" 2 R_top_come :=
  callee (ps := ["machine", "inner"]) F g (fn_pure (k := 0) (N := ["machine", "inner", "many", "begin", "by_text", "by_child", "answers", "found", "at", "later", "one", "row", "other"]) F ⟨rfl, rfl, rfl, by decide +kernel, rfl, by decide +kernel, by decide +kernel⟩ (by
    rintro cdv A outer s H E ds z hr hl ⟨M, inn, O, hi, li, rfl, rfl⟩
    have nd : (["machine", "inner", "many", "begin", "by_text", "by_child", "answers", "found", "at", "later", "one", "row", "other"] : List Str).Nodup := by decide +kernel
    have hu := room65 hr
    have i2 := O.im2
    have t3 := O.tm3
    have ltx : M.txt.length ≤ 2 := by rcases O.txt with e | e | e <;> rw [e] <;> decide
    refine db_cons (ds_unpack (de_ixT (atN (j := 2) rfl) (de_var 0 rfl) de_int) (dg_tup rfl (dgs_cons (i := 2) (dgs_cons (i := 3) (dgs_cons (i := 4) (dgs_cons (i := 5) (dgs_cons (i := 6) dgs_nil nd) nd) nd) nd) nd)) ?_)
    refine db_cons (ds_two (ω2 := []) (i1 := 7) (i2 := 8) rfl (do_lst (da_1 (de_var 3 rfl)) (by show 1 ≤ 100000; decide)) (fun _ _ => de_int) ?_ (by show 7 < 13; decide) (by decide) nd)
    refine db_cons (ds_while (fun n ρ ω => ∃ (found : List Nat) (k : Nat) (a : Option D), ρ = [some (machD M), some (.lst (inn.map nI)), some (nI M.tm), some (nI M.tb), some (tNN M.ttx), some (tNN M.tch), some (tBB M.ans), none, some (nI k), a, none, none, none] ∧ ω = [(7, .lst (found.map nI))] ∧ TopOk M found ∧ M.tm + 1 ≤ n + k ∧ topLoop M inn n k found = topCome M inn)
      (M.tm + 1) ⟨[M.tb], 0, none, rfl, rfl, topOk0, by omega, rfl⟩ ?_ PySem.PassesOwn.never)
    rintro n ρ ω ⟨found, k, a, rfl, rfl, K1, hn, hL⟩
    have lf := K1.len O
    refine ⟨decide (k < found.length), [(7, .lst (found.map nI))], EvT.is (et_view (i := 7) List.mem_cons_self calm_nil (dt_lt (de_var 8 rfl) (lenL m (de_var 7 rfl)))) ?_, fun hk => ?_, fun hk => ?_⟩
    · rw [List.length_map]; simp
    · have hlt : k < found.length := of_decide_eq_true hk
      obtain ⟨n, rfl⟩ : ∃ n', n = n' + 1 := ⟨n - 1, by omega⟩
      unfold topLoop at hL
      rw [if_pos hlt] at hL
      obtain ⟨x, hxe⟩ : ∃ x, found.getD k 0 = x := ⟨_, rfl⟩
      have hxm : x ∈ found := by rw [← hxe]; exact getD_mem hlt
      have hxlt := (K1.r x hxm).lt O
      have hxk : L2.atI (found.map nI) (k : Int) = some (nI x) := by rw [← hxe]; exact at_nI hlt
      rw [hxe] at hL
      have ecat : (M.ttx.map tN).map (fun d => nI (app (unL d) x)) ++ (inn.map nI).map (fun d => nI (ent M.tch (unN d) x)) = (lat M.ttx M.tch inn x).map nI := by
        unfold lat
        rw [List.map_append, List.map_map, List.map_map, List.map_map, List.map_map]
        congr 1
        exact List.map_congr_left fun r _ => by show nI (app (unL (tN r)) x) = nI (app r x); rw [unL_tN]
      have lz : ((M.ttx.map tN).map (fun d => nI (app (unL d) x))).length + ((inn.map nI).map (fun d => nI (ent M.tch (unN d) x))).length ≤ 100000 := by
        simp only [List.length_map]; rw [O.ttx.rows]; omega
      refine db_cons (ds_set (i := 9) (EvP.is (de_cat lz (do_map (own := [("row", 11)]) (f := fun d => nI (app (unL d) x)) rfl nd (di_tup (de_var 4 rfl)) (blkOk_by (by show blkC ["machine", "inner", "many", "begin", "by_text", "by_child", "answers", "found", "at", "later", "one", "row", "other"] (defScope (top 29)) _ _ = true; decide +kernel)) (by simp) (by rw [List.length_map, O.ttx.rows]; omega) (fun d hd => ?_)).data
        (do_map (own := [("other", 12)]) (f := fun d => nI (ent M.tch (unN d) x)) rfl nd (di_list (de_var 1 rfl)) (blkOk_by (by show blkC ["machine", "inner", "many", "begin", "by_text", "by_child", "answers", "found", "at", "later", "one", "row", "other"] (defScope (top 29)) _ _ = true; decide +kernel)) (by simp) (by rw [List.length_map]; omega) (fun d hd => ?_)).data) (congrArg D.lst ecat)) ?_ nd)
      · obtain ⟨r, hr', rfl⟩ := List.mem_map.mp hd
        refine ⟨_, [11], by simp, fun _ _ _ _ _ => dg_name 11 nd, fun _ _ _ _ _ => EvP.is (de_ixT (at_nI (r := r) (s := x) (by rw [O.ttx.cols r hr']; exact hxlt)) (de_var 11 rfl) (de_ixOwn 7 List.mem_cons_self hxk (de_var 8 rfl))) ?_⟩
        rw [unL_tN]
      · obtain ⟨r, hr', rfl⟩ := List.mem_map.mp hd
        have hr2 := (hi r hr').lt O
        refine ⟨_, [12], by simp, fun _ _ _ _ _ => dg_name 12 nd, fun _ _ _ _ _ => EvP.is (de_ixT (at_nI (r := M.tch.getD r []) (s := x) (by rw [O.tch.cols _ (O.tch.row hr2)]; exact hxlt)) (de_ixT (at_tN (by rw [O.tch.rows]; exact hr2)) (de_var 5 rfl) (de_var 12 rfl)) (de_ixOwn 7 List.mem_cons_self hxk (de_var 8 rfl))) ?_⟩
        rw [unN_nI]; rfl
      have K3 := K1.more hxm hi
      have llat : (lat M.ttx M.tch inn x).length ≤ 200 := by unfold lat; rw [List.length_append, List.length_map, List.length_map, O.ttx.rows]; omega
      have efil : (((ddU (lat M.ttx M.tch inn x)).map nI).filter (fun d => !decide (unN d ∈ found))).map (fun d => d) = ((ddU (lat M.ttx M.tch inn x)).filter (fun x => !decide (x ∈ found))).map nI := by
        rw [List.map_id', List.filter_map]
        rfl
      refine db_cons (ds_extend 7 List.mem_cons_self (EvP.is (do_filter (own := [("one", 10)]) (q := fun d => !decide (unN d ∈ found)) (f := fun d => d) rfl nd (EvI.is (di_keysI (de_dcI (own := [("one", 10)]) (f := unI) rfl nd (di_list (de_var 9 rfl)) (blkOk_by (by show blkC ["machine", "inner", "many", "begin", "by_text", "by_child", "answers", "found", "at", "later", "one", "row", "other"] (defScope (top 29)) _ _ = true; decide +kernel)) (by simp) (by rw [List.length_map]; omega) (fun d hd => ?_))) (ddI_nI _)) (blkOk_by (by show blkC ["machine", "inner", "many", "begin", "by_text", "by_child", "answers", "found", "at", "later", "one", "row", "other"] (defScope (top 29)) _ _ = true; decide +kernel)) (by simp) ?_ (fun d hd => ?_)).data (congrArg D.lst efil)) ?_ ?_)
      · obtain ⟨y, hy, rfl⟩ := List.mem_map.mp hd
        exact ⟨_, [10], by simp, fun _ _ _ _ _ => dg_name 10 nd, fun _ _ _ _ _ => de_var 10 rfl⟩
      · rw [List.length_map]
        have := nodup_sub (l := ddU (lat M.ttx M.tch inn x)) nodup_ddU fun y hy => mem_ddU.mp hy
        omega
      · obtain ⟨y, hy, rfl⟩ := List.mem_map.mp hd
        refine ⟨_, [10], by simp, fun _ _ _ _ _ => dg_name 10 nd, fun _ _ _ _ _ => dts_one (EvT.is (et_view (i := 7) List.mem_cons_self calm_nil (dt_niK hu (encN.ok y) encN.all (de_var 10 rfl) (de_var 7 rfl))) ?_), fun _ _ _ _ _ _ => de_var 10 rfl⟩
        rw [encN.any, unN_nI]
      · have := K3.len O
        have e : (more found (lat M.ttx M.tch inn x)).length = found.length + ((ddU (lat M.ttx M.tch inn x)).filter (fun x => !decide (x ∈ found))).length := by unfold more; rw [List.length_append]
        rw [List.length_map, List.length_map]; omega
      refine db_one (ds_augI (i := 8) (j := k) rfl de_int ?_ nd (hω := by simp [oset]))
      refine ⟨n, by omega, more found (lat M.ttx M.tch inn x), k + 1, _, rfl, ?_, K3, by omega, hL⟩
      show [(7, Own.lst (found.map nI ++ _))] = _
      rw [← List.map_append]; rfl
    · have hge : ¬ k < found.length := of_decide_eq_false hk
      have e : found = topCome M inn := by
        rw [← hL]
        cases n with
        | zero => rfl
        | succ n => unfold topLoop; rw [if_neg hge]
      subst e
      exact db_one (ds_retOwn 7 List.mem_cons_self rfl))) (fun _ _ _ _ _ _ us hl => match us, hl with | [_, _], _ => rfl)
theorem c_need_depth (C1 : Callee P w K mg base 2 "is_number" 1 R_is_number) (F : FnP K "need_depth" 31 f fd) (g : mg "need_depth" = some (.ref f)) : Callee P w K mg base 3 "need_depth" 1 R_need_depth :=
  callee (ps := ["value"]) F g (fn_pure (k := 2) (N := ["value"]) F ⟨rfl, rfl, rfl, by decide +kernel, rfl, by decide +kernel, by decide +kernel⟩ (by
    rintro cdv A outer s H E ds z hr hl ⟨n, rfl, rfl⟩
    refine db_cons (ds_skip (EvT.is (dt_not (dt_val (ca1 C1 hr (by decide) (de_var 0 rfl) ⟨n, by omega, rfl, rfl⟩))) rfl) ?_)
    exact db_one (ds_ret (de_var 0 rfl) rfl))) (fun _ _ _ _ _ _ us hl => match us, hl with | [_], _ => rfl)
theorem c_is_stack (m : MG mg) (C1 : Callee P w K mg base 1 "is_sequence" 1 R_is_sequence) (C2 : Callee P w K mg base 3 "is_below" 2 R_is_below) (F : FnP K "is_stack" 33 f fd) (g : mg "is_stack" = some (.ref f)) : Callee P w K mg base 5 "is_stack" 2 R_is_stack :=
  callee (ps := ["machine", "value"]) F g (fn_pure (k := 4) (N := ["machine", "value", "state"]) F ⟨rfl, rfl, rfl, by decide +kernel, rfl, by decide +kernel, by decide +kernel⟩ (by
    rintro cdv A outer s H E ds z hr hl ⟨M, S, O, SO, hds, rfl⟩
    have nd : (["machine", "value", "state"] : List Str).Nodup := by decide +kernel
    obtain ⟨x, S, rfl⟩ : ∃ x S', S = x :: S' := by
      cases S with
      | nil => exact absurd rfl SO.ne
      | cons x S => exact ⟨x, S, rfl⟩
    have hx : x < M.tm := SO.hd
    have hS : ∀ y ∈ S, y < M.im := SO.tl
    have lS := SO.len
    rw [List.length_cons] at lS
    rcases hds with rfl | rfl
    · refine db_cons (ds_skip (EvT.is (dw_t (dw_or (dt_not (dt_val (ca1 C1 hr (by decide) (de_var 1 rfl) ⟨_, .inr rfl, rfl, rfl⟩))) fun _ => dw_or (dt_eqI (lenT m (de_var 1 rfl)) de_int) fun _ =>
        dw_one (dt_not (dt_val (ca2 C2 hr (by decide) (de_ixT (atN (j := 0) rfl) (de_var 1 rfl) de_int) (de_ixT (atN (j := 0) rfl) (de_ixT (atN (j := 2) rfl) (de_var 0 rfl) de_int) de_int) ⟨x, M.tm, by omega, by omega, rfl, rfl⟩))))) ?_) ?_)
      · rw [List.length_map, decide_eq_false (by rw [List.length_cons]; omega)]; rfl
      refine db_one (ds_ret (allT m (do_map (own := [("state", 2)]) (f := fun _ => .bl true) rfl nd (di_tup (de_sl1T (de_var 1 rfl))) (blkOk_by (by show blkC ["machine", "value", "state"] (defScope (top 33)) _ _ = true; decide +kernel)) no_om (by show (S.map nI).length ≤ _; rw [List.length_map]; omega) (fun d hd => ?_)).data ?_) rfl)
      · obtain ⟨y, hy, rfl⟩ := List.mem_map.mp (show d ∈ S.map nI from hd)
        exact ⟨_, [2], by simp, fun _ _ _ _ _ => dg_name 2 nd, fun _ _ _ _ _ => ca2 C2 hr (by decide) (de_var 2 rfl) (de_ixT (atN (j := 0) rfl) (de_ixT (atN (j := 3) rfl) (de_var 0 rfl) de_int) de_int) ⟨y, M.im, by omega, by have := hS y hy; omega, rfl, rfl⟩⟩
      · intro d hd
        obtain ⟨_, _, rfl⟩ := List.mem_map.mp hd
        rfl
    · refine db_cons (ds_skip (EvT.is (dw_t (dw_or (dt_not (dt_val (ca1 C1 hr (by decide) (de_var 1 rfl) ⟨_, .inl rfl, rfl, rfl⟩))) fun _ => dw_or (dt_eqI (lenL m (de_var 1 rfl)) de_int) fun _ =>
        dw_one (dt_not (dt_val (ca2 C2 hr (by decide) (de_ixL (atN (j := 0) rfl) (de_var 1 rfl) de_int) (de_ixT (atN (j := 0) rfl) (de_ixT (atN (j := 2) rfl) (de_var 0 rfl) de_int) de_int) ⟨x, M.tm, by omega, by omega, rfl, rfl⟩))))) ?_) ?_)
      · rw [List.length_map, decide_eq_false (by rw [List.length_cons]; omega)]; rfl
      refine db_one (ds_ret (allT m (do_map (own := [("state", 2)]) (f := fun _ => .bl true) rfl nd (di_list (de_sl1L (de_var 1 rfl))) (blkOk_by (by show blkC ["machine", "value", "state"] (defScope (top 33)) _ _ = true; decide +kernel)) no_om (by show (S.map nI).length ≤ _; rw [List.length_map]; omega) (fun d hd => ?_)).data ?_) rfl)
      · obtain ⟨y, hy, rfl⟩ := List.mem_map.mp (show d ∈ S.map nI from hd)
        exact ⟨_, [2], by simp, fun _ _ _ _ _ => dg_name 2 nd, fun _ _ _ _ _ => ca2 C2 hr (by decide) (de_var 2 rfl) (de_ixT (atN (j := 0) rfl) (de_ixT (atN (j := 3) rfl) (de_var 0 rfl) de_int) de_int) ⟨y, M.im, by omega, by have := hS y hy; omega, rfl, rfl⟩⟩
      · intro d hd
        obtain ⟨_, _, rfl⟩ := List.mem_map.mp hd
        rfl)) (fun _ _ _ _ _ _ us hl => match us, hl with | [_, _], _ => rfl)
theorem c_check_stack (m : MG mg) (C1 : Callee P w K mg base 6 "check_machine" 1 R_check_machine) (C2 : Callee P w K mg base 5 "is_stack" 2 R_is_stack) (F : FnP K "check_stack" 34 f fd) (g : mg "check_stack" = some (.ref f)) : Callee P w K mg base 7 "check_stack" 2 R_check_stack :=
  callee (ps := ["machine", "value"]) F g (fn_pure (k := 6) (N := ["machine", "value", "told"]) F ⟨rfl, rfl, rfl, by decide +kernel, rfl, by decide +kernel, by decide +kernel⟩ (by
    rintro cdv A outer s H E ds z hr hl ⟨M, S, O, SO, hds, rfl⟩
    have nd : (["machine", "value", "told"] : List Str).Nodup := by decide +kernel
    rcases hds with rfl | rfl
    · refine db_cons (ds_set (i := 2) (ca1 C1 hr (by decide) (de_var 0 rfl) ⟨M, O, .inl rfl, rfl⟩) ?_ nd)
      refine db_cons (ds_skip (EvT.is (dt_not (dt_val (ca2 C2 hr (by decide) (de_var 2 rfl) (de_var 1 rfl) ⟨M, S, O, SO, .inl rfl, rfl⟩))) rfl) ?_)
      exact db_one (ds_ret (tupT m (de_var 1 rfl)) rfl)
    · refine db_cons (ds_set (i := 2) (ca1 C1 hr (by decide) (de_var 0 rfl) ⟨M, O, .inl rfl, rfl⟩) ?_ nd)
      refine db_cons (ds_skip (EvT.is (dt_not (dt_val (ca2 C2 hr (by decide) (de_var 2 rfl) (de_var 1 rfl) ⟨M, S, O, SO, .inr rfl, rfl⟩))) rfl) ?_)
      exact db_one (ds_ret (tupL m (de_var 1 rfl)) rfl))) (fun _ _ _ _ _ _ us hl => match us, hl with | [_, _], _ => rfl)
theorem encB : Enc (fun b : Bool => D.bl b) := ⟨fun b => ⟨rfl, by show 0 ≤ 8; decide⟩, fun a b h => by
  have : (if a = true then (1 : Int) else 0) = (if b = true then 1 else 0) := NestedKey.num.inj h
  cases a <;> cases b <;> simp at this <;> rfl⟩
theorem eqOk_tup {l : List D} (h : ∀ d ∈ l, eqish d = true ∧ (nk d).depth ≤ 7) : EqOk (.tup l) := ⟨eqishs_of fun d hd => (h d hd).1, by
  show NestedKey.depthAll (nks l) + 1 ≤ 8
  have := depthAll_le fun d hd => (h d hd).2
  omega⟩
theorem encTB : Enc tB := ⟨fun l => eqOk_tup fun d hd => by
  obtain ⟨b, _, rfl⟩ := List.mem_map.mp hd
  exact ⟨rfl, by show 0 ≤ 7; decide⟩, fun a b h => nks_map encB.inj (NestedKey.tup.inj h)⟩
theorem at_ans {m : Mach} {a : Nat} (h : a < m.ans.length) : L2.atI (m.ans.map tB) (a : Int) = some (tB (ansOf m a)) := atN (by
  unfold ansOf
  rw [List.getElem?_map, List.getElem?_eq_getElem h, List.getD_eq_getElem?_getD, List.getElem?_eq_getElem h]
  rfl)
theorem c_is_parted (F : FnP K "is_parted" 36 f fd) (g : mg "is_parted" = some (.ref f)) : Callee P w K mg base 1 "is_parted" 2 R_is_parted :=
  callee (ps := ["machine", "pair"]) F g (fn_pure (k := 0) (N := ["machine", "pair"]) F ⟨rfl, rfl, rfl, by decide +kernel, rfl, by decide +kernel, by decide +kernel⟩ (by
    rintro cdv A outer s H E ds z hr hl ⟨M, ⟨x, y⟩, O, hx, hy, rfl, rfl⟩
    refine db_one (ds_ret (de_neK (room65 hr) (encTB.ok _) (encTB.ok _) (de_ixT (at_ans (a := x) (by rw [O.ans]; exact hx)) (de_ixT (atN (j := 4) rfl) (de_ixT (atN (j := 2) rfl) (de_var 0 rfl) de_int) de_int) (de_ixT (atN (j := 0) rfl) (de_var 1 rfl) de_int))
      (de_ixT (at_ans (a := y) (by rw [O.ans]; exact hy)) (de_ixT (atN (j := 4) rfl) (de_ixT (atN (j := 2) rfl) (de_var 0 rfl) de_int) de_int) (de_ixT (atN (j := 1) rfl) (de_var 1 rfl) de_int))) ?_)
    show D.bl (!decide (nk (tB (ansOf M x)) = nk (tB (ansOf M y)))) = _
    rw [encTB.dec])) (fun _ _ _ _ _ _ us hl => match us, hl with | [_, _], _ => rfl)
theorem c_step_maps (m : MG mg) (C1 : Callee P w K mg base 1 "inner_come" 1 R_inner_come) (F : FnP K "step_maps" 38 f fd) (g : mg "step_maps" = some (.ref f)) : Callee P w K mg base 2 "step_maps" 2 R_step_maps :=
  callee (ps := ["machine", "part"]) F g (fn_pure (k := 1) (N := ["machine", "part", "state"]) F ⟨rfl, rfl, rfl, by decide +kernel, rfl, by decide +kernel, by decide +kernel⟩ (by
    rintro cdv A outer s H E ds z hr hl ⟨M, O, hds⟩
    have nd : (["machine", "part", "state"] : List Str).Nodup := by decide +kernel
    have li := innCome_len O
    have i2 := O.im2
    have ltx : M.txt.length ≤ 2 := by rcases O.txt with e | e | e <;> rw [e] <;> decide
    rcases hds with ⟨rfl, rfl⟩ | ⟨rfl, rfl⟩
    · refine db_one (ds_ret (EvP.is (de_cat ?_ (lstT m (de_ixT (atN (j := 2) rfl) (de_ixT (atN (j := 3) rfl) (de_var 0 rfl) (de_var 1 rfl)) de_int)).data (do_map (own := [("state", 2)]) (f := fun d => tN (M.ich.getD (unN d) [])) rfl nd (di_list (ca1 C1 hr (by decide) (de_var 0 rfl) ⟨M, O, rfl, rfl⟩)) (blkOk_by (by show blkC ["machine", "part", "state"] (defScope (top 38)) _ _ = true; decide +kernel)) no_om (by rw [List.length_map]; omega) (fun d hd => ?_)).data) ?_) rfl)
      · simp only [List.length_map]; rw [O.itx.rows]; omega
      · obtain ⟨y, hy, rfl⟩ := List.mem_map.mp hd
        have hy2 := ((mem_innCome O).mp hy).lt O
        refine ⟨_, [2], by simp, fun _ _ _ _ _ => dg_name 2 nd, fun _ _ _ _ _ => EvP.is (de_ixT (at_tN (t := M.ich) (i := y) (by rw [O.ich.rows]; exact hy2)) (de_ixT (atN (j := 3) rfl) (de_ixT (atN (j := 3) rfl) (de_var 0 rfl) (de_var 1 rfl)) de_int) (de_var 2 rfl)) ?_⟩
        rw [unN_nI]
      · show D.lst (M.itx.map tN ++ ((innCome M).map nI).map fun d => tN (M.ich.getD (unN d) [])) = D.lst ((maps3 M).map tN)
        unfold maps3
        rw [List.map_append, List.map_map, List.map_map]
        rfl
    · refine db_one (ds_ret (EvP.is (de_cat ?_ (lstT m (de_ixT (atN (j := 2) rfl) (de_ixT (atN (j := 2) rfl) (de_var 0 rfl) (de_var 1 rfl)) de_int)).data (do_map (own := [("state", 2)]) (f := fun d => tN (M.tch.getD (unN d) [])) rfl nd (di_list (ca1 C1 hr (by decide) (de_var 0 rfl) ⟨M, O, rfl, rfl⟩)) (blkOk_by (by show blkC ["machine", "part", "state"] (defScope (top 38)) _ _ = true; decide +kernel)) no_om (by rw [List.length_map]; omega) (fun d hd => ?_)).data) ?_) rfl)
      · simp only [List.length_map]; rw [O.ttx.rows]; omega
      · obtain ⟨y, hy, rfl⟩ := List.mem_map.mp hd
        have hy2 := ((mem_innCome O).mp hy).lt O
        refine ⟨_, [2], by simp, fun _ _ _ _ _ => dg_name 2 nd, fun _ _ _ _ _ => EvP.is (de_ixT (at_tN (t := M.tch) (i := y) (by rw [O.tch.rows]; exact hy2)) (de_ixT (atN (j := 3) rfl) (de_ixT (atN (j := 2) rfl) (de_var 0 rfl) (de_var 1 rfl)) de_int) (de_var 2 rfl)) ?_⟩
        rw [unN_nI]
      · show D.lst (M.ttx.map tN ++ ((innCome M).map nI).map fun d => tN (M.tch.getD (unN d) [])) = D.lst ((maps2 M).map tN)
        unfold maps2
        rw [List.map_append, List.map_map, List.map_map]
        rfl)) (fun _ _ _ _ _ _ us hl => match us, hl with | [_, _], _ => rfl)
end
end G

/-! M2 -/
set_option Elab.async false
set_option linter.all false
set_option maxRecDepth 100000
set_option maxHeartbeats 1000000
namespace G
open PySem L2
/-! ## 27. Lots -/
abbrev Lot := List (Nat × Nat)
inductive Led (maps : List (List Nat)) (pairs : Lot) : Nat × Nat → Prop where
  | base {p : Nat × Nat} : p ∈ pairs → Led maps pairs p
  | step {p : Nat × Nat} {f : List Nat} : Led maps pairs p → f ∈ maps → Led maps pairs (app f p.1, app f p.2)
def grid : Lot := (List.range 3).flatMap fun a => (List.range 3).map fun b => (a, b)
open Classical in
noncomputable def led (maps : List (List Nat)) (pairs : Lot) : Lot := grid.filter fun p => decide (Led maps pairs p)
theorem mem_grid {p : Nat × Nat} : p ∈ grid ↔ p.1 < 3 ∧ p.2 < 3 := by
  unfold grid
  rw [List.mem_flatMap]
  constructor
  · rintro ⟨a, ha, h⟩
    obtain ⟨b, hb, rfl⟩ := List.mem_map.mp h
    exact ⟨List.mem_range.mp ha, List.mem_range.mp hb⟩
  · rintro ⟨h1, h2⟩
    exact ⟨p.1, List.mem_range.mpr h1, List.mem_map.mpr ⟨p.2, List.mem_range.mpr h2, rfl⟩⟩
/-- maps on n states -/
structure MapsOk (maps : List (List Nat)) (n : Nat) : Prop where
  n3 : n ≤ 3
  len : ∀ f ∈ maps, f.length = n
  bd : ∀ f ∈ maps, ∀ x ∈ f, x < n
  few : maps.length ≤ 100
def LotOk (n : Nat) (l : Lot) : Prop := (∀ p ∈ l, p.1 < n ∧ p.2 < n) ∧ l.length ≤ 100
theorem Led.lt {maps : List (List Nat)} {pairs : Lot} {n : Nat} (M : MapsOk maps n) (hp : ∀ p ∈ pairs, p.1 < n ∧ p.2 < n) {p : Nat × Nat} (h : Led maps pairs p) : p.1 < n ∧ p.2 < n := by
  induction h with
  | base h => exact hp _ h
  | step _ hf ih => exact ⟨M.bd _ hf _ (app_mem (by rw [M.len _ hf]; exact ih.1)), M.bd _ hf _ (app_mem (by rw [M.len _ hf]; exact ih.2))⟩
theorem mem_led {maps : List (List Nat)} {pairs : Lot} {n : Nat} (M : MapsOk maps n) (hp : ∀ p ∈ pairs, p.1 < n ∧ p.2 < n) {p : Nat × Nat} : p ∈ led maps pairs ↔ Led maps pairs p := by
  classical
  unfold led
  rw [List.mem_filter, mem_grid, decide_eq_true_iff]
  constructor
  · exact fun h => h.2
  · intro h
    have := h.lt M hp
    have := M.n3
    exact ⟨⟨by omega, by omega⟩, h⟩
theorem led_grid {maps : List (List Nat)} {pairs : Lot} {p : Nat × Nat} (h : p ∈ led maps pairs) : p.1 < 3 ∧ p.2 < 3 := by
  unfold led at h
  exact mem_grid.mp (List.mem_filter.mp h).1
theorem led_len {maps : List (List Nat)} {pairs : Lot} : (led maps pairs).length ≤ 9 := by
  unfold led
  exact Nat.le_trans (List.length_filter_le _ _) (by decide)
theorem led_lt {maps : List (List Nat)} {pairs : Lot} {n : Nat} (M : MapsOk maps n) (hp : ∀ p ∈ pairs, p.1 < n ∧ p.2 < n) {p : Nat × Nat} (h : p ∈ led maps pairs) : p.1 < n ∧ p.2 < n := ((mem_led M hp).mp h).lt M hp
theorem led_ok {maps : List (List Nat)} {pairs : Lot} {n : Nat} (M : MapsOk maps n) (hp : ∀ p ∈ pairs, p.1 < n ∧ p.2 < n) : LotOk n (led maps pairs) := ⟨fun p h => led_lt M hp h, by have := led_len (maps := maps) (pairs := pairs); omega⟩
/-- a pair as a list of ints -/
def pI (p : Nat × Nat) : List Int := [(p.1 : Int), (p.2 : Int)]
theorem pI_D (p : Nat × Nat) : dTI (pI p) = pD p := rfl
theorem grid_sorted : (grid.map pI).Pairwise fun a b => TS.code 64 a ≤ TS.code 64 b := by decide +kernel
theorem grid_nodup : grid.Nodup := by decide +kernel
theorem led_sorted {maps : List (List Nat)} {pairs : Lot} : ((led maps pairs).map pI).Pairwise fun a b => TS.code 64 a ≤ TS.code 64 b := by
  unfold led
  exact List.Pairwise.sublist (List.Sublist.map _ List.filter_sublist) grid_sorted
theorem led_nodup {maps : List (List Nat)} {pairs : Lot} : (led maps pairs).Nodup := by
  unfold led
  exact grid_nodup.sublist List.filter_sublist
theorem pI_code {p : Nat × Nat} (h : p.1 < 3 ∧ p.2 < 3) : CodeOk 64 2 (pI p) := ⟨rfl, fun x hx => by
  have : x = (p.1 : Int) ∨ x = (p.2 : Int) := by simpa [pI] using hx
  rcases this with e | e <;> rw [e] <;> omega⟩
theorem pI_inj {p q : Nat × Nat} (h : pI p = pI q) : p = q := by
  have h1 := List.cons.inj h
  have h2 := List.cons.inj h1.2
  obtain ⟨a, b⟩ := p
  obtain ⟨c, d⟩ := q
  have e1 : (a : Int) = c := h1.1
  have e2 : (b : Int) = d := h2.1
  rw [show a = c by omega, show b = d by omega]
theorem encP : Enc pD := ⟨fun p => eqOk_tup fun d hd => by
  have : d = nI p.1 ∨ d = nI p.2 := by simpa using hd
  rcases this with e | e <;> rw [e] <;> exact ⟨rfl, by show 0 ≤ 7; decide⟩, fun p q h => by
  have h1 := List.cons.inj (NestedKey.tup.inj h)
  have h2 := List.cons.inj h1.2
  have e1 : (p.1 : Int) = q.1 := NestedKey.num.inj h1.1
  have e2 : (p.2 : Int) = q.2 := NestedKey.num.inj h2.1
  obtain ⟨a, b⟩ := p
  obtain ⟨c, d⟩ := q
  have e1 : (a : Int) = c := e1
  have e2 : (b : Int) = d := e2
  rw [show a = c by omega, show b = d by omega]⟩
theorem pD_depth (p : Nat × Nat) : (nk (pD p)).depth = 1 := rfl
theorem pD_kOk (p : Nat × Nat) : kOk (pD p) ∧ isTup (pD p) = true := ⟨⟨rfl, by show 1 ≤ 8; decide⟩, rfl⟩
def lotD : Option Lot → D
  | none => .non
  | some l => .tup (l.map pD)
theorem lotD_depth (l : Option Lot) : (nk (lotD l)).depth ≤ 2 := by
  cases l with
  | none => exact Nat.zero_le _
  | some l =>
    show NestedKey.depthAll (nks (l.map pD)) + 1 ≤ 2
    have := depthAll_le (c := 1) (l := l.map pD) fun d hd => by
      obtain ⟨p, _, rfl⟩ := List.mem_map.mp hd
      exact Nat.le_of_eq (pD_depth p)
    omega
theorem eqish_lotD (l : Option Lot) : eqish (lotD l) = true := by
  cases l with
  | none => rfl
  | some l =>
    refine eqishs_of fun d hd => ?_
    obtain ⟨p, _, rfl⟩ := List.mem_map.mp hd
    exact (encP.ok p).e
theorem keyishs_of : ∀ {l : List D}, (∀ d ∈ l, keyish d = true) → keyishs l = true
  | [], _ => rfl
  | d :: l, h => by
    show (keyish d && keyishs l) = true
    rw [h d List.mem_cons_self, keyishs_of fun x hx => h x (List.mem_cons_of_mem _ hx)]; rfl
theorem keyish_lotD (l : Option Lot) : keyish (lotD l) = true := by
  cases l with
  | none => rfl
  | some l =>
    refine keyishs_of fun d hd => ?_
    obtain ⟨p, _, rfl⟩ := List.mem_map.mp hd
    rfl
theorem encL : Enc lotD := ⟨fun l => ⟨eqish_lotD l, Nat.le_trans (lotD_depth l) (by decide)⟩, fun a b h => by
  cases a with
  | none => cases b with
    | none => rfl
    | some l => exact nomatch h
  | some l => cases b with
    | none => exact nomatch h
    | some l' => rw [nks_map encP.inj (NestedKey.tup.inj h)]⟩
abbrev LKey := Option Lot × Nat
def keyD (k : LKey) : D := .tup [lotD k.1, nI k.2]
theorem encKey : Enc keyD := ⟨fun k => eqOk_tup fun d hd => by
  have : d = lotD k.1 ∨ d = nI k.2 := by simpa using hd
  rcases this with e | e <;> rw [e]
  · exact ⟨eqish_lotD _, Nat.le_trans (lotD_depth _) (by decide)⟩
  · exact ⟨rfl, by show 0 ≤ 7; decide⟩, fun p q h => by
  have h1 := List.cons.inj (NestedKey.tup.inj h)
  have h2 := List.cons.inj h1.2
  have e1 := encL.inj _ _ h1.1
  have e2 := encN.inj _ _ h2.1
  obtain ⟨a, b⟩ := p
  obtain ⟨c, d⟩ := q
  rw [show a = c from e1, show b = d from e2]⟩
theorem keyD_kOk (k : LKey) : kOk (keyD k) := ⟨by
  show (keyish (lotD k.1) && (keyish (nI k.2) && keyishs [])) = true
  rw [keyish_lotD]; rfl, (encKey.ok k).dp⟩
theorem lotD_kOk (l : Lot) : kOk (lotD (some l)) ∧ isTup (lotD (some l)) = true := ⟨⟨keyish_lotD _, (encL.ok _).dp⟩, rfl⟩
/-- the pairs that two states come to, with a lot behind them -/
def nextP (t : List (List Nat)) (s o : Nat) : Option Lot → Lot
  | none => [(s, o)]
  | some l => l.map fun p => (ent t p.1 s, ent t p.2 o)
abbrev Level := List (LKey × Lot)
noncomputable def levelOf (m : Mach) (come : List Nat) (s : Nat) (within : List (Option Lot)) : Level := within.flatMap fun lot => come.map fun o => ((lot, o), led (maps3 m) (nextP m.ich s o lot))
def levelD (L : Level) : D := .dT (L.map fun e => keyD e.1) (L.map fun e => lotD (some e.2))
/-- a lot, or none, of pairs below n -/
def OLotOk (n : Nat) : Option Lot → Prop
  | none => True
  | some l => LotOk n l
theorem nextP_lt {t : List (List Nat)} {rows cols most s o : Nat} {lot : Option Lot} (T : Tab t rows cols most) (hs : s < cols) (ho : o < cols) (hl : OLotOk rows lot) (hc : cols ≤ most) : ∀ p ∈ nextP t s o lot, p.1 < most ∧ p.2 < most := fun p hp => by
  cases lot with
  | none =>
    have : p = (s, o) := by simpa [nextP] using hp
    subst this
    exact ⟨Nat.lt_of_lt_of_le hs hc, Nat.lt_of_lt_of_le ho hc⟩
  | some l =>
    obtain ⟨q, hq, rfl⟩ := List.mem_map.mp hp
    exact ⟨T.ent (hl.1 q hq).1 hs, T.ent (hl.1 q hq).2 ho⟩
theorem nextP_len {t : List (List Nat)} {s o n : Nat} {lot : Option Lot} (hl : OLotOk n lot) : (nextP t s o lot).length ≤ 100 := by
  cases lot with
  | none => show 1 ≤ 100; decide
  | some l => show (l.map _).length ≤ 100; rw [List.length_map]; exact hl.2
theorem maps3_ok {m : Mach} (O : m.Ok) : MapsOk (maps3 m) m.im where
  n3 := by have := O.im2; omega
  len := fun f hf => by
    rcases List.mem_append.mp hf with h | h
    · exact O.itx.cols f h
    · obtain ⟨s, hs, rfl⟩ := List.mem_map.mp h
      exact O.ich.cols _ (O.ich.row (((mem_innCome O).mp hs).lt O))
  bd := fun f hf => by
    rcases List.mem_append.mp hf with h | h
    · exact O.itx.bd f h
    · obtain ⟨s, hs, rfl⟩ := List.mem_map.mp h
      exact O.ich.bd _ (O.ich.row (((mem_innCome O).mp hs).lt O))
  few := by
    unfold maps3
    have ltx : m.txt.length ≤ 2 := by rcases O.txt with e | e | e <;> rw [e] <;> decide
    rw [List.length_append, List.length_map, O.itx.rows]
    have := innCome_len O
    have := O.im2
    omega
theorem maps2_ok {m : Mach} (O : m.Ok) : MapsOk (maps2 m) m.tm where
  n3 := O.tm3
  len := fun f hf => by
    rcases List.mem_append.mp hf with h | h
    · exact O.ttx.cols f h
    · obtain ⟨s, hs, rfl⟩ := List.mem_map.mp h
      exact O.tch.cols _ (O.tch.row (((mem_innCome O).mp hs).lt O))
  bd := fun f hf => by
    rcases List.mem_append.mp hf with h | h
    · exact O.ttx.bd f h
    · obtain ⟨s, hs, rfl⟩ := List.mem_map.mp h
      exact O.tch.bd _ (O.tch.row (((mem_innCome O).mp hs).lt O))
  few := by
    unfold maps2
    have ltx : m.txt.length ≤ 2 := by rcases O.txt with e | e | e <;> rw [e] <;> decide
    rw [List.length_append, List.length_map, O.ttx.rows]
    have := innCome_len O
    have := O.im2
    omega
/-! the text's way to led -/
structure LedOk (maps : List (List Nat)) (pairs found : Lot) : Prop where
  nd : found.Nodup
  r : ∀ p ∈ found, Led maps pairs p
  b : ∀ p ∈ pairs, p ∈ found
theorem LedOk.len {maps : List (List Nat)} {pairs found : Lot} {n : Nat} (M : MapsOk maps n) (hp : ∀ p ∈ pairs, p.1 < n ∧ p.2 < n) (h : LedOk maps pairs found) : found.length ≤ 9 := by
  have := nodup_sub (u := grid) h.nd fun p hq => mem_grid.mpr (by have := (h.r p hq).lt M hp; have := M.n3; omega)
  exact Nat.le_trans this (by decide)
def made (maps : List (List Nat)) (p : Nat × Nat) : Lot := maps.map fun f => (app f p.1, app f p.2)
theorem LedOk.more {maps : List (List Nat)} {pairs found : Lot} {p : Nat × Nat} (h : LedOk maps pairs found) (hp : p ∈ found) : LedOk maps pairs (G.more found (made maps p)) := by
  refine ⟨nodup_more h.nd, fun q hq => ?_, fun q hq => mem_more.mpr (.inl (h.b q hq))⟩
  rcases mem_more.mp hq with hq | hq
  · exact h.r q hq
  · obtain ⟨f, hf, rfl⟩ := List.mem_map.mp hq
    exact .step (h.r p hp) hf
theorem ledOk0 {maps : List (List Nat)} {pairs : Lot} : LedOk maps pairs (ddU pairs) := ⟨nodup_ddU, fun p hp => .base (mem_ddU.mp hp), fun p hp => mem_ddU.mpr hp⟩
/-- a found that is closed is led, but for the order -/
theorem LedOk.perm {maps : List (List Nat)} {pairs found : Lot} {n : Nat} (M : MapsOk maps n) (hp : ∀ p ∈ pairs, p.1 < n ∧ p.2 < n) (h : LedOk maps pairs found) (hc : ∀ p ∈ found, ∀ q ∈ made maps p, q ∈ found) : (led maps pairs).Perm found := by
  refine (List.perm_ext_iff_of_nodup led_nodup h.nd).mpr fun p => ?_
  rw [mem_led M hp]
  constructor
  · intro hl
    induction hl with
    | base h1 => exact h.b _ h1
    | step _ hf ih => exact hc _ ih _ (List.mem_map.mpr ⟨_, hf, rfl⟩)
  · exact h.r p
end G

/-! G20 -/
set_option Elab.async false
set_option linter.all false
set_option maxRecDepth 100000
set_option maxHeartbeats 1000000
namespace G
open PySem L2
/-! ## a, b = e1, e2, plain local names: stored from the right -/
section
variable {X : Cx} {ρ : Rho} {ω ω1 ω2 : Om} {e1 e2 : Expr} {x1 x2 : Str} {q1 q2 pos p1 p2 : Pos} {i1 i2 k1 k2 : Nat} {d1 d2 : D} {l : List D} {T : Post}
theorem ds_par (hc : X.calm = true) (h1 : DE X ρ ω ω1 e1 d1) (h2 : DE X ρ ω1 ω2 e2 d2) (k : T.nx ((ρ.set i1 (some d1)).set i2 (some d2)) ω2) (hij : i1 ≠ i2) (hN : X.N.Nodup)
    (hω1 : ∀ p ∈ ω2, p.1 ≠ i1 := by first | exact nil_om | simp) (hω2 : ∀ p ∈ ω2, p.1 ≠ i2 := by first | exact nil_om | simp) (hi1 : X.N[i1]? = some x1 := by rfl) (hi2 : X.N[i2]? = some x2 := by rfl) (hx1 : X.env.scope.names.lookup x1 = some .local := by rfl) (hx2 : X.env.scope.names.lookup x2 = some .local := by rfl)
    (hw : swappedStores [.Tuple [.Name x1 q1, .Name x2 q2] k1 p1] (.Tuple [e1, e2] k2 p2) X.env = pure (some [x1, x2]) := by rfl) (hs : swapsWithSole [.Tuple [.Name x1 q1, .Name x2 q2] k1 p1] (.Tuple [e1, e2] k2 p2) pos.line X.env = pure false := by rfl)
    (hs1 : starEach [e1, e2] X.env = (false, eval e1 X.env) :: starEach [e2] X.env := by rfl) (hs2 : starEach [e2] X.env = (false, eval e2 X.env) :: starEach [] X.env := by rfl) : DS X ρ ω (.Assign [.Tuple [.Name x1 q1, .Name x2 q2] k1 p1] (.Tuple [e1, e2] k2 p2) pos) T :=
  ds_of (ps_par hc hN hi1 hi2 hij hx1 hx2 sem_a hw hs) fun B F H σ Dn W M => (da_cons h1 (da_1 h2 hs2) hs1).go W fun vs F1 H1 W1 _ _ r => by
    cases r with
    | cons r1 t =>
      cases t with
      | cons r2 t =>
        cases t
        exact ⟨_, _, rfl, M.nx _ _ F1 H1 _ k ((W1.set r1 hω1).set r2 hω2)⟩
theorem ds_parO (hc : X.calm = true) (h1 : DO X ρ ω ω1 e1 (.lst l)) (h2 : DE X ρ ω1 ω1 e2 d2) (k : T.nx ((ρ.set i1 none).set i2 (some d2)) ((i1, .lst l) :: ω1)) (hl : i1 < ρ.length) (hij : i1 ≠ i2) (hN : X.N.Nodup)
    (hω1 : ∀ p ∈ ω1, p.1 ≠ i1 := by first | exact nil_om | simp) (hω2 : ∀ p ∈ ω1, p.1 ≠ i2 := by first | exact nil_om | simp) (hi1 : X.N[i1]? = some x1 := by rfl) (hi2 : X.N[i2]? = some x2 := by rfl) (hx1 : X.env.scope.names.lookup x1 = some .local := by rfl) (hx2 : X.env.scope.names.lookup x2 = some .local := by rfl)
    (hw : swappedStores [.Tuple [.Name x1 q1, .Name x2 q2] k1 p1] (.Tuple [e1, e2] k2 p2) X.env = pure (some [x1, x2]) := by rfl) (hs : swapsWithSole [.Tuple [.Name x1 q1, .Name x2 q2] k1 p1] (.Tuple [e1, e2] k2 p2) pos.line X.env = pure false := by rfl)
    (hs1 : starEach [e1, e2] X.env = (false, eval e1 X.env) :: starEach [e2] X.env := by rfl) (hs2 : starEach [e2] X.env = (false, eval e2 X.env) :: starEach [] X.env := by rfl) : DS X ρ ω (.Assign [.Tuple [.Name x1 q1, .Name x2 q2] k1 p1] (.Tuple [e1, e2] k2 p2) pos) T := by
  refine ds_of (ps_par hc hN hi1 hi2 hij hx1 hx2 (pa_cons sem_e (pa_cons sem_e pa_nil hs2) hs1) hw hs) fun B F H σ Dn W M => ?_
  refine h1.go W fun a F1 H1 W1 x1' k1' n1 N1 => ?_
  refine h2.go W1 fun v F2 H2 W2 x2' k2' r2 => ?_
  have nO : ¬ owned σ ω1 a := N1.no
  obtain ⟨fr, vs, hv, r⟩ := N1.at_
  have hv2 : H2 a = some (.lst vs) := k2'.h _ _ hv nO
  have fr2 : F2 a = none := k2'.n _ (by rw [hv]; simp) fr
  have N2 : NewAt X.w B F2 H2 σ ω1 a (.lst l) := ⟨⟨fr2, vs, hv2, r.mono x2'⟩, N1.b, N1.nm, nO⟩
  have W4 := W2.setO N2 (by rw [W.len]; exact hl) hω1
  refine ⟨_, _, rfl, M.nx _ _ F2 H2 _ k (W4.set r2 fun p hp => ?_)⟩
  rcases List.mem_cons.mp hp with e | hp
  · subst e; exact hij
  · exact hω2 p hp
end
end G

/-! Q7 -/
set_option Elab.async false
set_option linter.all false
set_option maxRecDepth 100000
set_option maxHeartbeats 1000000
namespace G
open PySem L2
def unP (d : D) : Nat × Nat := match items d with
  | [a, b] => (unN a, unN b)
  | _ => (0, 0)
def isNew {α : Type} [DecidableEq α] (found : List α) (x : α) : Bool := !decide (x ∈ found)
theorem more_eq {α : Type} [DecidableEq α] (found later : List α) : more found later = found ++ (ddU later).filter (isNew found) := rfl
theorem more_eq_len {α : Type} [DecidableEq α] (found later : List α) : (more found later).length = found.length + ((ddU later).filter (isNew found)).length := by rw [more_eq, List.length_append]
theorem unP_pD (p : Nat × Nat) : unP (pD p) = p := rfl
section
variable {P : Program} {w : World} {K : PySem.W.Frag} {mg : Str → Option Value} {base : Heap} {f : Addr} {fd : FuncData}
def R_led_lots (ds : List D) (z : D) : Prop := ∃ (maps : List (List Nat)) (pairs : Lot) (n : Nat), MapsOk maps n ∧ LotOk n pairs ∧ ds = [.lst (maps.map tN), .lst (pairs.map pD)] ∧ z = .tup ((led maps pairs).map pD)
def R_closed_pairs_of (ds : List D) (z : D) : Prop := ∃ (t : List (List Nat)) (rows cols most s o : Nat) (l : Lot), Tab t rows cols most ∧ s < cols ∧ o < cols ∧ LotOk rows l ∧ ds = [tNN t, nI s, nI o, .tup (l.map pD)] ∧ z = .lst ((l.map fun p => (ent t p.1 s, ent t p.2 o)).map pD)
theorem c_led_lots (m : MG mg) (F : FnP K "led_lots" 39 f fd) (g : mg "led_lots" = some (.ref f)) : Callee P w K mg base 1 "led_lots" 2 R_led_lots :=
  callee (ps := ["maps", "pairs"]) F g (fn_pure (k := 0) (N := ["maps", "pairs", "found", "at", "one", "other", "later", "pair", "made"]) F ⟨rfl, rfl, rfl, by decide +kernel, rfl, by decide +kernel, by decide +kernel⟩ (by
    rintro cdv A outer s H E ds z hr hl ⟨maps, pairs, n, MO, LO, rfl, rfl⟩
    have nd : (["maps", "pairs", "found", "at", "one", "other", "later", "pair", "made"] : List Str).Nodup := by decide +kernel
    have hu := room65 hr
    have hu16 : ∀ {X : Nat}, X + 65 < cLine → X + 16 < cLine := fun h => by omega
    refine db_cons (ds_two (ω2 := []) (i1 := 2) (i2 := 3) rfl (EvO.is (lstK m (do_dc (own := [("pair", 7)]) (f := fun d => d) rfl (hu16 hu) nd (di_list (de_var 1 rfl)) (blkOk_by (by show blkC ["maps", "pairs", "found", "at", "one", "other", "later", "pair", "made"] (defScope (top 39)) _ _ = true; decide +kernel)) no_om (by rw [List.length_map]; have := LO.2; omega) (fun d hd => ?_) (fun d hd => ?_)).dataD) (congrArg Own.lst (show ddK ((pairs.map pD).map fun d => d) = (ddU pairs).map pD by rw [List.map_id', ddK_enc encP]))) (fun _ _ => de_int) ?_ (by show 2 < 9; decide) (by decide) nd)
    · obtain ⟨p, _, rfl⟩ := List.mem_map.mp hd
      exact pD_kOk p
    · obtain ⟨p, _, rfl⟩ := List.mem_map.mp hd
      exact ⟨_, [7], by simp, fun _ _ _ _ _ => dg_name 7 nd, fun _ _ _ _ _ => de_var 7 rfl⟩
    refine db_cons (ds_while (fun q ρ ω => ∃ (found : Lot) (k : Nat) (a b c : Option D), ρ = [some (.lst (maps.map tN)), some (.lst (pairs.map pD)), none, some (nI k), a, b, c, none, none] ∧ ω = [(2, .lst (found.map pD))] ∧ LedOk maps pairs found ∧ q + k = 10 ∧ k ≤ found.length ∧ ∀ j, j < k → ∀ p, found[j]? = some p → ∀ x ∈ made maps p, x ∈ found)
      10 ⟨ddU pairs, 0, none, none, none, rfl, rfl, ledOk0, rfl, Nat.zero_le _, fun j hj => absurd hj (by omega)⟩ ?_ PySem.PassesOwn.never)
    rintro q ρ ω ⟨found, k, a, b, c, rfl, rfl, K1, hq, hkl, hcl⟩
    have lf := K1.len MO LO.1
    refine ⟨decide (k < found.length), [(2, .lst (found.map pD))], EvT.is (et_view (i := 2) List.mem_cons_self calm_nil (dt_lt (de_var 3 rfl) (lenL m (de_var 2 rfl)))) ?_, fun hk => ?_, fun hk => ?_⟩
    · rw [List.length_map]; simp
    · have hlt : k < found.length := of_decide_eq_true hk
      obtain ⟨⟨x, y⟩, hxy⟩ : ∃ p, found[k]? = some p := ⟨_, List.getElem?_eq_getElem hlt⟩
      have hpm : (x, y) ∈ found := List.mem_of_getElem? hxy
      have hlt2 := (K1.r _ hpm).lt MO LO.1
      have hxk : L2.atI (found.map pD) (k : Int) = some (pD (x, y)) := atN (by rw [List.getElem?_map, hxy]; rfl)
      refine db_cons (ds_unpack (de_ixOwn 2 List.mem_cons_self hxk (de_var 3 rfl)) (dg_tup rfl (dgs_cons (i := 4) (dgs_cons (i := 5) dgs_nil nd) nd)) ?_)
      have ek : ddK ((maps.map tN).map fun d => pD (app (unL d) x, app (unL d) y)) = (ddU (made maps (x, y))).map pD := by
        rw [← ddK_enc encP]
        unfold made
        rw [List.map_map, List.map_map]
        congr 1
        exact List.map_congr_left fun r _ => by show pD (app (unL (tN r)) x, app (unL (tN r)) y) = pD (app r x, app r y); rw [unL_tN]
      refine db_cons (ds_setDc (own := [("made", 8)]) (i := 6) (f := fun d => pD (app (unL d) x, app (unL d) y)) rfl (hu16 hu) nd (di_list (de_var 0 rfl)) (blkOk_by (by show blkC ["maps", "pairs", "found", "at", "one", "other", "later", "pair", "made"] (defScope (top 39)) _ _ = true; decide +kernel)) (by simp) (by rw [List.length_map]; have := MO.few; omega) (fun d hd => pD_kOk _) (fun d hd => ?_) ?_)
      · obtain ⟨r, hr', rfl⟩ := List.mem_map.mp hd
        refine ⟨_, [8], by simp, fun _ _ _ _ _ => dg_name 8 nd, fun _ _ _ _ _ => EvP.is (de_tup (da_cons (de_ixT (at_nI (r := r) (s := x) (by rw [MO.len r hr']; exact hlt2.1)) (de_var 8 rfl) (de_var 4 rfl)) (da_cons (de_ixT (at_nI (r := r) (s := y) (by rw [MO.len r hr']; exact hlt2.2)) (de_var 8 rfl) (de_var 5 rfl)) da_nil)) (by show 2 ≤ 100000; decide)) ?_⟩
        rw [unL_tN]
      rw [ek]
      have K3 := K1.more hpm
      have l3 := K3.len MO LO.1
      have lmd : (made maps (x, y)).length ≤ 100 := by unfold made; rw [List.length_map]; exact MO.few
      have efil : (((ddU (made maps (x, y))).map pD).filter (fun d => isNew found (unP d))).map (fun d => d) = ((ddU (made maps (x, y))).filter (isNew found)).map pD := by
        rw [List.map_id', List.filter_map]
        rfl
      refine db_cons (ds_extend 2 List.mem_cons_self (EvP.is (do_filter (own := [("pair", 7)]) (q := fun d => isNew found (unP d)) (f := fun d => d) rfl nd (di_keysT (de_var 6 rfl)) (blkOk_by (by show blkC ["maps", "pairs", "found", "at", "one", "other", "later", "pair", "made"] (defScope (top 39)) _ _ = true; decide +kernel)) (by simp) ?_ (fun d hd => ?_)).data (congrArg D.lst efil)) ?_ ?_)
      · rw [List.length_map]
        have := nodup_sub (l := ddU (made maps (x, y))) nodup_ddU fun y hy => mem_ddU.mp hy
        omega
      · obtain ⟨y, hy, rfl⟩ := List.mem_map.mp hd
        refine ⟨_, [7], by simp, fun _ _ _ _ _ => dg_name 7 nd, fun _ _ _ _ _ => dts_one (EvT.is (et_view (i := 2) List.mem_cons_self calm_nil (dt_niK hu (encP.ok y) encP.all (de_var 7 rfl) (de_var 2 rfl))) ?_), fun _ _ _ _ _ _ => de_var 7 rfl⟩
        rw [encP.any]; rfl
      · have e := more_eq_len found (made maps (x, y))
        rw [List.length_map, List.length_map]; omega
      refine db_one (ds_augI (i := 3) (j := k) rfl de_int ?_ nd (hω := by simp [oset]))
      refine ⟨9 - k, by omega, more found (made maps (x, y)), k + 1, _, _, _, rfl, ?_, K3, by omega, Nat.le_trans hlt more_len, fun j hj p hp x' hx' => ?_⟩
      · show [(2, Own.lst (found.map pD ++ _))] = _
        rw [← List.map_append, ← more_eq]
      · have hj' : j < found.length := by omega
        have e : (more found (made maps (x, y)))[j]? = found[j]? := by
          unfold more
          exact List.getElem?_append_left hj'
        rw [e] at hp
        by_cases hjk : j = k
        · subst hjk
          rw [hxy] at hp
          cases hp
          exact mem_more.mpr (.inr hx')
        · exact mem_more.mpr (.inl (hcl j (by omega) p hp x' hx'))
    · have hge : ¬ k < found.length := of_decide_eq_false hk
      have pm := K1.perm MO LO.1 fun p hp x hx => by
        obtain ⟨j, hj, e⟩ := List.mem_iff_getElem.mp hp
        exact hcl j (by omega) p (by rw [List.getElem?_eq_getElem hj, e]) x hx
      have nl : nolst (.tup ((led maps pairs).map pD)) = true := by
        show nolsts ((led maps pairs).map pD) = true
        have : ∀ l : Lot, nolsts (l.map pD) = true := by
          intro l
          induction l with
          | nil => rfl
          | cons p l ih => show (nolst (pD p) && nolsts (l.map pD)) = true; rw [ih]; rfl
        exact this _
      refine db_one (ds_ret (ev_view (i := 2) List.mem_cons_self calm_nil nl (EvP.is (tupL m (srtT (B := 64) (n := 2) (ls := found.map pI) (ms := (led maps pairs).map pI) m (EvP.is (de_var 2 rfl) ?_) (by decide) (fun x hx => ?_) (by rw [List.length_map]; omega) (pm.map pI) led_sorted)) ?_)) rfl)
      · show D.lst (found.map pD) = D.lst ((found.map pI).map dTI)
        rw [List.map_map]; rfl
      · obtain ⟨p, hp, rfl⟩ := List.mem_map.mp hx
        have := (K1.r p hp).lt MO LO.1
        have := MO.n3
        exact pI_code ⟨by omega, by omega⟩
      · show D.tup (((led maps pairs).map pI).map dTI) = _
        rw [List.map_map]; rfl)) (fun _ _ _ _ _ _ us hl => match us, hl with | [_, _], _ => rfl)
theorem c_closed_pairs_of (F : FnP K "closed_pairs_of" 40 f fd) (g : mg "closed_pairs_of" = some (.ref f)) : Callee P w K mg base 1 "closed_pairs_of" 4 R_closed_pairs_of :=
  callee (ps := ["steps", "state", "other", "pairs"]) F g (fn_pure (k := 0) (N := ["steps", "state", "other", "pairs", "here", "there"]) F ⟨rfl, rfl, rfl, by decide +kernel, rfl, by decide +kernel, by decide +kernel⟩ (by
    rintro cdv A outer s H E ds z hr hl ⟨t, rows, cols, most, x, o, l, T, hs, ho, LO, rfl, rfl⟩
    have nd : (["steps", "state", "other", "pairs", "here", "there"] : List Str).Nodup := by decide +kernel
    refine db_one (ds_ret (EvP.is (do_map (own := [("here", 4), ("there", 5)]) (f := fun d => pD (ent t (unP d).1 x, ent t (unP d).2 o)) rfl nd (di_tup (de_var 3 rfl)) (blkOk_by (by show blkC ["steps", "state", "other", "pairs", "here", "there"] (defScope (top 40)) _ _ = true; decide +kernel)) no_om (by rw [List.length_map]; have := LO.2; omega) (fun d hd => ?_)).data ?_) rfl)
    · obtain ⟨p, hp, rfl⟩ := List.mem_map.mp hd
      have h1 := LO.1 p hp
      exact ⟨_, [4, 5], by simp, fun _ _ _ _ _ => dg_tup rfl (dgs_cons (i := 4) (dgs_cons (i := 5) dgs_nil nd) nd), fun _ _ _ _ _ => de_tup (da_cons (de_ixT (at_nI (r := t.getD p.1 []) (s := x) (by rw [T.cols _ (T.row h1.1)]; exact hs)) (de_ixT (at_tN (by rw [T.rows]; exact h1.1)) (de_var 0 rfl) (de_var 4 rfl)) (de_var 1 rfl))
        (da_cons (de_ixT (at_nI (r := t.getD p.2 []) (s := o) (by rw [T.cols _ (T.row h1.2)]; exact ho)) (de_ixT (at_tN (by rw [T.rows]; exact h1.2)) (de_var 0 rfl) (de_var 5 rfl)) (de_var 2 rfl)) da_nil)) (by show 2 ≤ 100000; decide)⟩
    · rw [List.map_map, List.map_map]; rfl)) (fun _ _ _ _ _ _ us hl => match us, hl with | [_, _, _, _], _ => rfl)
end
end G

/-! M3 -/
set_option Elab.async false
set_option linter.all false
set_option maxRecDepth 100000
set_option maxHeartbeats 1000000
namespace G
open PySem L2
/-! ## 28. Levels -/
/-- what lots may lie behind the states ss (outer first) -/
noncomputable def withinOf (m : Mach) (come : List Nat) : List Nat → List (Option Lot)
  | [] => [none]
  | s :: r => (ddU ((levelOf m come s (withinOf m come r)).map (·.2))).map some
noncomputable def levs (m : Mach) (come : List Nat) : List Nat → List Level
  | [] => []
  | s :: r => levelOf m come s (withinOf m come r) :: levs m come r
theorem levs_len {m : Mach} {come : List Nat} : ∀ {ss : List Nat}, (levs m come ss).length = ss.length
  | [] => rfl
  | s :: r => by rw [levs, List.length_cons, levs_len, List.length_cons]
noncomputable def sufLot (m : Mach) : List Nat → List Nat → Option Lot
  | s :: r, o :: q => some (led (maps3 m) (nextP m.ich s o (sufLot m r q)))
  | _, _ => none
/-- no told-apart pair of the top -/
noncomputable def fitsB (m : Mach) (s o : Nat) (lot : Option Lot) : Bool := !(led (maps2 m) (nextP m.tch s o lot)).any fun p => !decide (ansOf m p.1 = ansOf m p.2)
theorem mem_levelOf {m : Mach} {come : List Nat} {s : Nat} {within : List (Option Lot)} {e : LKey × Lot} : e ∈ levelOf m come s within ↔ e.1.1 ∈ within ∧ e.1.2 ∈ come ∧ e.2 = led (maps3 m) (nextP m.ich s e.1.2 e.1.1) := by
  unfold levelOf
  rw [List.mem_flatMap]
  constructor
  · rintro ⟨lot, h1, h2⟩
    obtain ⟨o, ho, rfl⟩ := List.mem_map.mp h2
    exact ⟨h1, ho, rfl⟩
  · rintro ⟨h1, h2, h3⟩
    refine ⟨e.1.1, h1, List.mem_map.mpr ⟨e.1.2, h2, ?_⟩⟩
    rw [← h3]
theorem levelOf_keys {m : Mach} {come : List Nat} {s : Nat} {within : List (Option Lot)} : (levelOf m come s within).map (·.1) = within.flatMap fun lot => come.map fun o => (lot, o) := by
  unfold levelOf
  rw [List.map_flatMap]
  congr 1
  funext lot
  rw [List.map_map]
  rfl
theorem nodup_flat {α β : Type} {come : List β} (hc : come.Nodup) : ∀ {l : List α}, l.Nodup → (l.flatMap fun a => come.map fun b => (a, b)).Nodup
  | [], _ => .nil
  | a :: l, h => by
    obtain ⟨h1, h2⟩ := List.nodup_cons.mp h
    rw [List.flatMap_cons]
    refine List.nodup_append.mpr ⟨List.Pairwise.map _ (fun x y hxy e => hxy (Prod.mk.inj e).2) hc, nodup_flat hc h2, fun x hx y hy e => ?_⟩
    obtain ⟨b, _, rfl⟩ := List.mem_map.mp hx
    obtain ⟨a', ha', h3⟩ := List.mem_flatMap.mp hy
    obtain ⟨b', _, rfl⟩ := List.mem_map.mp h3
    exact h1 (by rw [(Prod.mk.inj e).1]; exact ha')
theorem levelOf_nodup {m : Mach} {come : List Nat} {s : Nat} {within : List (Option Lot)} (hc : come.Nodup) (hw : within.Nodup) : ((levelOf m come s within).map (·.1)).Nodup := by
  rw [levelOf_keys]
  exact nodup_flat hc hw
theorem mem_withinOf {m : Mach} {come : List Nat} : ∀ {ss : List Nat} {lot : Option Lot}, lot ∈ withinOf m come ss ↔ ∃ q : List Nat, q.length = ss.length ∧ (∀ x ∈ q, x ∈ come) ∧ lot = sufLot m ss q
  | [], lot => by
    constructor
    · intro h
      have : lot = none := by simpa [withinOf] using h
      exact ⟨[], rfl, fun x hx => by simp at hx, this⟩
    · rintro ⟨q, _, _, e⟩
      rw [e]
      simp [withinOf, sufLot]
  | s :: r, lot => by
    unfold withinOf
    rw [List.mem_map]
    constructor
    · rintro ⟨l, hl, rfl⟩
      rw [mem_ddU, List.mem_map] at hl
      obtain ⟨e, he, rfl⟩ := hl
      obtain ⟨h1, h2, h3⟩ := mem_levelOf.mp he
      obtain ⟨q, q1, q2, q3⟩ := mem_withinOf.mp h1
      refine ⟨e.1.2 :: q, by simp [q1], fun x hx => ?_, ?_⟩
      · rcases List.mem_cons.mp hx with rfl | hx
        · exact h2
        · exact q2 x hx
      · rw [h3, sufLot, ← q3]
    · rintro ⟨q, q1, q2, rfl⟩
      cases q with
      | nil => simp at q1
      | cons o q =>
        rw [sufLot]
        refine ⟨_, ?_, rfl⟩
        rw [mem_ddU, List.mem_map]
        refine ⟨((sufLot m r q, o), _), mem_levelOf.mpr ⟨mem_withinOf.mpr ⟨q, by simpa using q1, fun x hx => q2 x (List.mem_cons_of_mem _ hx), rfl⟩, q2 o List.mem_cons_self, rfl⟩, rfl⟩
theorem withinOf_nodup {m : Mach} {come : List Nat} : ∀ {ss : List Nat}, (withinOf m come ss).Nodup
  | [] => by simp [withinOf]
  | s :: r => by
    unfold withinOf
    exact List.Pairwise.map _ (fun x y h e => h (Option.some.inj e)) nodup_ddU
/-- lots are sublists of the grid: there are 512 of them at most -/
theorem sub_bound {α : Type} [DecidableEq α] : ∀ {u : List α} {ls : List (List α)}, ls.Nodup → (∀ l ∈ ls, l.Sublist u) → ls.length ≤ 2 ^ u.length
  | [], ls, nd, h => by
    have : ∀ l ∈ ls, l = [] := fun l hl => List.sublist_nil.mp (h l hl)
    have := nodup_sub (u := [([] : List α)]) nd fun l hl => by rw [this l hl]; simp
    simpa using this
  | a :: u, ls, nd, h => by
    have e : ls.length = (ls.filter fun l => decide (l.Sublist u)).length + (ls.filter fun l => !decide (l.Sublist u)).length := by
      rw [← List.countP_eq_length_filter, ← List.countP_eq_length_filter]
      exact List.length_eq_countP_add_countP (p := fun l : List α => decide (l.Sublist u)) (l := ls) |>.trans (by simp)
    have h1 := sub_bound (u := u) (ls := ls.filter fun l => decide (l.Sublist u)) (nd.filter _) fun l hl => of_decide_eq_true (List.mem_filter.mp hl).2
    have h2 : (ls.filter fun l => !decide (l.Sublist u)).length ≤ 2 ^ u.length := by
      have cons : ∀ l ∈ ls.filter (fun l => !decide (l.Sublist u)), ∃ t, l = a :: t ∧ t.Sublist u := fun l hl => by
        obtain ⟨x, y⟩ := List.mem_filter.mp hl
        have hs := h l x
        cases hs with
        | cons _ hs => simp [hs] at y
        | cons_cons _ hs => exact ⟨_, rfl, hs⟩
      have := sub_bound (u := u) (ls := (ls.filter fun l => !decide (l.Sublist u)).map List.tail) (by
        refine List.pairwise_map.mpr ((nd.filter _).imp_of_mem fun {x y} hx hy hne e => hne ?_)
        obtain ⟨t, rfl, _⟩ := cons x hx
        obtain ⟨t', rfl, _⟩ := cons y hy
        have e : t = t' := e
        rw [e]) fun l hl => by
        obtain ⟨x, hx, rfl⟩ := List.mem_map.mp hl
        obtain ⟨t, rfl, ht⟩ := cons x hx
        exact ht
      rwa [List.length_map] at this
    rw [List.length_cons, Nat.pow_succ]
    omega
theorem led_sub {maps : List (List Nat)} {pairs : Lot} : (led maps pairs).Sublist grid := by unfold led; exact List.filter_sublist
theorem withinOf_len {m : Mach} {come : List Nat} : ∀ {ss : List Nat}, (withinOf m come ss).length ≤ 512
  | [] => by simp [withinOf]
  | s :: r => by
    unfold withinOf
    rw [List.length_map]
    have := sub_bound (u := grid) (ls := ddU ((levelOf m come s (withinOf m come r)).map (·.2))) nodup_ddU fun l hl => by
      rw [mem_ddU, List.mem_map] at hl
      obtain ⟨e, he, rfl⟩ := hl
      rw [(mem_levelOf.mp he).2.2]
      exact led_sub
    exact Nat.le_trans this (by decide)
theorem levelOf_len {m : Mach} {come : List Nat} {s : Nat} {within : List (Option Lot)} : (levelOf m come s within).length = within.length * come.length := by
  unfold levelOf
  induction within with
  | nil => simp
  | cons l w ih => rw [List.flatMap_cons, List.length_append, ih, List.length_map, List.length_cons, Nat.add_mul, Nat.one_mul, Nat.add_comm]
/-- the lots are of pairs of inner states -/
theorem withinOf_ok {m : Mach} (O : m.Ok) {come : List Nat} (hc : ∀ o ∈ come, o < m.im) : ∀ {ss : List Nat}, (∀ s ∈ ss, s < m.im) → ∀ lot ∈ withinOf m come ss, OLotOk m.im lot
  | [], _, lot, h => by
    have : lot = none := by simpa [withinOf] using h
    rw [this]; trivial
  | s :: r, hs, lot, h => by
    unfold withinOf at h
    obtain ⟨l, hl, rfl⟩ := List.mem_map.mp h
    rw [mem_ddU, List.mem_map] at hl
    obtain ⟨e, he, rfl⟩ := hl
    obtain ⟨h1, h2, h3⟩ := mem_levelOf.mp he
    rw [h3]
    exact led_ok (maps3_ok O) (nextP_lt O.ich (hs s List.mem_cons_self) (hc _ h2) (withinOf_ok O hc (fun x hx => hs x (List.mem_cons_of_mem _ hx)) _ h1) (Nat.le_refl _))
end G

/-! Q8 -/
set_option Elab.async false
set_option linter.all false
set_option maxRecDepth 100000
set_option maxHeartbeats 1000000
namespace G
open PySem L2
section
variable {X : Cx} {ρ : Rho} {ω ω1 ω2 ω3 ω4 ω5 : Om} {a b c dd ee : Expr} {x y y2 y3 y4 z : D} {pos p : Pos}
theorem ca5 {n : Str} {j k : Nat} {R : List D → D → Prop} (C : Callee X.prog X.w X.K X.mg X.base j n 5 R) (hr : Room k X.A) (hj : j ≤ k) (ha : DE X ρ ω ω1 a x) (hb : DE X ρ ω1 ω2 b y) (hc : DE X ρ ω2 ω3 c y2) (hd : DE X ρ ω3 ω4 dd y3) (he0 : DE X ρ ω4 ω5 ee y4) (hR : R [x, y, y2, y3, y4] z) (hg : Gl X n := by exact rfl)
    (hdb : (n == ("__debug__" : Str)) = false := by decide) (he : starEach [a, b, c, dd, ee] X.env = (false, eval a X.env) :: starEach [b, c, dd, ee] X.env := by rfl) (he2 : starEach [b, c, dd, ee] X.env = (false, eval b X.env) :: starEach [c, dd, ee] X.env := by rfl) (he3 : starEach [c, dd, ee] X.env = (false, eval c X.env) :: starEach [dd, ee] X.env := by rfl)
    (he4 : starEach [dd, ee] X.env = (false, eval dd X.env) :: starEach [ee] X.env := by rfl) (he5 : starEach [ee] X.env = (false, eval ee X.env) :: starEach [] X.env := by rfl) (hpl : (backTo pos (starEach [b, c, dd, ee] X.env)).any (·.1) = false := by rfl) : DE X ρ ω ω5 (.Call (.Name n p) [a, b, c, dd, ee] [] pos) z := de_call C (hr.mono hj) hg hR (da_cons ha (da_cons hb (da_cons hc (da_cons hd (da_1 he0 he5) he4) he3) he2) he) rfl hdb he hpl
end
theorem lt16 {n : Nat} (h : n + 65 < cLine) : n + 16 < cLine := by omega
/-- the inner states that can be come to, ascending -/
def come (m : Mach) : List Nat := (List.range m.im).filter fun x => decide (x ∈ innCome m)
theorem mem_come {m : Mach} (O : m.Ok) {x : Nat} : x ∈ come m ↔ InnR m x := by
  unfold come
  rw [List.mem_filter, decide_eq_true_iff, List.mem_range, mem_innCome O]
  exact ⟨fun h => h.2, fun h => ⟨h.lt O, h⟩⟩
theorem range_asc (n : Nat) : (List.range n).Pairwise fun a b => (a : Nat) < b := List.pairwise_lt_range
theorem come_asc {m : Mach} : (come m).Pairwise fun a b => (a : Nat) < b := List.Pairwise.sublist List.filter_sublist (range_asc _)
theorem come_nd {m : Mach} : (come m).Nodup := come_asc.imp fun h e => by omega
theorem come_lt {m : Mach} (O : m.Ok) : ∀ o ∈ come m, o < m.im := fun o h => ((mem_come O).mp h).lt O
theorem come_len {m : Mach} (O : m.Ok) : (come m).length ≤ m.im := nodup_below come_nd (come_lt O)
theorem perm_of_asc {l l' : List Nat} (h : l.Nodup) (h' : l'.Nodup) (hm : ∀ x, x ∈ l ↔ x ∈ l') : (l.map fun (n : Nat) => (n : Int)).Perm (l'.map fun (n : Nat) => (n : Int)) := ((List.perm_ext_iff_of_nodup h h').mpr hm).map _
theorem asc_int {l : List Nat} (h : l.Pairwise fun a b => (a : Nat) < b) : (l.map fun (n : Nat) => (n : Int)).Pairwise (· ≤ ·) := List.pairwise_map.mpr (h.imp fun h => by omega)
theorem come_perm {m : Mach} (O : m.Ok) : ((come m).map fun (n : Nat) => (n : Int)).Perm ((innCome m).map fun (n : Nat) => (n : Int)) := perm_of_asc come_nd (innCome_nd O) fun x => by rw [mem_come O, mem_innCome O]
theorem map_nI_int (l : List Nat) : l.map nI = (l.map fun (n : Nat) => (n : Int)).map D.int := by rw [List.map_map]; rfl
/-- what a level gives for a key -/
def valD (L : Level) (d : D) : D := ((L.find? fun e => decide (nk (keyD e.1) = nk d)).map fun e => lotD (some e.2)).getD .non
theorem valD_mem {L : Level} : (L.map (·.1)).Nodup → ∀ {e : LKey × Lot}, e ∈ L → valD L (keyD e.1) = lotD (some e.2) := by
  induction L with
  | nil => intro _ e h; simp at h
  | cons a L ih =>
    intro nd e h
    rw [List.map_cons] at nd
    obtain ⟨n1, n2⟩ := List.nodup_cons.mp nd
    unfold valD
    rw [List.find?_cons]
    rcases List.mem_cons.mp h with rfl | h
    · rw [decide_eq_true rfl]; rfl
    · have ne : ¬ nk (keyD a.1) = nk (keyD e.1) := fun q => n1 (by rw [encKey.inj _ _ q]; exact List.mem_map.mpr ⟨e, h, rfl⟩)
      rw [decide_eq_false ne]
      exact ih n2 h
theorem level_nk {L : Level} (nd : (L.map (·.1)).Nodup) : ((L.map fun e => keyD e.1).map nk).Nodup := by
  rw [List.map_map]
  have e : L.map (nk ∘ fun e => keyD e.1) = (L.map (·.1)).map fun k => nk (keyD k) := by rw [List.map_map]; rfl
  rw [e]
  exact List.Pairwise.map _ (fun x y h q => h (encKey.inj _ _ q)) nd
theorem level_ix {L : Level} {e : LKey × Lot} (h : e ∈ L) : ∃ i : Nat, (L.map fun e => keyD e.1)[i]? = some (keyD e.1) ∧ (L.map fun e => lotD (some e.2))[i]? = some (lotD (some e.2)) := by
  obtain ⟨i, hi⟩ := List.mem_iff_getElem?.mp h
  exact ⟨i, by rw [List.getElem?_map, hi]; rfl, by rw [List.getElem?_map, hi]; rfl⟩
theorem encL1 : Enc (fun l : Lot => lotD (some l)) := ⟨fun l => encL.ok _, fun a b h => Option.some.inj (encL.inj _ _ h)⟩
theorem level_vals {L : Level} (nd : (L.map (·.1)).Nodup) : ddK ((L.map fun e => keyD e.1).map (valD L)) = ((ddU (L.map (·.2))).map some).map lotD := by
  have e : (L.map fun e => keyD e.1).map (valD L) = (L.map (·.2)).map fun l => lotD (some l) := by
    rw [List.map_map, List.map_map]
    exact List.map_congr_left fun e he => valD_mem nd he
  rw [e, ddK_enc encL1, List.map_map]
  rfl
section
variable {P : Program} {w : World} {K : PySem.W.Frag} {mg : Str → Option Value} {base : Heap} {f : Addr} {fd : FuncData}
def R_level_lots (ds : List D) (z : D) : Prop := ∃ (m : Mach) (cm : List Nat) (s : Nat) (within : List (Option Lot)), m.Ok ∧ (∀ o ∈ cm, o < m.im) ∧ cm.Nodup ∧ cm.length ≤ 100 ∧ s < m.im ∧ within.Nodup ∧ within.length ≤ 512 ∧ (∀ l ∈ within, OLotOk m.im l) ∧
  ds = [machD m, .lst ((maps3 m).map tN), .lst (cm.map nI), nI s, .tup (within.map lotD)] ∧ z = levelD (levelOf m cm s within)
def R_all_lots (ds : List D) (z : D) : Prop := ∃ (m : Mach) (t : Nat) (ss : List Nat), m.Ok ∧ (∀ s ∈ ss, s < m.im) ∧ ss.length ≤ 99 ∧ ds = [machD m, tN (t :: ss)] ∧ z = .lst ((levs m (come m) ss).reverse.map levelD)
theorem c_level_lots (C1 : Callee P w K mg base 1 "closed_pairs_of" 4 R_closed_pairs_of) (C2 : Callee P w K mg base 1 "led_lots" 2 R_led_lots) (F : FnP K "level_lots" 41 f fd) (g : mg "level_lots" = some (.ref f)) : Callee P w K mg base 2 "level_lots" 5 R_level_lots :=
  callee (ps := ["machine", "maps", "come", "state", "within"]) F g (fn_pure (k := 1) (N := ["machine", "maps", "come", "state", "within", "found", "lot", "other", "pairs"]) F ⟨rfl, rfl, rfl, by decide +kernel, rfl, by decide +kernel, by decide +kernel⟩ (by
    rintro cdv A outer s H E ds z hr hl ⟨M, cm, x, within, O, hc, hcn, hcl, hx, hwn, hwl, hwo, rfl, rfl⟩
    have nd : (["machine", "maps", "come", "state", "within", "found", "lot", "other", "pairs"] : List Str).Nodup := by decide +kernel
    have hu := room65 hr
    have i2 := O.im2
    have nodAll := levelOf_nodup (m := M) (s := x) hcn hwn
    refine db_cons (ds_setO (i := 5) do_dict0 ?_ (by show 5 < 9; decide) nd)
    refine db_cons (ds_for (di_tup (de_var 4 rfl)) (fun i ρ ω => ∃ (a b c : Option D), ρ = [some (machD M), some (.lst ((maps3 M).map tN)), some (.lst (cm.map nI)), some (nI x), some (.tup (within.map lotD)), none, a, b, c] ∧ ω = [(5, .dct ((levelOf M cm x (within.take i)).map fun e => keyD e.1) ((levelOf M cm x (within.take i)).map fun e => lotD (some e.2)))])
      ⟨none, none, none, rfl, rfl⟩ ?_ ?_ rfl PySem.PassesOwn.never)
    · rintro i d ρ ω hd ⟨a, b, c, rfl, rfl⟩
      rw [List.getElem?_map] at hd
      cases hlot : within[i]? with
      | none => rw [hlot] at hd; cases hd
      | some lot =>
        rw [hlot] at hd
        cases hd
        have hlm : lot ∈ within := List.mem_of_getElem? hlot
        have eW : within = within.take i ++ lot :: within.drop (i + 1) := by
          have h1 := (List.getElem?_eq_some_iff.mp hlot).1
          have h2 := (List.getElem?_eq_some_iff.mp hlot).2
          rw [← h2, ← List.drop_eq_getElem_cons h1, List.take_append_drop]
        refine ⟨_, [6], dg_name 6 nd, ?_⟩
        obtain ⟨L0, hL0⟩ : ∃ L, levelOf M cm x (within.take i) = L := ⟨_, rfl⟩
        rw [hL0]
        have lL0 : L0.length ≤ 512 * 100 := by
          rw [← hL0, levelOf_len, List.length_take]
          exact Nat.mul_le_mul (by omega) hcl
        let ent1 : Nat → LKey × Lot := fun o => ((lot, o), led (maps3 M) (nextP M.ich x o lot))
        refine db_one (ds_for (di_list (de_var 2 rfl)) (fun j ρ ω => ∃ (b c : Option D), ρ = [some (machD M), some (.lst ((maps3 M).map tN)), some (.lst (cm.map nI)), some (nI x), some (.tup (within.map lotD)), none, some (lotD lot), b, c] ∧ ω = [(5, .dct ((L0 ++ (cm.take j).map ent1).map fun e => keyD e.1) ((L0 ++ (cm.take j).map ent1).map fun e => lotD (some e.2)))])
          ⟨b, c, rfl, by rw [List.take_zero, List.map_nil, List.append_nil]⟩ ?_ ?_ rfl PySem.PassesOwn.never)
        · rintro j d ρ ω hd ⟨b, c, rfl, rfl⟩
          rw [List.getElem?_map] at hd
          cases ho : cm[j]? with
          | none => rw [ho] at hd; cases hd
          | some o =>
            rw [ho] at hd
            cases hd
            have hom : o ∈ cm := List.mem_of_getElem? ho
            refine ⟨_, [7], dg_name 7 nd, ?_⟩
            have hol := hc o hom
            refine db_cons (ds_set (i := 8) (ω1 := [(5, Own.dct ((L0 ++ (cm.take j).map ent1).map fun e => keyD e.1) ((L0 ++ (cm.take j).map ent1).map fun e => lotD (some e.2)))]) (d := .lst ((nextP M.ich x o lot).map pD)) ?_ ?_ nd)
            · cases lot with
              | none =>
                refine de_if (k := true) (ω1 := [(5, Own.dct ((L0 ++ (cm.take j).map ent1).map fun e => keyD e.1) ((L0 ++ (cm.take j).map ent1).map fun e => lotD (some e.2)))]) ?_ (fun _ => ?_) (fun h => nomatch h)
                · exact EvT.is (dt_isN (de_var 6 rfl) de_non) rfl
                · exact de_lst (da_1 (de_tup (da_cons (de_var 3 rfl) (da_cons (de_var 7 rfl) da_nil)) (by show 2 ≤ 100000; decide))) (by show 1 ≤ 100000; decide)
              | some l =>
                refine de_if (k := false) (ω1 := [(5, Own.dct ((L0 ++ (cm.take j).map ent1).map fun e => keyD e.1) ((L0 ++ (cm.take j).map ent1).map fun e => lotD (some e.2)))]) ?_ (fun h => nomatch h) (fun _ => ?_)
                · exact EvT.is (dt_isN (de_var 6 rfl) de_non) rfl
                · exact ca4 C1 hr (by decide) (de_ixT (atN (j := 3) rfl) (de_ixT (atN (j := 3) rfl) (de_var 0 rfl) de_int) de_int) (de_var 3 rfl) (de_var 7 rfl) (de_var 6 rfl) ⟨M.ich, M.im, M.im, M.im, x, o, l, O.ich, hx, hol, hwo _ hlm, rfl, rfl⟩
            refine db_one (ds_put 5 (lt16 hu) List.mem_cons_self (ca2 C2 hr (by decide) (de_var 1 rfl) (de_var 8 rfl) ⟨maps3 M, nextP M.ich x o lot, M.im, maps3_ok O, ⟨nextP_lt O.ich hx hol (hwo _ hlm) (Nat.le_refl _), nextP_len (hwo _ hlm)⟩, rfl, rfl⟩)
              (k := keyD (lot, o)) (de_tup (da_cons (de_var 6 rfl) (da_cons (de_var 7 rfl) da_nil)) (by show 2 ≤ 100000; decide)) (fun d hd => ?_) (keyD_kOk _) rfl ?_ ?_ ?_)
            · obtain ⟨e, _, rfl⟩ := List.mem_map.mp hd
              exact keyD_kOk _
            · intro hmem
              rw [List.map_map] at hmem
              obtain ⟨e, he, q⟩ := List.mem_map.mp hmem
              have q' : e.1 = (lot, o) := encKey.inj _ _ q
              have eC : cm = cm.take j ++ o :: cm.drop (j + 1) := by
                have h1 := (List.getElem?_eq_some_iff.mp ho).1
                have h2 := (List.getElem?_eq_some_iff.mp ho).2
                rw [← h2, ← List.drop_eq_getElem_cons h1, List.take_append_drop]
              have full : levelOf M cm x within = (L0 ++ (cm.take j).map ent1) ++ (ent1 o :: ((cm.drop (j + 1)).map ent1 ++ levelOf M cm x (within.drop (i + 1)))) := by
                have e1 : levelOf M cm x within = L0 ++ (cm.map ent1 ++ levelOf M cm x (within.drop (i + 1))) := by
                  rw [← hL0]
                  conv => lhs; rw [eW]
                  unfold levelOf
                  rw [List.flatMap_append, List.flatMap_cons]
                rw [e1]
                have e2 : cm.map ent1 = (cm.take j).map ent1 ++ ent1 o :: (cm.drop (j + 1)).map ent1 := by
                  conv => lhs; rw [eC]
                  rw [List.map_append, List.map_cons]
                rw [e2]
                simp only [List.append_assoc, List.cons_append]
              rw [full, List.map_append, List.map_cons] at nodAll
              obtain ⟨_, _, h3⟩ := List.nodup_append.mp nodAll
              exact h3 (lot, o) (List.mem_map.mpr ⟨e, he, q'⟩) (lot, o) List.mem_cons_self rfl
            · rw [List.length_map, List.length_append, List.length_map, List.length_take]; omega
            · refine ⟨_, _, rfl, ?_⟩
              rw [take_next ho, show L0 ++ (cm.take j ++ [o]).map ent1 = (L0 ++ (cm.take j).map ent1) ++ [ent1 o] by rw [List.map_append, ← List.append_assoc]; rfl]
              generalize L0 ++ (cm.take j).map ent1 = LL
              rw [List.map_append, List.map_append]
              rfl
        · rintro ρ ω ⟨b, c, rfl, rfl⟩
          refine ⟨_, _, _, rfl, ?_⟩
          have e1 : levelOf M cm x (within.take (i + 1)) = L0 ++ cm.map ent1 := by
            rw [take_next hlot, ← hL0]
            unfold levelOf
            rw [List.flatMap_append, List.flatMap_cons, List.flatMap_nil, List.append_nil]
          rw [e1, List.length_map, List.take_length]
    · rintro ρ ω ⟨a, b, c, rfl, rfl⟩
      rw [List.length_map, List.take_length]
      exact db_one (ds_retD 5 List.mem_cons_self rfl))) (fun _ _ _ _ _ _ us hl => match us, hl with | [_, _, _, _, _], _ => rfl)
theorem c_all_lots (m : MG mg) (C1 : Callee P w K mg base 2 "step_maps" 2 R_step_maps) (C2 : Callee P w K mg base 1 "inner_come" 1 R_inner_come) (C3 : Callee P w K mg base 2 "level_lots" 5 R_level_lots) (F : FnP K "all_lots" 42 f fd) (g : mg "all_lots" = some (.ref f)) : Callee P w K mg base 3 "all_lots" 2 R_all_lots :=
  callee (ps := ["machine", "stack"]) F g (fn_pure (k := 2) (N := ["machine", "stack", "maps", "come", "found", "within", "state", "here", "key"]) F ⟨rfl, rfl, rfl, by decide +kernel, rfl, by decide +kernel, by decide +kernel⟩ (by
    rintro cdv A outer s H E ds z hr hl ⟨M, t, ss, O, hs, hsl, rfl, rfl⟩
    have nd : (["machine", "stack", "maps", "come", "found", "within", "state", "here", "key"] : List Str).Nodup := by decide +kernel
    have hu := room65 hr
    have i2 := O.im2
    have lc := come_len O
    refine db_cons (ds_par (i1 := 2) (i2 := 3) rfl (ca2 C1 hr (by decide) (de_var 0 rfl) de_int ⟨M, O, .inl ⟨rfl, rfl⟩⟩) (EvP.is (srtI (ns := (innCome M).map fun (n : Nat) => (n : Int)) (ms := (come M).map fun (n : Nat) => (n : Int)) m (EvP.is (ca1 C2 hr (by decide) (de_var 0 rfl) ⟨M, O, rfl, rfl⟩) (congrArg D.lst (map_nI_int _))) (come_perm O) (asc_int come_asc)) (congrArg D.lst (map_nI_int _).symm)) ?_ (by decide) nd)
    refine db_cons (ds_parO (i1 := 4) (i2 := 5) rfl (do_lst da_nil (by show 0 ≤ 100000; decide)) (de_tup (da_1 de_non) (by show 1 ≤ 100000; decide)) ?_ (by show 4 < 9; decide) (by decide) nd)
    refine db_cons (ds_for (di_tup (de_down (de_var 1 rfl))) (fun i ρ ω => ∃ (a b : Option D), ρ = [some (machD M), some (tN (t :: ss)), some (.lst ((maps3 M).map tN)), some (.lst ((come M).map nI)), none, some (.tup ((withinOf M (come M) (ss.drop (ss.length - i))).map lotD)), a, b, none] ∧ ω = [(4, .lst ((levs M (come M) (ss.drop (ss.length - i))).reverse.map levelD))])
      ⟨none, none, ?_, ?_⟩ ?_ ?_ rfl PySem.PassesOwn.never)
    · show _ = _
      rw [Nat.sub_zero, List.drop_length]; rfl
    · rw [Nat.sub_zero, List.drop_length]; rfl
    · rintro i d ρ ω hd ⟨a, b, rfl, rfl⟩
      have hd : ((ss.map nI).reverse)[i]? = some d := hd
      have hil : i < ss.length := by
        have := (List.getElem?_eq_some_iff.mp hd).1
        simpa using this
      rw [List.getElem?_reverse (by rw [List.length_map]; exact hil), List.length_map, List.getElem?_map] at hd
      obtain ⟨x, hx⟩ : ∃ x, ss[ss.length - 1 - i]? = some x := ⟨_, List.getElem?_eq_getElem (by omega)⟩
      rw [hx] at hd
      cases hd
      have eD : ss.drop (ss.length - (i + 1)) = x :: ss.drop (ss.length - i) := by
        have h1 := (List.getElem?_eq_some_iff.mp hx).1
        have h2 := (List.getElem?_eq_some_iff.mp hx).2
        rw [show ss.length - (i + 1) = ss.length - 1 - i by omega, List.drop_eq_getElem_cons h1, h2, show ss.length - 1 - i + 1 = ss.length - i by omega]
      obtain ⟨r, hr0⟩ : ∃ r, ss.drop (ss.length - i) = r := ⟨_, rfl⟩
      rw [hr0] at eD ⊢
      have hrs : ∀ y ∈ r, y < M.im := fun y hy => hs y (by rw [← hr0] at hy; exact List.mem_of_mem_drop hy)
      have hwn := withinOf_nodup (m := M) (come := come M) (ss := r)
      have hwo := withinOf_ok O (come_lt O) hrs
      have ndk := levelOf_nodup (m := M) (s := x) (come := come M) come_nd hwn
      obtain ⟨L, hL⟩ : ∃ L, levelOf M (come M) x (withinOf M (come M) r) = L := ⟨_, rfl⟩
      rw [hL] at ndk
      have lL : L.length ≤ 512 * 2 := by
        rw [← hL, levelOf_len]
        exact Nat.mul_le_mul withinOf_len (by omega)
      refine ⟨_, [6], dg_name 6 nd, ?_⟩
      refine db_cons (ds_set (i := 7) (ca5 C3 hr (by decide) (de_var 0 rfl) (de_var 2 rfl) (de_var 3 rfl) (de_var 6 rfl) (de_var 5 rfl) ⟨M, come M, x, withinOf M (come M) r, O, come_lt O, come_nd, by omega, hs x (List.mem_of_getElem? hx), hwn, withinOf_len, hwo, rfl, by rw [hL]⟩) ?_ nd)
      refine db_cons (ds_append 4 List.mem_cons_self (de_var 7 rfl) ?_ ?_)
      · rw [List.length_map, List.length_reverse, levs_len, ← hr0, List.length_drop]; omega
      refine db_one (ds_set (i := 5) (EvP.is (tupL m (lstK m (do_dc (own := [("key", 8)]) (f := valD L) rfl (lt16 hu) nd (di_keysT (de_var 7 rfl)) (blkOk_by (by show blkC ["machine", "stack", "maps", "come", "found", "within", "state", "here", "key"] (defScope (top 42)) _ _ = true; decide +kernel)) (by simp [oset]) (by rw [List.length_map]; omega) (fun d hd => ?_) (fun d hd => ?_)).dataD).data) (congrArg D.tup (level_vals ndk))) ?_ nd (hω := by simp [oset]))
      · obtain ⟨e, he, rfl⟩ := List.mem_map.mp hd
        rw [valD_mem ndk he]
        exact lotD_kOk _
      · obtain ⟨e, he, rfl⟩ := List.mem_map.mp hd
        refine ⟨_, [8], by simp, fun _ _ _ _ _ => dg_name 8 nd (hω := by simp [oset]), fun _ _ _ _ _ => EvP.is (de_ixD (lt16 hu) (level_nk ndk) (fun d hd => ?_) rfl (level_ix he) (de_var 7 rfl) (de_var 8 rfl)) (valD_mem ndk he).symm⟩
        obtain ⟨e', _, rfl⟩ := List.mem_map.mp hd
        exact keyD_kOk _
      refine ⟨some (nI x), some (levelD L), ?_, ?_⟩
      · rw [eD, withinOf, hL]; rfl
      · rw [eD, levs, List.reverse_cons, List.map_append, hL]; rfl
    · rintro ρ ω ⟨a, b, rfl, rfl⟩
      have el : (((t :: ss).map nI).drop 1).reverse.length = ss.length := by simp
      rw [el, Nat.sub_self, List.drop_zero]
      exact db_one (ds_retOwn 4 List.mem_cons_self rfl))) (fun _ _ _ _ _ _ us hl => match us, hl with | [_, _], _ => rfl)
end
end G

/-! Q9 -/
set_option Elab.async false
set_option linter.all false
set_option maxRecDepth 100000
set_option maxHeartbeats 1000000
namespace G
open PySem L2
section
variable {X : Cx} {ρ : Rho} {ω ω1 : Om} {elt tg it : Expr} {scope : Scope} {own : List (Str × Nat)} {pos : Pos} {xs : List D}
theorem ev_map {f : D → D} (hi : DI X ρ ω ω1 tg it xs) (hω : ∀ p ∈ ω1, p.1 ∉ own.map (·.2)) (hz : xs.length ≤ 100000) (hs : ∀ d, d ∈ xs → ∃ ρ' js, (∀ j ∈ js, j ∈ own.map (·.2)) ∧ Blk X scope (fun Y => DG Y tg d (wipeR ρ (own.map (·.2))) ρ' ω1 js) ∧ Blk X scope (fun Y => DE Y ρ' ω1 ω1 elt (f d))) :
    EvO X.w (tLc (semI X tg it) (blkG X scope tg) (blkTs X scope []) (blkE X scope elt) (own.map (·.2))) ρ ω ω1 (.lst (xs.map f)) := by
  have e := ev_filter (X := X) (scope := scope) (elt := elt) (q := fun _ => true) (f := f) (ifs := []) hi hω hz (fun d hd => by
    obtain ⟨ρ', js, h1, h2, h3⟩ := hs d hd
    exact ⟨ρ', js, h1, h2, fun _ _ _ _ _ => dts_nil, fun _ => h3⟩)
  rw [filter_true] at e
  exact e
end
/-- the tops that can be come to, ascending -/
def topsOf (m : Mach) : List Nat := (List.range m.tm).filter fun x => decide (x ∈ topCome m (innCome m))
theorem mem_topsOf {m : Mach} (O : m.Ok) {x : Nat} : x ∈ topsOf m ↔ TopR m x := by
  unfold topsOf
  rw [List.mem_filter, decide_eq_true_iff, List.mem_range, mem_topCome O fun o => mem_innCome O]
  exact ⟨fun h => h.2, fun h => ⟨h.lt O, h⟩⟩
theorem topsOf_asc {m : Mach} : (topsOf m).Pairwise fun a b => (a : Nat) < b := List.Pairwise.sublist List.filter_sublist (range_asc _)
theorem topsOf_nd {m : Mach} : (topsOf m).Nodup := topsOf_asc.imp fun h e => by omega
theorem topsOf_lt {m : Mach} (O : m.Ok) : ∀ o ∈ topsOf m, o < m.tm := fun o h => ((mem_topsOf O).mp h).lt O
theorem topsOf_len {m : Mach} (O : m.Ok) : (topsOf m).length ≤ m.tm := nodup_below topsOf_nd (topsOf_lt O)
theorem topCome_nd {m : Mach} {inn : List Nat} (O : m.Ok) (hi : ∀ o ∈ inn, InnR m o) : (topCome m inn).Nodup := (topCome_ok O hi).1.nd
theorem topsOf_perm {m : Mach} (O : m.Ok) : ((topsOf m).map fun (n : Nat) => (n : Int)).Perm ((topCome m (innCome m)).map fun (n : Nat) => (n : Int)) := perm_of_asc topsOf_nd (topCome_nd O fun o h => (mem_innCome O).mp h) fun x => by rw [mem_topsOf O, mem_topCome O fun o => mem_innCome O]
theorem filter_head {p : Nat → Bool} {t : Nat} : ∀ {l : List Nat}, (l.Pairwise fun a b => (a : Nat) < b) → t ∈ l → p t = true → (∀ t' ∈ l, p t' = true → t ≤ t') → (l.filter p)[0]? = some t
  | [], _, h, _, _ => by simp at h
  | a :: l, hp, h, ht, hm => by
    obtain ⟨h1, h2⟩ := List.pairwise_cons.mp hp
    rcases List.mem_cons.mp h with rfl | h
    · rw [List.filter_cons_of_pos ht]; rfl
    · have hlt := h1 t h
      have : ¬ p a = true := fun q => by have := hm a List.mem_cons_self q; omega
      rw [List.filter_cons_of_neg this]
      exact filter_head h2 h ht fun t' ht' => hm t' (List.mem_cons_of_mem _ ht')
/-- the entries whose lot is wanted -/
def hits (L : Level) (W : List (Option Lot)) : Level := L.filter fun e => decide (some e.2 ∈ W)
section
variable {P : Program} {w : World} {K : PySem.W.Frag} {mg : Str → Option Value} {base : Heap} {f : Addr} {fd : FuncData}
def R_fitting_lots (ds : List D) (z : D) : Prop := ∃ (m : Mach) (s o : Nat) (lots : List (Option Lot)), m.Ok ∧ s < m.tm ∧ o < m.tm ∧ (∀ l ∈ lots, OLotOk m.im l) ∧ lots.length ≤ 512 ∧ ds = [machD m, .lst ((maps2 m).map tN), nI s, nI o, .lst (lots.map lotD)] ∧ z = .lst ((lots.filter (fitsB m s o)).map lotD)
def R_least_top (ds : List D) (z : D) : Prop := ∃ (m : Mach) (s t : Nat) (lots : List (Option Lot)), m.Ok ∧ s < m.tm ∧ (∀ l ∈ lots, OLotOk m.im l) ∧ lots.length ≤ 512 ∧ t ∈ topsOf m ∧ lots.filter (fitsB m s t) ≠ [] ∧ (∀ t' ∈ topsOf m, lots.filter (fitsB m s t') ≠ [] → t ≤ t') ∧
  ds = [machD m, nI s, .lst (lots.map lotD)] ∧ z = .tup [nI t, .lst ((lots.filter (fitsB m s t)).map lotD)]
def R_least_inner (ds : List D) (z : D) : Prop := ∃ (L : Level) (W : List (Option Lot)) (a : Nat), (L.map (·.1)).Nodup ∧ L.length ≤ 2000 ∧ W.length ≤ 2000 ∧ (∃ e ∈ hits L W, e.1.2 = a) ∧ (∀ e ∈ hits L W, a ≤ e.1.2) ∧ ds = [levelD L, .lst (W.map lotD)] ∧
  z = .tup [nI a, .lst (((hits L W).filter fun e => decide (e.1.2 = a)).map fun e => lotD e.1.1)]
/-- a stack that can be come to -/
structure Come (m : Mach) (S : List Nat) : Prop where
  ne : S ≠ []
  hd : TopR m (app S 0)
  tl : ∀ x ∈ S.drop 1, InnR m x
  len : S.length ≤ 50
theorem Come.ok {m : Mach} (O : m.Ok) {S : List Nat} (h : Come m S) : StackOk m S := ⟨h.ne, h.hd.lt O, fun x hx => (h.tl x hx).lt O, by have := h.len; omega⟩
def R_need_come (ds : List D) (z : D) : Prop := ∃ (m : Mach) (S : List Nat), m.Ok ∧ Come m S ∧ (ds = [machD m, tN S] ∨ ds = [machD m, .lst (S.map nI)]) ∧ z = tN S
theorem c_fitting_lots (m : MG mg) (C1 : Callee P w K mg base 1 "closed_pairs_of" 4 R_closed_pairs_of) (C2 : Callee P w K mg base 1 "led_lots" 2 R_led_lots) (C3 : Callee P w K mg base 1 "is_parted" 2 R_is_parted) (F : FnP K "fitting_lots" 43 f fd) (g : mg "fitting_lots" = some (.ref f)) : Callee P w K mg base 2 "fitting_lots" 5 R_fitting_lots :=
  callee (ps := ["machine", "tops", "state", "other", "lots"]) F g (fn_pure (k := 1) (N := ["machine", "tops", "state", "other", "lots", "found", "lot", "pairs", "pair"]) F ⟨rfl, rfl, rfl, by decide +kernel, rfl, by decide +kernel, by decide +kernel⟩ (by
    rintro cdv A outer s H E ds z hr hl ⟨M, x, o, lots, O, hx, ho, hlo, hll, rfl, rfl⟩
    have nd : (["machine", "tops", "state", "other", "lots", "found", "lot", "pairs", "pair"] : List Str).Nodup := by decide +kernel
    refine db_cons (ds_setO (i := 5) (do_lst da_nil (by show 0 ≤ 100000; decide)) ?_ (by show 5 < 9; decide) nd)
    refine db_cons (ds_for (di_list (de_var 4 rfl)) (fun i ρ ω => ∃ (a b : Option D), ρ = [some (machD M), some (.lst ((maps2 M).map tN)), some (nI x), some (nI o), some (.lst (lots.map lotD)), none, a, b, none] ∧ ω = [(5, Own.lst ((((lots.take i).filter (fitsB M x o)).map lotD)))]) ⟨none, none, rfl, rfl⟩ ?_ ?_ rfl PySem.PassesOwn.never)
    · rintro i d ρ ω hd ⟨a, b, rfl, rfl⟩
      rw [List.getElem?_map] at hd
      cases hlot : lots[i]? with
      | none => rw [hlot] at hd; cases hd
      | some lot =>
        rw [hlot] at hd
        cases hd
        have hlm : lot ∈ lots := List.mem_of_getElem? hlot
        refine ⟨_, [6], dg_name 6 nd, ?_⟩
        refine db_cons (ds_set (i := 7) (ω1 := [(5, Own.lst ((((lots.take i).filter (fitsB M x o)).map lotD)))]) (d := .lst ((nextP M.tch x o lot).map pD)) ?_ ?_ nd)
        · cases lot with
          | none =>
            refine de_if (k := true) (ω1 := [(5, Own.lst ((((lots.take i).filter (fitsB M x o)).map lotD)))]) ?_ (fun _ => ?_) (fun h => nomatch h)
            · exact EvT.is (dt_isN (de_var 6 rfl) de_non) rfl
            · exact de_lst (da_1 (de_tup (da_cons (de_var 2 rfl) (da_cons (de_var 3 rfl) da_nil)) (by show 2 ≤ 100000; decide))) (by show 1 ≤ 100000; decide)
          | some l =>
            refine de_if (k := false) (ω1 := [(5, Own.lst ((((lots.take i).filter (fitsB M x o)).map lotD)))]) ?_ (fun h => nomatch h) (fun _ => ?_)
            · exact EvT.is (dt_isN (de_var 6 rfl) de_non) rfl
            · exact ca4 C1 hr (by decide) (de_ixT (atN (j := 3) rfl) (de_ixT (atN (j := 2) rfl) (de_var 0 rfl) de_int) de_int) (de_var 2 rfl) (de_var 3 rfl) (de_var 6 rfl) ⟨M.tch, M.im, M.tm, M.tm, x, o, l, O.tch, hx, ho, hlo _ hlm, rfl, rfl⟩
        have npl := nextP_lt O.tch hx ho (hlo _ hlm) (Nat.le_refl _)
        obtain ⟨G, hG⟩ : ∃ G, led (maps2 M) (nextP M.tch x o lot) = G := ⟨_, rfl⟩
        have hGl : G.length ≤ 9 := by rw [← hG]; exact led_len
        have hGb : ∀ p ∈ G, p.1 < M.tm ∧ p.2 < M.tm := fun p hp => by rw [← hG] at hp; exact led_lt (maps2_ok O) npl hp
        have hfit : fitsB M x o lot = !((G.map fun p => !decide (ansOf M p.1 = ansOf M p.2)).any id) := by
          unfold fitsB
          rw [hG, List.any_map]
          rfl
        refine db_one (ds_if (ω1 := [(5, Own.lst ((((lots.take i).filter (fitsB M x o)).map lotD)))]) (dt_not (dt_val (anyB (bs := G.map fun p => !decide (ansOf M p.1 = ansOf M p.2)) m (EvP.is (do_map (own := [("pair", 8)]) (f := fun d => .bl (!decide (ansOf M (unP d).1 = ansOf M (unP d).2))) rfl nd (di_tup (ca2 (z := .tup (G.map pD)) C2 hr (by decide) (de_var 1 rfl) (de_var 7 rfl) ⟨maps2 M, nextP M.tch x o lot, M.tm, maps2_ok O, ⟨npl, nextP_len (hlo _ hlm)⟩, rfl, by rw [hG]⟩)) (blkOk_by (by show blkC ["machine", "tops", "state", "other", "lots", "found", "lot", "pairs", "pair"] (defScope (top 43)) _ _ = true; decide +kernel)) (by simp) (by rw [List.length_map]; omega) (fun d hd => ?_)).data (by rw [List.map_map, List.map_map]; rfl))))) (fun hk => ?_) (fun hk => ?_))
        · obtain ⟨p, hp, rfl⟩ := List.mem_map.mp hd
          exact ⟨_, [8], by simp, fun _ _ _ _ _ => dg_name 8 nd, fun _ _ _ _ _ => ca2 C3 hr (by decide) (de_var 0 rfl) (de_var 8 rfl) ⟨M, p, O, (hGb p hp).1, (hGb p hp).2, rfl, rfl⟩⟩
        · rw [← hfit] at hk
          refine db_one (ds_append 5 List.mem_cons_self (de_var 6 rfl) ?_ ?_)
          · rw [List.length_map]
            have := List.length_filter_le (fitsB M x o) (lots.take i)
            rw [List.length_take] at this
            omega
          · refine ⟨_, _, rfl, ?_⟩
            rw [take_next hlot, List.filter_append, List.map_append, List.filter_cons_of_pos hk]
            rfl
        · rw [← hfit] at hk
          refine db_nil ⟨_, _, rfl, ?_⟩
          rw [take_next hlot, List.filter_append, List.map_append, List.filter_cons_of_neg (by rw [hk]; exact Bool.false_ne_true), List.filter_nil, List.map_nil, List.append_nil]
    · rintro ρ ω ⟨a, b, rfl, rfl⟩
      rw [List.length_map, List.take_length]
      exact db_one (ds_retOwn 5 List.mem_cons_self rfl))) (fun _ _ _ _ _ _ us hl => match us, hl with | [_, _, _, _, _], _ => rfl)
theorem c_least_top (m : MG mg) (C1 : Callee P w K mg base 2 "step_maps" 2 R_step_maps) (C2 : Callee P w K mg base 1 "top_come" 2 R_top_come) (C3 : Callee P w K mg base 1 "inner_come" 1 R_inner_come) (C4 : Callee P w K mg base 2 "fitting_lots" 5 R_fitting_lots) (F : FnP K "least_top" 44 f fd) (g : mg "least_top" = some (.ref f)) : Callee P w K mg base 3 "least_top" 3 R_least_top :=
  callee (ps := ["machine", "state", "lots"]) F g (fn_pure (k := 2) (N := ["machine", "state", "lots", "tops", "come", "some", "other", "fitting"]) F ⟨rfl, rfl, rfl, by decide +kernel, rfl, by decide +kernel, by decide +kernel⟩ (by
    rintro cdv A outer s H E ds z hr hl ⟨M, x, t, lots, O, hx, hlo, hll, ht, hf, hmin, rfl, rfl⟩
    have nd : (["machine", "state", "lots", "tops", "come", "some", "other", "fitting"] : List Str).Nodup := by decide +kernel
    have t3 := O.tm3
    have i2 := O.im2
    have lt := topsOf_len O
    refine db_cons (ds_unpack (de_tup (da_cons (ca2 C1 hr (by decide) (de_var 0 rfl) de_int ⟨M, O, .inr ⟨rfl, rfl⟩⟩) (da_1 (EvP.is (srtI (ns := (topCome M (innCome M)).map fun (n : Nat) => (n : Int)) (ms := (topsOf M).map fun (n : Nat) => (n : Int)) m (EvP.is (ca2 C2 hr (by decide) (de_var 0 rfl) (ca1 C3 hr (by decide) (de_var 0 rfl) ⟨M, O, rfl, rfl⟩) ⟨M, innCome M, O, fun o h => (mem_innCome O).mp h, by have := innCome_len O; omega, rfl, rfl⟩) (congrArg D.lst (map_nI_int _))) (topsOf_perm O) (asc_int topsOf_asc)) (congrArg D.lst (map_nI_int _).symm)))) (by show 2 ≤ 100000; decide)) (dg_tup rfl (dgs_cons (i := 3) (dgs_cons (i := 4) dgs_nil nd) nd)) ?_)
    refine db_cons (ds_setLc (i := 5) (own := [("other", 6)]) (ev_map (own := [("other", 6)]) (f := fun d => D.tup [d, .lst ((lots.filter (fitsB M x (unN d))).map lotD)]) (di_list (de_var 4 rfl)) no_om (by rw [List.length_map]; omega) (fun d hd => ?_)) ?_ rfl nd (blkOk_by (by show blkC ["machine", "state", "lots", "tops", "come", "some", "other", "fitting"] (defScope (top 44)) _ _ = true; decide +kernel)))
    · obtain ⟨o, ho, rfl⟩ := List.mem_map.mp hd
      exact ⟨_, [6], by simp, fun _ _ _ _ _ => dg_name 6 nd, fun _ _ _ _ _ => de_tup (da_cons (de_var 6 rfl) (da_1 (ca5 C4 hr (by decide) (de_var 0 rfl) (de_var 3 rfl) (de_var 1 rfl) (de_var 6 rfl) (de_var 2 rfl) ⟨M, x, o, lots, O, hx, topsOf_lt O o ho, hlo, hll, rfl, rfl⟩))) (by show 2 ≤ 100000; decide)⟩
    let fit : Nat → List (Option Lot) := fun o => lots.filter (fitsB M x o)
    let pr : Nat → D := fun o => D.tup [nI o, .lst ((fit o).map lotD)]
    have e1 : ((topsOf M).map nI).map (fun d => D.tup [d, .lst ((lots.filter (fitsB M x (unN d))).map lotD)]) = (topsOf M).map pr := by rw [List.map_map]; rfl
    rw [e1]
    have hft : decide (0 < (fit t).length) = true := decide_eq_true (List.length_pos_iff.mpr hf)
    have e2 : (((topsOf M).map pr).filter (fun d => decide (0 < (items ((items d).getD 1 .non)).length))).map (fun d => d) = ((topsOf M).filter fun o => decide (0 < (fit o).length)).map pr := by
      rw [List.map_id', List.filter_map]
      congr 1
      refine List.filter_congr fun o _ => ?_
      show decide (0 < ((fit o).map lotD).length) = _
      rw [List.length_map]
    refine db_one (ds_ret (de_ixL (atN (j := 0) ?_) (EvP.is (do_filter (own := [("other", 6), ("fitting", 7)]) (q := fun d => decide (0 < (items ((items d).getD 1 .non)).length)) (f := fun d => d) rfl nd (di_list (de_var 5 rfl)) (blkOk_by (by show blkC ["machine", "state", "lots", "tops", "come", "some", "other", "fitting"] (defScope (top 44)) _ _ = true; decide +kernel)) no_om (by rw [List.length_map]; omega) (fun d hd => ?_)).data (congrArg D.lst e2)) de_int) rfl)
    · rw [List.getElem?_map, filter_head topsOf_asc ht hft fun t' h1 h2 => hmin t' h1 (List.length_pos_iff.mp (of_decide_eq_true h2))]
      rfl
    · obtain ⟨o, ho, rfl⟩ := List.mem_map.mp hd
      refine ⟨_, [6, 7], by simp, fun _ _ _ _ _ => dg_tup rfl (dgs_cons (i := 6) (dgs_cons (i := 7) dgs_nil nd) nd), fun _ _ _ _ _ => dts_one (EvT.is (dt_gt (lenL m (de_var 7 rfl)) de_int) ?_), fun _ _ _ _ _ _ => de_tup (da_cons (de_var 6 rfl) (da_1 (de_var 7 rfl))) (by show 2 ≤ 100000; decide)⟩
      show decide ((0 : Int) < (((fit o).map lotD).length : Nat)) = decide (0 < ((fit o).map lotD).length)
      rw [Bool.eq_iff_iff, decide_eq_true_iff, decide_eq_true_iff]
      omega)) (fun _ _ _ _ _ _ us hl => match us, hl with | [_, _, _], _ => rfl)
theorem c_least_inner (m : MG mg) (F : FnP K "least_inner" 45 f fd) (g : mg "least_inner" = some (.ref f)) : Callee P w K mg base 1 "least_inner" 2 R_least_inner :=
  callee (ps := ["level", "wanted"]) F g (fn_pure (k := 0) (N := ["level", "wanted", "least", "key"]) F ⟨rfl, rfl, rfl, by decide +kernel, rfl, by decide +kernel, by decide +kernel⟩ (by
    rintro cdv A outer s H E ds z hr hl ⟨L, W, a, ndk, hL, hW, ⟨e0, he0, ea0⟩, hmin, rfl, rfl⟩
    have nd : (["level", "wanted", "least", "key"] : List Str).Nodup := by decide +kernel
    have hu := room65 hr
    have kk : ∀ d ∈ L.map (fun e => keyD e.1), kOk d := fun d hd => by
      obtain ⟨e, _, rfl⟩ := List.mem_map.mp hd
      exact keyD_kOk _
    let q : D → Bool := fun d => (W.map lotD).any fun z => decide (nk z = nk (valD L d))
    have hq : ∀ e ∈ L, q (keyD e.1) = decide (some e.2 ∈ W) := fun e he => by
      show ((W.map lotD).any fun z => decide (nk z = nk (valD L (keyD e.1)))) = _
      rw [valD_mem ndk he, encL.any]
      exact decide_eq_decide.mpr Iff.rfl
    have e1 : ((L.map fun e => keyD e.1).filter q).map (fun d => nI (unN ((items d).getD 1 .non))) = ((hits L W).map fun e => (e.1.2 : Int)).map D.int := by
      have : (L.map fun e => keyD e.1).filter q = (hits L W).map fun e => keyD e.1 := by
        unfold hits
        rw [List.filter_map]
        congr 1
        exact List.filter_congr fun e he => hq e he
      rw [this, List.map_map, List.map_map]
      rfl
    refine db_cons (ds_set (i := 2) (minI (k := (a : Int)) m (EvP.is (do_filter (own := [("key", 3)]) (q := q) (f := fun d => nI (unN ((items d).getD 1 .non))) rfl nd (di_keysT (de_var 0 rfl)) (blkOk_by (by show blkC ["level", "wanted", "least", "key"] (defScope (top 45)) _ _ = true; decide +kernel)) no_om (by rw [List.length_map]; omega) (fun d hd => ?_)).data (congrArg D.lst e1)) ?_ ?_) ?_ nd)
    · obtain ⟨e, he, rfl⟩ := List.mem_map.mp hd
      refine ⟨_, [3], by simp, fun _ _ _ _ _ => dg_name 3 nd, fun _ _ _ _ _ => dts_one (EvT.is (dt_inK hu (encL.ok (some e.2)) encL.all (de_ixD (lt16 hu) (level_nk ndk) kk rfl (level_ix he) (de_var 0 rfl) (de_var 3 rfl)) (de_var 1 rfl)) ?_), fun _ _ _ _ _ _ => de_ixT (atN (j := 1) rfl) (de_var 3 rfl) de_int⟩
      show ((W.map lotD).any fun z => decide (nk z = nk (lotD (some e.2)))) = ((W.map lotD).any fun z => decide (nk z = nk (valD L (keyD e.1))))
      rw [valD_mem ndk he]
    · exact List.mem_map.mpr ⟨e0, he0, by rw [ea0]⟩
    · intro y hy
      obtain ⟨e, he, rfl⟩ := List.mem_map.mp hy
      have := hmin e he
      omega
    let q2 : D → Bool := fun d => decide ((unN ((items d).getD 1 .non) : Int) = (a : Int)) && q d
    have e2 : ((L.map fun e => keyD e.1).filter q2).map (fun d => (items d).getD 0 .non) = ((hits L W).filter fun e => decide (e.1.2 = a)).map fun e => lotD e.1.1 := by
      have : (L.map fun e => keyD e.1).filter q2 = ((hits L W).filter fun e => decide (e.1.2 = a)).map fun e => keyD e.1 := by
        unfold hits
        rw [List.filter_map, List.filter_filter]
        congr 1
        refine List.filter_congr fun e he => ?_
        show (decide (((e.1.2 : Nat) : Int) = (a : Int)) && q (keyD e.1)) = _
        rw [hq e he]
        congr 1
        rw [Bool.eq_iff_iff, decide_eq_true_iff, decide_eq_true_iff]
        omega
      rw [this, List.map_map]
      rfl
    refine db_one (ds_ret (de_tup (da_cons (de_var 2 rfl) (da_1 (EvP.is (do_filter (own := [("key", 3)]) (q := q2) (f := fun d => (items d).getD 0 .non) rfl nd (di_keysT (de_var 0 rfl)) (blkOk_by (by show blkC ["level", "wanted", "least", "key"] (defScope (top 45)) _ _ = true; decide +kernel)) no_om (by rw [List.length_map]; omega) (fun d hd => ?_)).data (congrArg D.lst e2)))) (by show 2 ≤ 100000; decide)) rfl)
    · obtain ⟨e, he, rfl⟩ := List.mem_map.mp hd
      refine ⟨_, [3], by simp, fun _ _ _ _ _ => dg_name 3 nd, fun _ _ _ _ _ => dts_one (EvT.is (dw_t (dw_and (dt_eqI (de_ixT (atN (j := 1) rfl) (de_var 3 rfl) de_int) (de_var 2 rfl)) fun _ => dw_one (dt_inK hu (encL.ok (some e.2)) encL.all (de_ixD (lt16 hu) (level_nk ndk) kk rfl (level_ix he) (de_var 0 rfl) (de_var 3 rfl)) (de_var 1 rfl)))) ?_), fun _ _ _ _ _ _ => de_ixT (atN (j := 0) rfl) (de_var 3 rfl) de_int⟩
      show (decide (((e.1.2 : Nat) : Int) = (a : Int)) && ((W.map lotD).any fun z => decide (nk z = nk (lotD (some e.2))))) = (decide (((e.1.2 : Nat) : Int) = (a : Int)) && ((W.map lotD).any fun z => decide (nk z = nk (valD L (keyD e.1)))))
      rw [valD_mem ndk he])) (fun _ _ _ _ _ _ us hl => match us, hl with | [_, _], _ => rfl)
theorem c_need_come (m : MG mg) (C1 : Callee P w K mg base 7 "check_stack" 2 R_check_stack) (C2 : Callee P w K mg base 1 "inner_come" 1 R_inner_come) (C3 : Callee P w K mg base 1 "top_come" 2 R_top_come) (F : FnP K "need_come" 46 f fd) (g : mg "need_come" = some (.ref f)) : Callee P w K mg base 8 "need_come" 2 R_need_come :=
  callee (ps := ["machine", "value"]) F g (fn_pure (k := 7) (N := ["machine", "value", "line", "come", "state"]) F ⟨rfl, rfl, rfl, by decide +kernel, rfl, by decide +kernel, by decide +kernel⟩ (by
    rintro cdv A outer s H E ds z hr hl ⟨M, S, O, SO, hds, rfl⟩
    have nd : (["machine", "value", "line", "come", "state"] : List Str).Nodup := by decide +kernel
    have hu := room65 hr
    have i2 := O.im2
    have sl := SO.len
    rcases hds with rfl | rfl
    · refine db_cons (ds_set (i := 2) (ca2 C1 hr (by decide) (de_var 0 rfl) (de_var 1 rfl) ⟨M, S, O, SO.ok O, .inl rfl, rfl⟩) ?_ nd)
      refine db_cons (ds_set (i := 3) (ca1 C2 hr (by decide) (de_var 0 rfl) ⟨M, O, rfl, rfl⟩) ?_ nd)
      refine db_cons (ds_skip (EvT.is (dw_t (dw_or (dt_niK (x := nI (app S 0)) hu (encN.ok _) encN.all (de_ixT (at_nI (s := 0) (List.length_pos_iff.mpr SO.ne)) (de_var 2 rfl) de_int) (ca2 C3 hr (by decide) (de_var 0 rfl) (de_var 3 rfl) ⟨M, innCome M, O, fun o h => (mem_innCome O).mp h, by have := innCome_len O; omega, rfl, rfl⟩)) fun _ =>
        dw_one (dt_not (dt_val (allT m (do_map (own := [("state", 4)]) (f := fun _ => .bl true) rfl nd (di_tup (de_sl1T (de_var 2 rfl))) (blkOk_by (by show blkC ["machine", "value", "line", "come", "state"] (defScope (top 46)) _ _ = true; decide +kernel)) no_om (by rw [List.length_drop, List.length_map]; omega) (fun d hd => ?_)).data ?_))))) ?_) ?_)
      · rw [← List.map_drop] at hd
        obtain ⟨y, hy, rfl⟩ := List.mem_map.mp hd
        refine ⟨_, [4], by simp, fun _ _ _ _ _ => dg_name 4 nd, fun _ _ _ _ _ => EvP.is (de_inK hu (encN.ok y) encN.all (de_var 4 rfl) (de_var 3 rfl)) ?_⟩
        rw [encN.any, decide_eq_true ((mem_innCome O).mpr (SO.tl y hy))]
      · intro d hd
        obtain ⟨_, _, rfl⟩ := List.mem_map.mp hd
        rfl
      · rw [encN.any, decide_eq_true ((mem_topCome O fun o => mem_innCome O).mpr SO.hd)]; rfl
      exact db_one (ds_ret (de_var 2 rfl) rfl)
    · refine db_cons (ds_set (i := 2) (ca2 C1 hr (by decide) (de_var 0 rfl) (de_var 1 rfl) ⟨M, S, O, SO.ok O, .inr rfl, rfl⟩) ?_ nd)
      refine db_cons (ds_set (i := 3) (ca1 C2 hr (by decide) (de_var 0 rfl) ⟨M, O, rfl, rfl⟩) ?_ nd)
      refine db_cons (ds_skip (EvT.is (dw_t (dw_or (dt_niK (x := nI (app S 0)) hu (encN.ok _) encN.all (de_ixT (at_nI (s := 0) (List.length_pos_iff.mpr SO.ne)) (de_var 2 rfl) de_int) (ca2 C3 hr (by decide) (de_var 0 rfl) (de_var 3 rfl) ⟨M, innCome M, O, fun o h => (mem_innCome O).mp h, by have := innCome_len O; omega, rfl, rfl⟩)) fun _ =>
        dw_one (dt_not (dt_val (allT m (do_map (own := [("state", 4)]) (f := fun _ => .bl true) rfl nd (di_tup (de_sl1T (de_var 2 rfl))) (blkOk_by (by show blkC ["machine", "value", "line", "come", "state"] (defScope (top 46)) _ _ = true; decide +kernel)) no_om (by rw [List.length_drop, List.length_map]; omega) (fun d hd => ?_)).data ?_))))) ?_) ?_)
      · rw [← List.map_drop] at hd
        obtain ⟨y, hy, rfl⟩ := List.mem_map.mp hd
        refine ⟨_, [4], by simp, fun _ _ _ _ _ => dg_name 4 nd, fun _ _ _ _ _ => EvP.is (de_inK hu (encN.ok y) encN.all (de_var 4 rfl) (de_var 3 rfl)) ?_⟩
        rw [encN.any, decide_eq_true ((mem_innCome O).mpr (SO.tl y hy))]
      · intro d hd
        obtain ⟨_, _, rfl⟩ := List.mem_map.mp hd
        rfl
      · rw [encN.any, decide_eq_true ((mem_topCome O fun o => mem_innCome O).mpr SO.hd)]; rfl
      exact db_one (ds_ret (de_var 2 rfl) rfl))) (fun _ _ _ _ _ _ us hl => match us, hl with | [_, _], _ => rfl)
end
end G

/-! M4 -/
set_option Elab.async false
set_option linter.all false
set_option maxRecDepth 100000
set_option maxHeartbeats 1000000
namespace G
open PySem L2
/-! ## 29. Alike -/
abbrev Wrd := List (List Nat)
def runW (w : Wrd) (a : Nat) : Nat := w.foldl (fun a f => app f a) a
theorem led_run {maps : List (List Nat)} {pairs : Lot} {q : Nat × Nat} (hq : q ∈ pairs) : ∀ {w : Wrd}, (∀ f ∈ w, f ∈ maps) → Led maps pairs (runW w q.1, runW w q.2) := by
  have go : ∀ {w : Wrd} {p : Nat × Nat}, Led maps pairs p → (∀ f ∈ w, f ∈ maps) → Led maps pairs (runW w p.1, runW w p.2) := by
    intro w
    induction w with
    | nil => intro p h _; exact h
    | cons f w ih => intro p h hw; exact ih (p := (app f p.1, app f p.2)) (.step h (hw f List.mem_cons_self)) fun g hg => hw g (List.mem_cons_of_mem _ hg)
  intro w hw
  exact go (.base hq) hw
theorem led_iff {maps : List (List Nat)} {pairs : Lot} {p : Nat × Nat} : Led maps pairs p ↔ ∃ w : Wrd, (∀ f ∈ w, f ∈ maps) ∧ ∃ q ∈ pairs, p = (runW w q.1, runW w q.2) := by
  constructor
  · intro h
    induction h with
    | base h => exact ⟨[], fun f hf => (nomatch hf), _, h, rfl⟩
    | @step p f _ hf ih =>
      obtain ⟨w, hw, q, hq, rfl⟩ := ih
      refine ⟨w ++ [f], fun g hg => ?_, q, hq, ?_⟩
      · rcases List.mem_append.mp hg with h | h
        · exact hw g h
        · have : g = f := by simpa using h
          rw [this]; exact hf
      · unfold runW
        rw [List.foldl_append, List.foldl_append]
        rfl
  · rintro ⟨w, hw, q, hq, rfl⟩
    exact led_run hq hw
/-- words of the inner maps -/
def WOk3 (m : Mach) (w : Wrd) : Prop := ∀ f ∈ w, f ∈ maps3 m
def WOk2 (m : Mach) (w : Wrd) : Prop := ∀ f ∈ w, f ∈ maps2 m
/-- what the inner states ss come to, along a plan -/
def inV (m : Mach) : List Wrd → List Nat → Option Nat
  | w :: ws, s :: r => some (runW w (match inV m ws r with | none => s | some c => ent m.ich c s))
  | _, _ => none
theorem run_lt {maps : List (List Nat)} {n : Nat} (M : MapsOk maps n) : ∀ {w : Wrd} {a : Nat}, (∀ f ∈ w, f ∈ maps) → a < n → runW w a < n
  | [], _, _, h => h
  | f :: w, a, hw, h => by
    have hf := hw f List.mem_cons_self
    exact run_lt M (w := w) (a := app f a) (fun g hg => hw g (List.mem_cons_of_mem _ hg)) (M.bd f hf _ (app_mem (by rw [M.len f hf]; exact h)))
theorem sufLot_none {m : Mach} {q : List Nat} : sufLot m [] q = none := by unfold sufLot; rfl
theorem sufLot_lt {m : Mach} (O : m.Ok) : ∀ {ss q : List Nat}, (∀ s ∈ ss, s < m.im) → (∀ s ∈ q, s < m.im) → OLotOk m.im (sufLot m ss q)
  | [], _, _, _ => by rw [sufLot_none]; trivial
  | s :: r, [], _, _ => by unfold sufLot; trivial
  | s :: r, o :: q, hs, hq => by
    unfold sufLot
    exact led_ok (maps3_ok O) (nextP_lt O.ich (hs s List.mem_cons_self) (hq o List.mem_cons_self) (sufLot_lt O (fun x hx => hs x (List.mem_cons_of_mem _ hx)) fun x hx => hq x (List.mem_cons_of_mem _ hx)) (Nat.le_refl _))
theorem inV_some {m : Mach} : ∀ {ws : List Wrd} {ss : List Nat}, ws.length = ss.length → ss ≠ [] → ∃ c, inV m ws ss = some c
  | _, [], _, h => absurd rfl h
  | [], s :: r, h, _ => by simp at h
  | w :: ws, s :: r, _, _ => ⟨_, rfl⟩
/-- what a lot holds -/
theorem mem_sufLot {m : Mach} (O : m.Ok) : ∀ {ss q : List Nat}, ss.length = q.length → (∀ s ∈ ss, s < m.im) → (∀ s ∈ q, s < m.im) →
    match sufLot m ss q with
    | none => ss = []
    | some l => ss ≠ [] ∧ ∀ p, p ∈ l ↔ ∃ ws : List Wrd, ws.length = ss.length ∧ (∀ w ∈ ws, WOk3 m w) ∧ inV m ws ss = some p.1 ∧ inV m ws q = some p.2
  | [], _, _, _, _ => by rw [sufLot_none]
  | s :: r, [], h, _, _ => by simp at h
  | s :: r, o :: q, h, hs, hq => by
    have hs' : ∀ x ∈ r, x < m.im := fun x hx => hs x (List.mem_cons_of_mem _ hx)
    have hq' : ∀ x ∈ q, x < m.im := fun x hx => hq x (List.mem_cons_of_mem _ hx)
    have hl : r.length = q.length := by simpa using h
    have ih := mem_sufLot O hl hs' hq'
    have lo := sufLot_lt O hs' hq'
    unfold sufLot
    refine ⟨by simp, fun p => ?_⟩
    rw [mem_led (maps3_ok O) (nextP_lt O.ich (hs s List.mem_cons_self) (hq o List.mem_cons_self) lo (Nat.le_refl _)), led_iff]
    cases e : sufLot m r q with
    | none =>
      rw [e] at ih
      have ih : r = [] := ih
      subst ih
      have : q = [] := List.length_eq_zero_iff.mp hl.symm
      subst this
      constructor
      · rintro ⟨w, hw, p', hp', rfl⟩
        have : p' = (s, o) := by simpa [nextP] using hp'
        subst this
        exact ⟨[w], rfl, fun x hx => by simp at hx; rw [hx]; exact hw, rfl, rfl⟩
      · rintro ⟨ws, h1, h2, h3, h4⟩
        match ws, h1, h2, h3, h4 with
        | [w], _, h2, h3, h4 =>
          refine ⟨w, h2 w List.mem_cons_self, (s, o), by simp [nextP], ?_⟩
          have a1 : runW w s = p.1 := Option.some.inj h3
          have a2 : runW w o = p.2 := Option.some.inj h4
          rw [a1, a2]
    | some l =>
      rw [e] at ih
      obtain ⟨hne, ih⟩ := ih
      constructor
      · rintro ⟨w, hw, p', hp', rfl⟩
        obtain ⟨p2, hp2, rfl⟩ := List.mem_map.mp (show p' ∈ l.map (fun p => (ent m.ich p.1 s, ent m.ich p.2 o)) from hp')
        obtain ⟨ws, h1, h2, h3, h4⟩ := (ih p2).mp hp2
        refine ⟨w :: ws, by simp [h1], fun x hx => ?_, ?_, ?_⟩
        · rcases List.mem_cons.mp hx with rfl | hx
          · exact hw
          · exact h2 x hx
        · show some (runW w (match inV m ws r with | none => s | some c => ent m.ich c s)) = _
          rw [h3]
        · show some (runW w (match inV m ws q with | none => o | some c => ent m.ich c o)) = _
          rw [h4]
      · rintro ⟨ws, h1, h2, h3, h4⟩
        cases ws with
        | nil => simp at h1
        | cons w ws =>
          have hl1 : ws.length = r.length := by simpa using h1
          have hneq : q ≠ [] := fun z => hne (List.length_eq_zero_iff.mp (by rw [hl, z]; rfl))
          obtain ⟨c, hc⟩ := inV_some (m := m) hl1 hne
          obtain ⟨c', hc'⟩ := inV_some (m := m) (hl1.trans hl) hneq
          have a1 : some (runW w (match inV m ws r with | none => s | some c => ent m.ich c s)) = some p.1 := h3
          have a2 : some (runW w (match inV m ws q with | none => o | some c => ent m.ich c o)) = some p.2 := h4
          rw [hc] at a1
          rw [hc'] at a2
          refine ⟨w, h2 w List.mem_cons_self, (ent m.ich c s, ent m.ich c' o), List.mem_map.mpr ⟨(c, c'), (ih (c, c')).mpr ⟨ws, hl1, fun x hx => h2 x (List.mem_cons_of_mem _ hx), hc, hc'⟩, rfl⟩, ?_⟩
          have b1 : runW w (ent m.ich c s) = p.1 := Option.some.inj a1
          have b2 : runW w (ent m.ich c' o) = p.2 := Option.some.inj a2
          rw [b1, b2]
/-- what a stack comes to, along a plan -/
def topV (m : Mach) (w0 : Wrd) (ws : List Wrd) : List Nat → Nat
  | t :: ss => runW w0 (match inV m ws ss with | none => t | some c => ent m.tch c t)
  | [] => 0
/-- two stacks of one length that no plan tells apart -/
def Alk (m : Mach) (S T : List Nat) : Prop := S.length = T.length ∧ ∀ w0 ws, WOk2 m w0 → (∀ w ∈ ws, WOk3 m w) → ws.length + 1 = S.length → ansOf m (topV m w0 ws S) = ansOf m (topV m w0 ws T)
theorem Alk.refl {m : Mach} (S : List Nat) : Alk m S S := ⟨rfl, fun _ _ _ _ _ => rfl⟩
theorem Alk.symm {m : Mach} {S T : List Nat} (h : Alk m S T) : Alk m T S := ⟨h.1.symm, fun w0 ws h0 h1 h2 => (h.2 w0 ws h0 h1 (h2.trans h.1.symm)).symm⟩
theorem Alk.trans {m : Mach} {S T U : List Nat} (h : Alk m S T) (h' : Alk m T U) : Alk m S U := ⟨h.1.trans h'.1, fun w0 ws h0 h1 h2 => (h.2 w0 ws h0 h1 h2).trans (h'.2 w0 ws h0 h1 (h2.trans h.1))⟩
/-- .. as the text asks it -/
theorem alk_iff {m : Mach} (O : m.Ok) {t t' : Nat} {ss q : List Nat} (ht : t < m.tm) (ht' : t' < m.tm) (hl : ss.length = q.length) (hs : ∀ s ∈ ss, s < m.im) (hq : ∀ s ∈ q, s < m.im) : Alk m (t :: ss) (t' :: q) ↔ fitsB m t t' (sufLot m ss q) = true := by
  have lo := sufLot_lt O hs hq
  have ml := mem_sufLot O hl hs hq
  have led2 : ∀ p, p ∈ led (maps2 m) (nextP m.tch t t' (sufLot m ss q)) ↔ ∃ w : Wrd, WOk2 m w ∧ ∃ x ∈ nextP m.tch t t' (sufLot m ss q), p = (runW w x.1, runW w x.2) := fun p => by
    rw [mem_led (maps2_ok O) (nextP_lt O.tch ht ht' lo (Nat.le_refl _)), led_iff]
    rfl
  have fit : fitsB m t t' (sufLot m ss q) = true ↔ ∀ p ∈ led (maps2 m) (nextP m.tch t t' (sufLot m ss q)), ansOf m p.1 = ansOf m p.2 := by
    unfold fitsB
    rw [Bool.not_eq_true', List.any_eq_false]
    constructor
    · intro h p hp
      have := h p hp
      simpa using this
    · intro h p hp
      simp [h p hp]
  rw [fit]
  constructor
  · rintro ⟨_, h⟩ p hp
    obtain ⟨w, hw, x, hx, rfl⟩ := (led2 p).mp hp
    cases e : sufLot m ss q with
    | none =>
      rw [e] at ml hx
      have ml : ss = [] := ml
      subst ml
      have : q = [] := List.length_eq_zero_iff.mp hl.symm
      subst this
      have : x = (t, t') := by simpa [nextP] using hx
      subst this
      exact h w [] hw (fun w hw => (nomatch hw)) rfl
    | some l =>
      rw [e] at ml hx
      obtain ⟨y, hy, rfl⟩ := List.mem_map.mp (show x ∈ l.map (fun p => (ent m.tch p.1 t, ent m.tch p.2 t')) from hx)
      obtain ⟨ws, h1, h2, h3, h4⟩ := (ml.2 y).mp hy
      have := h w ws hw h2 (by simp [h1])
      have a1 : topV m w ws (t :: ss) = runW w (ent m.tch y.1 t) := by
        show runW w (match inV m ws ss with | none => t | some c => ent m.tch c t) = _
        rw [h3]
      have a2 : topV m w ws (t' :: q) = runW w (ent m.tch y.2 t') := by
        show runW w (match inV m ws q with | none => t' | some c => ent m.tch c t') = _
        rw [h4]
      rw [a1, a2] at this
      exact this
  · intro h
    refine ⟨by simp [hl], fun w0 ws h0 h1 h2 => ?_⟩
    have hlw : ws.length = ss.length := by simpa using h2
    cases e : sufLot m ss q with
    | none =>
      rw [e] at ml
      have ml : ss = [] := ml
      subst ml
      have : q = [] := List.length_eq_zero_iff.mp hl.symm
      subst this
      have : ws = [] := List.length_eq_zero_iff.mp hlw
      subst this
      exact h (runW w0 t, runW w0 t') ((led2 _).mpr ⟨w0, h0, (t, t'), by rw [e]; simp [nextP], rfl⟩)
    | some l =>
      rw [e] at ml
      obtain ⟨hne, ml⟩ := ml
      obtain ⟨c, hc⟩ := inV_some (m := m) hlw hne
      obtain ⟨c', hc'⟩ := inV_some (m := m) (hlw.trans hl) (fun z => hne (List.length_eq_zero_iff.mp (by rw [hl, z]; rfl)))
      have a1 : topV m w0 ws (t :: ss) = runW w0 (ent m.tch c t) := by
        show runW w0 (match inV m ws ss with | none => t | some c => ent m.tch c t) = _
        rw [hc]
      have a2 : topV m w0 ws (t' :: q) = runW w0 (ent m.tch c' t') := by
        show runW w0 (match inV m ws q with | none => t' | some c => ent m.tch c t') = _
        rw [hc']
      rw [a1, a2]
      exact h (runW w0 (ent m.tch c t), runW w0 (ent m.tch c' t')) ((led2 _).mpr ⟨w0, h0, (ent m.tch c t, ent m.tch c' t'), by
        rw [e]
        exact List.mem_map.mpr ⟨(c, c'), (ml (c, c')).mpr ⟨ws, hlw, h1, hc, hc'⟩, rfl⟩, rfl⟩)
/-! a state pushed on both -/
def pushW (m : Mach) : List Wrd → Nat → List Wrd
  | [], _ => []
  | [w], x => [m.ich.getD x [] :: w]
  | w :: v :: ws, x => w :: pushW m (v :: ws) x
theorem pushW_len {m : Mach} {x : Nat} : ∀ {ws : List Wrd}, (pushW m ws x).length = ws.length
  | [] => rfl
  | [w] => rfl
  | w :: v :: ws => by rw [pushW, List.length_cons, pushW_len]; rfl
theorem pushW_ok {m : Mach} {x : Nat} (hx : m.ich.getD x [] ∈ maps3 m) : ∀ {ws : List Wrd}, (∀ w ∈ ws, WOk3 m w) → ∀ w ∈ pushW m ws x, WOk3 m w
  | [], _, w, h => by simp [pushW] at h
  | [v], hv, w, h => by
    have : w = m.ich.getD x [] :: v := by simpa [pushW] using h
    rw [this]
    intro f hf
    rcases List.mem_cons.mp hf with rfl | hf
    · exact hx
    · exact hv v List.mem_cons_self f hf
  | u :: v :: ws, hv, w, h => by
    rw [pushW] at h
    rcases List.mem_cons.mp h with rfl | h
    · exact hv _ List.mem_cons_self
    · exact pushW_ok hx (fun y hy => hv y (List.mem_cons_of_mem _ hy)) w h
theorem push_inV {m : Mach} {wl : Wrd} {c : Nat} : ∀ {ws : List Wrd} {ss : List Nat}, ws.length = ss.length → ss ≠ [] → inV m (ws ++ [wl]) (ss ++ [c]) = inV m (pushW m ws (runW wl c)) ss
  | _, [], _, h => absurd rfl h
  | [], s :: r, h, _ => by simp at h
  | [w], [s], _, _ => rfl
  | [w], s :: v :: r, h, _ => by simp at h
  | w :: v :: ws, [s], h, _ => by simp at h
  | w :: v :: ws, s :: u :: r, h, _ => by
    have ih := push_inV (m := m) (wl := wl) (c := c) (ws := v :: ws) (ss := u :: r) (by simpa using h) (by simp)
    show some (runW w (match inV m ((v :: ws) ++ [wl]) ((u :: r) ++ [c]) with | none => s | some c => ent m.ich c s)) = some (runW w (match inV m (pushW m (v :: ws) (runW wl c)) (u :: r) with | none => s | some c => ent m.ich c s))
    rw [ih]
theorem innR_run {m : Mach} (O : m.Ok) : ∀ {w : Wrd} {c : Nat}, WOk3 m w → InnR m c → InnR m (runW w c)
  | [], _, _, h => h
  | f :: w, c, hw, h => by
    have hf := hw f List.mem_cons_self
    refine innR_run O (w := w) (c := app f c) (fun g hg => hw g (List.mem_cons_of_mem _ hg)) ?_
    rcases List.mem_append.mp hf with h1 | h1
    · exact .text h h1
    · obtain ⟨s, hs, rfl⟩ := List.mem_map.mp h1
      exact .child h ((mem_innCome O).mp hs)
theorem row3 {m : Mach} (O : m.Ok) {x : Nat} (h : InnR m x) : m.ich.getD x [] ∈ maps3 m := List.mem_append_right _ (List.mem_map.mpr ⟨x, (mem_innCome O).mpr h, rfl⟩)
theorem row2 {m : Mach} (O : m.Ok) {x : Nat} (h : InnR m x) : m.tch.getD x [] ∈ maps2 m := List.mem_append_right _ (List.mem_map.mpr ⟨x, (mem_innCome O).mpr h, rfl⟩)
theorem Alk.push {m : Mach} (O : m.Ok) {S T : List Nat} {c : Nat} (h : Alk m S T) (hS : S ≠ []) (hc : InnR m c) : Alk m (S ++ [c]) (T ++ [c]) := by
  refine ⟨by simp [h.1], fun w0 ws h0 h1 h2 => ?_⟩
  have hl : ws.length = S.length := by simpa using h2
  have hws : ws ≠ [] := fun e => hS (List.length_eq_zero_iff.mp (by rw [← hl, e]; rfl))
  obtain ⟨ws', wl, rfl⟩ : ∃ ws' wl, ws = ws' ++ [wl] := ⟨ws.dropLast, ws.getLast hws, (List.dropLast_concat_getLast hws).symm⟩
  have okl : WOk3 m wl := h1 wl (by simp)
  have ok' : ∀ w ∈ ws', WOk3 m w := fun w hw => h1 w (by simp [hw])
  have hx := innR_run O okl hc
  cases S with
  | nil => exact absurd rfl hS
  | cons t ss =>
    cases T with
    | nil => have := h.1; simp at this
    | cons t' q =>
      have hlq : ss.length = q.length := by simpa using h.1
      have hl' : ws'.length = ss.length := by simpa using hl
      by_cases hss : ss = []
      · subst hss
        have : q = [] := List.length_eq_zero_iff.mp hlq.symm
        subst this
        have : ws' = [] := List.length_eq_zero_iff.mp hl'
        subst this
        have := h.2 (m.tch.getD (runW wl c) [] :: w0) [] (fun f hf => by
          rcases List.mem_cons.mp hf with rfl | hf
          · exact row2 O hx
          · exact h0 f hf) (fun w hw => (nomatch hw)) rfl
        exact this
      · have hq : q ≠ [] := fun e => hss (List.length_eq_zero_iff.mp (by rw [hlq, e]; rfl))
        have e1 : topV m w0 (ws' ++ [wl]) ((t :: ss) ++ [c]) = topV m w0 (pushW m ws' (runW wl c)) (t :: ss) := by
          show runW w0 (match inV m (ws' ++ [wl]) (ss ++ [c]) with | none => t | some c => ent m.tch c t) = runW w0 (match inV m (pushW m ws' (runW wl c)) ss with | none => t | some c => ent m.tch c t)
          rw [push_inV hl' hss]
        have e2 : topV m w0 (ws' ++ [wl]) ((t' :: q) ++ [c]) = topV m w0 (pushW m ws' (runW wl c)) (t' :: q) := by
          show runW w0 (match inV m (ws' ++ [wl]) (q ++ [c]) with | none => t' | some c => ent m.tch c t') = runW w0 (match inV m (pushW m ws' (runW wl c)) q with | none => t' | some c => ent m.tch c t')
          rw [push_inV (hl'.trans hlq) hq]
        rw [e1, e2]
        exact h.2 w0 (pushW m ws' (runW wl c)) h0 (pushW_ok (row3 O hx) ok') (by rw [pushW_len, hl']; rfl)
end G

/-! M5 -/
set_option Elab.async false
set_option linter.all false
set_option maxRecDepth 100000
set_option maxHeartbeats 1000000
namespace G
open PySem L2
/-! ## 30. Stacks in their order; the least -/
def sI (S : List Nat) : List Int := S.map fun (n : Nat) => (n : Int)
def cd (S : List Nat) : Int := TS.code 64 (sI S)
theorem sI_D (S : List Nat) : dTI (sI S) = tN S := by show D.tup ((S.map _).map D.int) = D.tup (S.map nI); rw [List.map_map]; rfl
theorem sI_inj {S T : List Nat} (h : sI S = sI T) : S = T := map_inj (fun x y e => by omega) h
def Sm (S : List Nat) : Prop := ∀ x ∈ S, x < 64
theorem sm_bd {S : List Nat} (h : Sm S) : TS.Bd 64 (sI S) := fun x hx => by
  obtain ⟨y, hy, rfl⟩ := List.mem_map.mp hx
  have := h y hy
  exact ⟨by omega, by omega⟩
theorem sI_len (S : List Nat) : (sI S).length = S.length := List.length_map _
theorem code_snoc (l : List Int) (x : Int) : TS.code 64 (l ++ [x]) = TS.code 64 l * 64 + x := by
  induction l with
  | nil => show x * 64 ^ 0 + 0 = 0 * 64 + x; omega
  | cons a l ih =>
    show a * 64 ^ (l ++ [x]).length + TS.code 64 (l ++ [x]) = (a * 64 ^ l.length + TS.code 64 l) * 64 + x
    rw [ih, List.length_append]
    show a * 64 ^ (l.length + 1) + _ = _
    rw [Int.pow_succ, Int.add_mul, Int.mul_assoc]
    omega
theorem cd_snoc (S : List Nat) (c : Nat) : cd (S ++ [c]) = cd S * 64 + c := by
  unfold cd sI
  rw [List.map_append]
  exact code_snoc _ _
theorem cd_inj {S T : List Nat} (hl : S.length = T.length) (h1 : Sm S) (h2 : Sm T) (h : cd S = cd T) : S = T := sI_inj (code_inj (by rw [sI_len, sI_len, hl]) (sm_bd h1) (sm_bd h2) h)
theorem cd_cons_lt {a b : Nat} {r q : List Nat} (hl : r.length = q.length) (h1 : Sm r) (h2 : Sm q) (h : a < b) : cd (a :: r) < cd (b :: q) :=
  TS.code_lt (r := sI r) (q := sI q) (by rw [sI_len, sI_len, hl]) (sm_bd h1) (sm_bd h2) (show (a : Int) < (b : Int) by omega)
theorem cd_cons_same {a : Nat} {r q : List Nat} (hl : r.length = q.length) : cd (a :: r) ≤ cd (a :: q) ↔ cd r ≤ cd q := by
  show (a : Int) * 64 ^ (sI r).length + TS.code 64 (sI r) ≤ (a : Int) * 64 ^ (sI q).length + TS.code 64 (sI q) ↔ TS.code 64 (sI r) ≤ TS.code 64 (sI q)
  rw [sI_len, sI_len, hl]
  omega
theorem cd_cons_le {a b : Nat} {r q : List Nat} (hl : r.length = q.length) (h1 : Sm r) (h2 : Sm q) (h : cd (a :: r) ≤ cd (b :: q)) : a ≤ b := by
  by_cases z : b < a
  · have := cd_cons_lt hl.symm h2 h1 z
    omega
  · omega
/-! the stacks of d inner states -/
def stacksOf (m : Mach) : Nat → List (List Nat)
  | 0 => (topsOf m).map fun t => [t]
  | d + 1 => (stacksOf m d).flatMap fun S => (come m).map fun c => S ++ [c]
theorem come_snoc {m : Mach} {S : List Nat} {c : Nat} (h : S ≠ []) : app (S ++ [c]) 0 = app S 0 ∧ (S ++ [c]).drop 1 = S.drop 1 ++ [c] := by
  cases S with
  | nil => exact absurd rfl h
  | cons a S => exact ⟨rfl, rfl⟩
/-- a stack of d inner states that can be come to -/
structure CS (m : Mach) (d : Nat) (S : List Nat) : Prop where
  len : S.length = d + 1
  hd : TopR m (app S 0)
  tl : ∀ x ∈ S.drop 1, InnR m x
theorem CS.ne {m : Mach} {d : Nat} {S : List Nat} (h : CS m d S) : S ≠ [] := fun e => by have := h.len; rw [e] at this; simp at this
theorem mem_stacksOf {m : Mach} (O : m.Ok) : ∀ {d : Nat} {S : List Nat}, S ∈ stacksOf m d ↔ CS m d S
  | 0, S => by
    unfold stacksOf
    rw [List.mem_map]
    constructor
    · rintro ⟨t, ht, rfl⟩
      exact ⟨rfl, (mem_topsOf O).mp ht, fun x hx => by simp at hx⟩
    · intro h
      match S, h with
      | [t], h => exact ⟨t, (mem_topsOf O).mpr h.hd, rfl⟩
      | [], h => have := h.len; simp at this
      | _ :: _ :: _, h => have := h.len; simp at this
  | d + 1, S => by
    unfold stacksOf
    rw [List.mem_flatMap]
    constructor
    · rintro ⟨T, hT, h⟩
      obtain ⟨c, hc, rfl⟩ := List.mem_map.mp h
      have h1 := (mem_stacksOf O).mp hT
      obtain ⟨e1, e2⟩ := come_snoc (m := m) (c := c) h1.ne
      refine ⟨by rw [List.length_append, h1.len]; rfl, by rw [e1]; exact h1.hd, fun x hx => ?_⟩
      rw [e2] at hx
      rcases List.mem_append.mp hx with hx | hx
      · exact h1.tl x hx
      · have : x = c := by simpa using hx
        rw [this]; exact (mem_come O).mp hc
    · intro h
      have ne := h.ne
      obtain ⟨T, c, rfl⟩ : ∃ T c, S = T ++ [c] := ⟨S.dropLast, S.getLast ne, (List.dropLast_concat_getLast ne).symm⟩
      have lT : T.length = d + 1 := by have := h.len; simpa using this
      have neT : T ≠ [] := fun e => by rw [e] at lT; simp at lT
      obtain ⟨e1, e2⟩ := come_snoc (m := m) (c := c) neT
      have h2 := h.tl
      rw [e2] at h2
      exact ⟨T, (mem_stacksOf O).mpr ⟨lT, by rw [← e1]; exact h.hd, fun x hx => h2 x (List.mem_append_left _ hx)⟩, List.mem_map.mpr ⟨c, (mem_come O).mpr (h2 c (by simp)), rfl⟩⟩
theorem CS.sm {m : Mach} (O : m.Ok) {d : Nat} {S : List Nat} (h : CS m d S) : Sm S := fun x hx => by
  have h3 := O.tm3
  have h4 := O.im2
  cases S with
  | nil => simp at hx
  | cons t S =>
    rcases List.mem_cons.mp hx with rfl | hx
    · have := h.hd.lt O
      have : x < m.tm := this
      omega
    · have := (h.tl x hx).lt O
      omega
theorem CS.come {m : Mach} {d : Nat} {S : List Nat} (h : CS m d S) (hd : d ≤ 49) : Come m S := ⟨h.ne, h.hd, h.tl, by rw [h.len]; omega⟩
theorem CS.push {m : Mach} {d c : Nat} {S : List Nat} (h : CS m d S) (hc : InnR m c) : CS m (d + 1) (S ++ [c]) := by
  obtain ⟨e1, e2⟩ := come_snoc (m := m) (c := c) h.ne
  refine ⟨by rw [List.length_append, h.len]; rfl, by rw [e1]; exact h.hd, fun x hx => ?_⟩
  rw [e2] at hx
  rcases List.mem_append.mp hx with hx | hx
  · exact h.tl x hx
  · have : x = c := by simpa using hx
    rw [this]; exact hc
theorem pw_flat {α β : Type} {R : β → β → Prop} {f : α → List β} : ∀ {l : List α} {S : α → α → Prop}, l.Pairwise S → (∀ a ∈ l, (f a).Pairwise R) → (∀ a b, S a b → ∀ x ∈ f a, ∀ y ∈ f b, R x y) → (l.flatMap f).Pairwise R
  | [], _, _, _, _ => .nil
  | a :: l, S, h, h1, h2 => by
    obtain ⟨p1, p2⟩ := List.pairwise_cons.mp h
    rw [List.flatMap_cons]
    refine List.pairwise_append.mpr ⟨h1 a List.mem_cons_self, pw_flat p2 (fun b hb => h1 b (List.mem_cons_of_mem _ hb)) h2, fun x hx y hy => ?_⟩
    obtain ⟨b, hb, hy⟩ := List.mem_flatMap.mp hy
    exact h2 a b (p1 b hb) x hx y hy
theorem stacksOf_asc {m : Mach} (O : m.Ok) : ∀ {d : Nat}, (stacksOf m d).Pairwise fun S T => cd S < cd T
  | 0 => by
    unfold stacksOf
    refine List.pairwise_map.mpr (topsOf_asc.imp fun h => ?_)
    exact cd_cons_lt rfl (fun x hx => (nomatch hx)) (fun x hx => (nomatch hx)) h
  | d + 1 => by
    unfold stacksOf
    have h4 := O.im2
    refine pw_flat (stacksOf_asc O) (fun S _ => List.pairwise_map.mpr (come_asc.imp fun h => ?_)) fun S T h x hx y hy => ?_
    · rw [cd_snoc, cd_snoc]; omega
    · obtain ⟨c, hc, rfl⟩ := List.mem_map.mp hx
      obtain ⟨c', hc', rfl⟩ := List.mem_map.mp hy
      have := come_lt O c hc
      rw [cd_snoc, cd_snoc]; omega
theorem stacksOf_nd {m : Mach} (O : m.Ok) {d : Nat} : (stacksOf m d).Nodup := (stacksOf_asc O).imp fun h e => by rw [e] at h; omega
theorem stacksOf_len {m : Mach} (O : m.Ok) : ∀ {d : Nat}, (stacksOf m d).length ≤ 3 * 2 ^ d
  | 0 => by
    unfold stacksOf
    rw [List.length_map]
    have := topsOf_len O
    have := O.tm3
    omega
  | d + 1 => by
    have ih := stacksOf_len O (d := d)
    have : (stacksOf m (d + 1)).length = (stacksOf m d).length * (come m).length := by
      rw [stacksOf]
      induction stacksOf m d with
      | nil => simp
      | cons S l ih => rw [List.flatMap_cons, List.length_append, ih, List.length_map, List.length_cons, Nat.add_mul, Nat.one_mul, Nat.add_comm]
    rw [this, Nat.pow_succ]
    have h1 := come_len O
    have h2 := O.im2
    have := Nat.mul_le_mul ih (show (come m).length ≤ 2 by omega)
    omega
/-! the least -/
structure IsLeast (m : Mach) (d : Nat) (S T : List Nat) : Prop where
  mem : T ∈ stacksOf m d
  alk : Alk m S T
  min : ∀ U ∈ stacksOf m d, Alk m S U → cd T ≤ cd U
theorem IsLeast.uniq {m : Mach} (O : m.Ok) {d : Nat} {S T U : List Nat} (h : IsLeast m d S T) (h' : IsLeast m d S U) : T = U := by
  have a := (mem_stacksOf O).mp h.mem
  have b := (mem_stacksOf O).mp h'.mem
  exact cd_inj (a.len.trans b.len.symm) (a.sm O) (b.sm O) (Int.le_antisymm (h.min U h'.mem h'.alk) (h'.min T h.mem h.alk))
theorem IsLeast.same {m : Mach} {d : Nat} {S S' T : List Nat} (h : IsLeast m d S T) (a : Alk m S' S) : IsLeast m d S' T := ⟨h.mem, a.trans h.alk, fun U hU hA => h.min U hU (a.symm.trans hA)⟩
theorem IsLeast.self {m : Mach} {d : Nat} {S T : List Nat} (h : IsLeast m d S T) : IsLeast m d T T := h.same h.alk.symm
theorem least_of {l : List (List Nat)} {p : List Nat → Prop} (ha : l.Pairwise fun S T => cd S < cd T) {S : List Nat} (hS : S ∈ l) (hp : p S) : ∃ T ∈ l, p T ∧ ∀ U ∈ l, p U → cd T ≤ cd U := by
  induction l with
  | nil => simp at hS
  | cons a l ih =>
    obtain ⟨h1, h2⟩ := List.pairwise_cons.mp ha
    by_cases hpa : p a
    · refine ⟨a, List.mem_cons_self, hpa, fun U hU _ => ?_⟩
      rcases List.mem_cons.mp hU with rfl | hU
      · exact Int.le_refl _
      · exact Int.le_of_lt (h1 U hU)
    · rcases List.mem_cons.mp hS with rfl | hS
      · exact absurd hp hpa
      · obtain ⟨T, t1, t2, t3⟩ := ih h2 hS
        refine ⟨T, List.mem_cons_of_mem _ t1, t2, fun U hU hpU => ?_⟩
        rcases List.mem_cons.mp hU with rfl | hU
        · exact absurd hpU hpa
        · exact t3 U hU hpU
theorem exists_least {m : Mach} (O : m.Ok) {d : Nat} {S : List Nat} (h : CS m d S) : ∃ T, IsLeast m d S T := by
  obtain ⟨T, t1, t2, t3⟩ := least_of (p := Alk m S) (stacksOf_asc O (d := d)) ((mem_stacksOf O).mpr h) (Alk.refl S)
  exact ⟨T, t1, t2, t3⟩
open Classical in
/-- the least stack alike to S -/
noncomputable def lst (m : Mach) (d : Nat) (S : List Nat) : List Nat := if h : ∃ T, IsLeast m d S T then h.choose else []
theorem lst_ok {m : Mach} (O : m.Ok) {d : Nat} {S : List Nat} (h : CS m d S) : IsLeast m d S (lst m d S) := by
  have e := exists_least O h
  unfold lst
  rw [dif_pos e]
  exact e.choose_spec
open Classical in
/-- the stacks that are least -/
noncomputable def leastsOf (m : Mach) (d : Nat) : List (List Nat) := (stacksOf m d).filter fun S => decide (IsLeast m d S S)
theorem mem_leastsOf {m : Mach} {d : Nat} {S : List Nat} : S ∈ leastsOf m d ↔ IsLeast m d S S := by
  classical
  unfold leastsOf
  rw [List.mem_filter, decide_eq_true_iff]
  exact ⟨fun h => h.2, fun h => ⟨h.mem, h⟩⟩
theorem leastsOf_sub {m : Mach} {d : Nat} : (leastsOf m d).Sublist (stacksOf m d) := by unfold leastsOf; exact List.filter_sublist
theorem leastsOf_asc {m : Mach} (O : m.Ok) {d : Nat} : (leastsOf m d).Pairwise fun S T => cd S < cd T := (stacksOf_asc O).sublist leastsOf_sub
theorem leastsOf_nd {m : Mach} (O : m.Ok) {d : Nat} : (leastsOf m d).Nodup := (stacksOf_nd O).sublist leastsOf_sub
theorem leastsOf_len {m : Mach} (O : m.Ok) {d : Nat} : (leastsOf m d).length ≤ 3 * 2 ^ d := Nat.le_trans leastsOf_sub.length_le (stacksOf_len O)
theorem leastsOf_cs {m : Mach} (O : m.Ok) {d : Nat} {S : List Nat} (h : S ∈ leastsOf m d) : CS m d S := (mem_stacksOf O).mp (mem_leastsOf.mp h).mem
/-- the leasts of a list of stacks that holds one of each class -/
theorem leasts_perm {m : Mach} (O : m.Ok) {d : Nat} {l : List (List Nat)} (h1 : ∀ S ∈ l, CS m d S) (h2 : ∀ T ∈ leastsOf m d, ∃ S ∈ l, Alk m S T) : (leastsOf m d).Perm (ddU (l.map (lst m d))) := by
  refine (List.perm_ext_iff_of_nodup (leastsOf_nd O) nodup_ddU).mpr fun T => ?_
  rw [mem_ddU, List.mem_map]
  constructor
  · intro hT
    obtain ⟨S, hS, ha⟩ := h2 T hT
    exact ⟨S, hS, (lst_ok O (h1 S hS)).uniq O ((mem_leastsOf.mp hT).same ha)⟩
  · rintro ⟨S, hS, rfl⟩
    exact mem_leastsOf.mpr (lst_ok O (h1 S hS)).self
theorem leasts_push {m : Mach} (O : m.Ok) {d : Nat} {T : List Nat} (hT : T ∈ leastsOf m (d + 1)) : ∃ S ∈ (leastsOf m d).flatMap (fun S => (come m).map fun c => S ++ [c]), Alk m S T := by
  have h1 := (mem_leastsOf.mp hT).mem
  rw [stacksOf, List.mem_flatMap] at h1
  obtain ⟨S0, h2, h3⟩ := h1
  obtain ⟨c, hc, rfl⟩ := List.mem_map.mp h3
  have c0 := (mem_stacksOf O).mp h2
  have L := lst_ok O c0
  exact ⟨lst m d S0 ++ [c], List.mem_flatMap.mpr ⟨lst m d S0, mem_leastsOf.mpr L.self, List.mem_map.mpr ⟨c, hc, rfl⟩⟩, (L.alk.push O c0.ne ((mem_come O).mp hc)).symm⟩
/-! the text's way to the least -/
structure LeastIn (m : Mach) (ss : List Nat) (W : List (Option Lot)) (r : List Nat) : Prop where
  len : r.length = ss.length
  c : ∀ x ∈ r, x ∈ come m
  w : sufLot m ss r ∈ W
  min : ∀ q : List Nat, q.length = ss.length → (∀ x ∈ q, x ∈ come m) → sufLot m ss q ∈ W → cd r ≤ cd q
theorem come_sm {m : Mach} (O : m.Ok) {r : List Nat} (h : ∀ x ∈ r, x ∈ come m) : Sm r := fun x hx => by
  have := come_lt O x (h x hx)
  have := O.im2
  omega
theorem LeastIn.step {m : Mach} (O : m.Ok) {s a : Nat} {ss r : List Nat} {W : List (Option Lot)} (h : LeastIn m (s :: ss) W (a :: r)) :
    (∃ e ∈ hits (levelOf m (come m) s (withinOf m (come m) ss)) W, e.1.2 = a) ∧ (∀ e ∈ hits (levelOf m (come m) s (withinOf m (come m) ss)) W, a ≤ e.1.2) ∧
    LeastIn m ss (((hits (levelOf m (come m) s (withinOf m (come m) ss)) W).filter fun e => decide (e.1.2 = a)).map fun e => e.1.1) r := by
  have hl : r.length = ss.length := by have := h.len; simpa using this
  have hcr : ∀ x ∈ r, x ∈ come m := fun x hx => h.c x (List.mem_cons_of_mem _ hx)
  have hw := h.w
  rw [sufLot] at hw
  have key : ∀ {q : List Nat} {b : Nat}, q.length = ss.length → (∀ x ∈ q, x ∈ come m) → b ∈ come m → some (led (maps3 m) (nextP m.ich s b (sufLot m ss q))) ∈ W → ((sufLot m ss q, b), led (maps3 m) (nextP m.ich s b (sufLot m ss q))) ∈ hits (levelOf m (come m) s (withinOf m (come m) ss)) W := fun {q b} h1 h2 h3 h4 =>
    List.mem_filter.mpr ⟨mem_levelOf.mpr ⟨mem_withinOf.mpr ⟨q, h1, h2, rfl⟩, h3, rfl⟩, decide_eq_true h4⟩
  have k0 := key hl hcr (h.c a List.mem_cons_self) hw
  refine ⟨⟨_, k0, rfl⟩, fun e he => ?_, ⟨hl, hcr, List.mem_map.mpr ⟨_, List.mem_filter.mpr ⟨k0, by simp⟩, rfl⟩, fun q h1 h2 h3 => ?_⟩⟩
  · obtain ⟨he1, he2⟩ := List.mem_filter.mp he
    obtain ⟨g1, g2, g3⟩ := mem_levelOf.mp he1
    obtain ⟨q, q1, q2, q3⟩ := mem_withinOf.mp g1
    have := h.min (e.1.2 :: q) (by simp [q1]) (fun x hx => by
      rcases List.mem_cons.mp hx with rfl | hx
      · exact g2
      · exact q2 x hx) (by rw [sufLot, ← q3, ← g3]; exact of_decide_eq_true he2)
    exact cd_cons_le (hl.trans q1.symm) (come_sm O hcr) (come_sm O q2) this
  · obtain ⟨e, he, e1⟩ := List.mem_map.mp h3
    obtain ⟨he1, he2⟩ := List.mem_filter.mp he
    have ea : e.1.2 = a := of_decide_eq_true he2
    obtain ⟨g0, g4⟩ := List.mem_filter.mp he1
    obtain ⟨g1, g2, g3⟩ := mem_levelOf.mp g0
    have := h.min (a :: q) (by simp [h1]) (fun x hx => by
      rcases List.mem_cons.mp hx with rfl | hx
      · exact h.c _ List.mem_cons_self
      · exact h2 x hx) (by
        rw [sufLot, ← e1, ← ea, ← g3]
        exact of_decide_eq_true g4)
    exact (cd_cons_same (hl.trans h1.symm)).mp this
theorem app_zero (t : Nat) (ss : List Nat) : app (t :: ss) 0 = t := rfl
/-- the least, as the text comes to it -/
theorem IsLeast.start {m : Mach} (O : m.Ok) {d t t' : Nat} {ss q : List Nat} (hS : CS m d (t :: ss)) (h : IsLeast m d (t :: ss) (t' :: q)) :
    t' ∈ topsOf m ∧ (∀ t2 ∈ topsOf m, (withinOf m (come m) ss).filter (fitsB m t t2) ≠ [] → t' ≤ t2) ∧ LeastIn m ss ((withinOf m (come m) ss).filter (fitsB m t t')) q := by
  have hT := (mem_stacksOf O).mp h.mem
  have ls : ss.length = d := by have := hS.len; simpa using this
  have lq : q.length = d := by have := hT.len; simpa using this
  have ht' : TopR m t' := hT.hd
  have ht : TopR m t := hS.hd
  have hq : ∀ x ∈ q, x ∈ come m := fun x hx => (mem_come O).mpr (hT.tl x hx)
  have hs : ∀ s ∈ ss, s < m.im := fun s hs' => (hS.tl s hs').lt O
  have cand : ∀ {t2 : Nat} {q2 : List Nat}, t2 ∈ topsOf m → q2.length = ss.length → (∀ x ∈ q2, x ∈ come m) → fitsB m t t2 (sufLot m ss q2) = true → cd (t' :: q) ≤ cd (t2 :: q2) := fun {t2 q2} h1 h2 h3 h4 => by
    refine h.min (t2 :: q2) ((mem_stacksOf O).mpr ⟨by simp [h2, ls], (mem_topsOf O).mp h1, fun x hx => (mem_come O).mp (h3 x hx)⟩) ?_
    exact (alk_iff O (ht.lt O) (topsOf_lt O t2 h1) h2.symm hs fun s hs' => come_lt O s (h3 s hs')).mpr h4
  have fit : fitsB m t t' (sufLot m ss q) = true := (alk_iff O (ht.lt O) (ht'.lt O) (ls.trans lq.symm) hs fun s hs' => come_lt O s (hq s hs')).mp h.alk
  refine ⟨(mem_topsOf O).mpr ht', fun t2 h2 hne => ?_, ⟨lq.trans ls.symm, hq, List.mem_filter.mpr ⟨mem_withinOf.mpr ⟨q, lq.trans ls.symm, hq, rfl⟩, fit⟩, fun q2 h1 h2 h3 => ?_⟩⟩
  · obtain ⟨lot, hlot⟩ := List.exists_mem_of_ne_nil _ hne
    obtain ⟨g1, g2⟩ := List.mem_filter.mp hlot
    obtain ⟨q2, q21, q22, rfl⟩ := mem_withinOf.mp g1
    exact cd_cons_le ((lq.trans ls.symm).trans q21.symm) (come_sm O hq) (come_sm O q22) (cand h2 q21 q22 g2)
  · obtain ⟨g1, g2⟩ := List.mem_filter.mp h3
    exact (cd_cons_same ((lq.trans ls.symm).trans h1.symm)).mp (cand ((mem_topsOf O).mpr ht') h1 h2 g2)
end G

/-! Q10 -/
set_option Elab.async false
set_option linter.all false
set_option maxRecDepth 100000
set_option maxHeartbeats 1000000
namespace G
open PySem L2
theorem levs_get {m : Mach} {come : List Nat} : ∀ {ss : List Nat} {i s : Nat} {r : List Nat}, ss.drop i = s :: r → (levs m come ss)[i]? = some (levelOf m come s (withinOf m come r))
  | [], i, s, r, h => by simp at h
  | a :: ss, 0, s, r, h => by
    have h : a :: ss = s :: r := h
    obtain ⟨rfl, rfl⟩ := List.cons.inj h
    rfl
  | a :: ss, i + 1, s, r, h => by
    rw [levs, List.getElem?_cons_succ]
    exact levs_get (by simpa using h)
section
variable {P : Program} {w : World} {K : PySem.W.Frag} {mg : Str → Option Value} {base : Heap} {f : Addr} {fd : FuncData}
def R_least (ds : List D) (z : D) : Prop := ∃ (m : Mach) (d : Nat) (S T : List Nat), m.Ok ∧ d ≤ 40 ∧ CS m d S ∧ IsLeast m d S T ∧ (ds = [machD m, tN S] ∨ ds = [machD m, .lst (S.map nI)]) ∧ z = tN T
def R_least_stacks (ds : List D) (z : D) : Prop := ∃ (m : Mach) (d : Nat), m.Ok ∧ d ≤ 3 ∧ (ds = [machD m, nI d, nI 200] ∨ ds = [.lst (parts m), nI d, nI 200]) ∧ z = .tup ((leastsOf m d).map tN)
theorem f_least (m : MG mg) (C1 : Callee P w K mg base 6 "check_machine" 1 R_check_machine) (C2 : Callee P w K mg base 8 "need_come" 2 R_need_come) (C3 : Callee P w K mg base 3 "all_lots" 2 R_all_lots) (C4 : Callee P w K mg base 3 "least_top" 3 R_least_top) (C5 : Callee P w K mg base 1 "least_inner" 2 R_least_inner) (F : FnP K "least" 47 f fd) : FnOk P w K mg base CX0 9 f fd ["machine", "stack"] (PSp w 2 R_least) :=
  fn_pure (ps := ["machine", "stack"]) (k := 8) (N := ["machine", "stack", "told", "line", "levels", "outermost", "top", "wanted", "found", "level", "state", "key"]) F ⟨rfl, rfl, rfl, by decide +kernel, rfl, by decide +kernel, by decide +kernel⟩ (by
    rintro cdv A outer s H E ds z hr hl ⟨M, d, S, T, O, hd40, hS, hL, hds, rfl⟩
    have nd : (["machine", "stack", "told", "line", "levels", "outermost", "top", "wanted", "found", "level", "state", "key"] : List Str).Nodup := by decide +kernel
    have hu := room65 hr
    have i2 := O.im2
    have t3 := O.tm3
    have lc := come_len O
    obtain ⟨t, ss, rfl⟩ : ∃ t ss, S = t :: ss := by
      cases S with
      | nil => exact absurd rfl hS.ne
      | cons t ss => exact ⟨t, ss, rfl⟩
    have hT := (mem_stacksOf O).mp hL.mem
    obtain ⟨t', q, rfl⟩ : ∃ t q, T = t :: q := by
      cases T with
      | nil => exact absurd rfl hT.ne
      | cons t ss => exact ⟨t, ss, rfl⟩
    have ls : ss.length = d := by have := hS.len; simpa using this
    have lq : q.length = d := by have := hT.len; simpa using this
    have hs : ∀ s ∈ ss, s < M.im := fun s hs' => (hS.tl s hs').lt O
    obtain ⟨g1, g2, g3⟩ := hL.start O hS
    have hwo := withinOf_ok O (come_lt O) hs
    have hwl := withinOf_len (m := M) (come := come M) (ss := ss)
    have hft : (withinOf M (come M) ss).filter (fitsB M t t') ≠ [] := fun e => by
      have := g3.w
      rw [e] at this
      simp at this
    have tail : ∀ st : D, DB (Bx P w K mg base ["machine", "stack", "told", "line", "levels", "outermost", "top", "wanted", "found", "level", "state", "key"] "least" (defScope (top 47)) f cdv A outer s H E) [some (machD M), some st, some (machD M), some (tN (t :: ss)), none, none, none, none, none, none, none, none] [] ((defBody (top 47)).drop 2) (retP (tN (t' :: q))) := by
      intro st
      refine db_cons (ds_set (i := 4) (ca2 C3 hr (by decide) (de_var 2 rfl) (de_var 3 rfl) ⟨M, t, ss, O, hs, by omega, rfl, rfl⟩) ?_ nd)
      refine db_cons (ds_set (i := 5) (ω1 := []) (d := .lst ((withinOf M (come M) ss).map lotD)) ?_ ?_ nd)
      · cases ss with
        | nil =>
          refine de_if (k := false) (ω1 := []) ?_ (fun h => nomatch h) (fun _ => ?_)
          · exact EvT.is (dt_gt (lenL m (de_var 4 rfl)) de_int) rfl
          · exact de_lst (da_1 de_non) (by show 1 ≤ 100000; decide)
        | cons x r =>
          have hrs : ∀ y ∈ r, y < M.im := fun y hy => hs y (List.mem_cons_of_mem _ hy)
          have ndk := levelOf_nodup (m := M) (s := x) (come := come M) come_nd (withinOf_nodup (m := M) (come := come M) (ss := r))
          obtain ⟨L, hLv⟩ : ∃ L, levelOf M (come M) x (withinOf M (come M) r) = L := ⟨_, rfl⟩
          rw [hLv] at ndk
          have lL : L.length ≤ 512 * 2 := by
            rw [← hLv, levelOf_len]
            exact Nat.mul_le_mul withinOf_len (by omega)
          have eLv : (levs M (come M) (x :: r)).reverse.map levelD = (levs M (come M) r).reverse.map levelD ++ [levelD L] := by
            rw [levs, List.reverse_cons, List.map_append, hLv]; rfl
          have ix : L2.atI ((levs M (come M) (x :: r)).reverse.map levelD) (-1) = some (levelD L) := by rw [eLv]; exact atI_last _ _
          refine de_if (k := true) (ω1 := []) ?_ (fun _ => ?_) (fun h => nomatch h)
          · refine EvT.is (dt_gt (lenL m (de_var 4 rfl)) de_int) ?_
            rw [eLv, List.length_append]
            exact decide_eq_true (by rw [List.length_cons]; omega)
          · refine EvP.is (lstK m (do_dc (own := [("key", 11)]) (f := valD L) rfl (lt16 hu) nd (di_keysT (ks := L.map fun e => keyD e.1) (xs := L.map fun e => lotD (some e.2)) (de_ixL ix (de_var 4 rfl) (de_neg de_int))) (blkOk_by (by show blkC ["machine", "stack", "told", "line", "levels", "outermost", "top", "wanted", "found", "level", "state", "key"] (defScope (top 47)) _ _ = true; decide +kernel)) no_om (by rw [List.length_map]; omega) (fun d hd => ?_) (fun d hd => ?_)).dataD).data ?_
            · obtain ⟨e, he, rfl⟩ := List.mem_map.mp hd
              rw [valD_mem ndk he]
              exact lotD_kOk _
            · obtain ⟨e, he, rfl⟩ := List.mem_map.mp hd
              refine ⟨_, [11], by simp, fun _ _ _ _ _ => dg_name 11 nd, fun _ _ _ _ _ => EvP.is (de_ixD (lt16 hu) (level_nk ndk) (fun d hd => ?_) rfl (level_ix he) (de_ixL ix (de_var 4 rfl) (de_neg de_int)) (de_var 11 rfl)) (valD_mem ndk he).symm⟩
              obtain ⟨e', _, rfl⟩ := List.mem_map.mp hd
              exact keyD_kOk _
            · rw [level_vals ndk, withinOf, hLv]
      refine db_cons (ds_unpack (ca3 C4 hr (by decide) (de_var 2 rfl) (de_ixT (atN (j := 0) rfl) (de_var 3 rfl) de_int) (de_var 5 rfl) ⟨M, t, t', withinOf M (come M) ss, O, hS.hd.lt O, hwo, hwl, g1, hft, g2, rfl, rfl⟩) (dg_tup rfl (dgs_cons (i := 6) (dgs_cons (i := 7) dgs_nil nd) nd)) ?_)
      refine db_cons (ds_set (i := 8) (de_tup (da_1 (de_var 6 rfl)) (by show 1 ≤ 100000; decide)) ?_ nd)
      refine db_cons (ds_for (EvI.is (di_list (de_revL (de_var 4 rfl))) (show ((levs M (come M) ss).reverse.map levelD).reverse = (levs M (come M) ss).map levelD by rw [← List.map_reverse, List.reverse_reverse])) (fun i ρ ω => ∃ (W : List (Option Lot)) (a b : Option D), ρ = [some (machD M), some st, some (machD M), some (tN (t :: ss)), some (.lst ((levs M (come M) ss).reverse.map levelD)), some (.lst ((withinOf M (come M) ss).map lotD)), some (nI t'), some (.lst (W.map lotD)), some (tN (t' :: q.take i)), a, b, none] ∧ ω = [] ∧ W.length ≤ 2000 ∧ LeastIn M (ss.drop i) W (q.drop i))
        ⟨_, none, none, rfl, rfl, by have := List.length_filter_le (fitsB M t t') (withinOf M (come M) ss); omega, g3⟩ ?_ ?_ rfl PySem.PassesOwn.never)
      · rintro i d ρ ω hd ⟨W, a, b, rfl, rfl, hW, LI⟩
        rw [List.getElem?_map] at hd
        have hil : i < ss.length := by
          cases hx : (levs M (come M) ss)[i]? with
          | none => rw [hx] at hd; cases hd
          | some L =>
            have := (List.getElem?_eq_some_iff.mp hx).1
            rwa [levs_len] at this
        have e1 : ss.drop i = ss[i] :: ss.drop (i + 1) := List.drop_eq_getElem_cons hil
        have hiq : i < q.length := by omega
        have e2 : q.drop i = q[i] :: q.drop (i + 1) := List.drop_eq_getElem_cons hiq
        rw [levs_get e1] at hd
        cases hd
        rw [e1, e2] at LI
        obtain ⟨s1, s2, s3⟩ := LI.step O
        have ndk := levelOf_nodup (m := M) (s := ss[i]) (come := come M) come_nd (withinOf_nodup (m := M) (come := come M) (ss := ss.drop (i + 1)))
        have lL : (levelOf M (come M) ss[i] (withinOf M (come M) (ss.drop (i + 1)))).length ≤ 512 * 2 := by
          rw [levelOf_len]
          exact Nat.mul_le_mul withinOf_len (by omega)
        refine ⟨_, [9], dg_name 9 nd, ?_⟩
        refine db_cons (ds_unpack (ca2 C5 hr (by decide) (de_var 9 rfl) (de_var 7 rfl) ⟨_, W, q[i], ndk, by omega, hW, s1, s2, rfl, rfl⟩) (dg_tup rfl (dgs_cons (i := 10) (dgs_cons (i := 7) dgs_nil nd) nd)) ?_)
        refine db_one (ds_augT (i := 8) (l := (t' :: q.take i).map nI) (l2 := [nI q[i]]) rfl (de_tup (da_1 (de_var 10 rfl)) (by show 1 ≤ 100000; decide)) (by simp) (by simp) (by simp; omega) ?_ nd)
        refine ⟨((hits (levelOf M (come M) ss[i] (withinOf M (come M) (ss.drop (i + 1)))) W).filter fun e => decide (e.1.2 = q[i])).map fun e => e.1.1, some (levelD (levelOf M (come M) ss[i] (withinOf M (come M) (ss.drop (i + 1))))), some (nI q[i]), ?_, rfl, ?_, s3⟩
        · have e3 : (t' :: q.take i).map nI ++ [nI q[i]] = (t' :: q.take (i + 1)).map nI := by
            rw [take_next (List.getElem?_eq_getElem hiq)]
            show nI t' :: ((q.take i).map nI ++ [nI q[i]]) = nI t' :: (q.take i ++ [q[i]]).map nI
            rw [List.map_append]
            rfl
          rw [e3, List.map_map]
          rfl
        · rw [List.length_map]
          refine Nat.le_trans (List.length_filter_le _ _) ?_
          unfold hits
          refine Nat.le_trans (List.length_filter_le _ _) (by omega)
      · rintro ρ ω ⟨W, a, b, rfl, rfl, hW, LI⟩
        rw [List.length_map, levs_len, show ss.length = q.length by omega, List.take_length]
        exact db_one (ds_ret (de_var 8 rfl) rfl)
    rcases hds with rfl | rfl
    · refine db_cons (ds_set (i := 2) (ca1 C1 hr (by decide) (de_var 0 rfl) ⟨M, O, .inl rfl, rfl⟩) ?_ nd)
      refine db_cons (ds_set (i := 3) (ca2 C2 hr (by decide) (de_var 2 rfl) (de_var 1 rfl) ⟨M, t :: ss, O, hS.come (by omega), .inl rfl, rfl⟩) ?_ nd)
      exact tail _
    · refine db_cons (ds_set (i := 2) (ca1 C1 hr (by decide) (de_var 0 rfl) ⟨M, O, .inl rfl, rfl⟩) ?_ nd)
      refine db_cons (ds_set (i := 3) (ca2 C2 hr (by decide) (de_var 2 rfl) (de_var 1 rfl) ⟨M, t :: ss, O, hS.come (by omega), .inr rfl, rfl⟩) ?_ nd)
      exact tail _)
theorem c_least (F : FnP K "least" 47 f fd) (g : mg "least" = some (.ref f)) (h : FnOk P w K mg base CX0 9 f fd ["machine", "stack"] (PSp w 2 R_least)) : Callee P w K mg base 9 "least" 2 R_least :=
  callee (ps := ["machine", "stack"]) F g h (fun _ _ _ _ _ _ us hl => match us, hl with | [_, _], _ => rfl)
end
end G

/-! Q11 -/
set_option Elab.async false
set_option linter.all false
set_option maxRecDepth 100000
set_option maxHeartbeats 1000000
namespace G
open PySem L2
theorem kbn_of {K : PySem.W.Frag} {x : Str} {i : Nat} {f : Addr} {fd : FuncData} {ps ks : List Str} {n : Nat} {g : {α : Type} → List α → List α → List α} (F : FnP K x i f fd) (hrel : ∀ {vs zs : List V} {us ws : List Value}, Vals vs us → Vals zs ws → Vals (g vs zs) (g us ws))
    (hb : ∀ (kV doc pm : Value) (an : Option Addr) (cdv ct : Value) (us ws : List Value), us.length = n → ws.length = ks.length → bindArgs (PySem.W.fnOf x x (defArgs (top i)) (defBody (top i)) (defScope (top i)) .none kV doc pm an cdv ct) ⟨us, ks.zip ws⟩ = pure (ps.zip (g us ws))) : KBn K fd ps n ks (fun us ws => g us ws) (fun vs zs => g vs zs) := by
  obtain ⟨oc, od, dV, kV, doc, pm, an, cdv, ct, osl, rfl, lk, hcd, hD, hK⟩ := F.ex
  rcases hD with ⟨_, rfl⟩ | ⟨e, _⟩
  · exact ⟨fun s us ws _ l1 l2 => .of_eq (hb kV doc pm an cdv ct us ws l1 l2), fun r1 r2 => hrel r1 r2⟩
  · exact absurd rfl e
section
variable {X : Cx} {ρ : Rho} {ω ω1 : Om} {e : Expr} {d : D} {pos : Pos} {T : Post}
theorem ds_expr (h : DE X ρ ω ω1 e d) (k : T.nx ρ ω1) (hs : swapsWith e none pos.line X.env = pure false := by rfl) : DS X ρ ω (.Expr e pos) T :=
  ds_of (ps_expr sem_e hs) fun B F H σ Dn W M => h.go W fun v F1 H1 W1 _ _ r => M.nx _ _ F1 H1 σ k W1
end
section
variable {P : Program} {w : World} {K : PySem.W.Frag} {mg : Str → Option Value} {base : Heap} {f : Addr} {fd : FuncData}
/-- least(stack = .., machine = ..) -/
theorem v_least (F : FnP K "least" 47 f fd) (g : mg "least" = some (.ref f)) (h : FnOk P w K mg base CX0 9 f fd ["machine", "stack"] (PSp w 2 R_least)) : CalleeV P w K mg base 9 "least" 2 ["stack", "machine"] R_least :=
  ⟨f, fd, ["machine", "stack"], rfl, rfl, h, g, F.kp, kbn_of (ps := ["machine", "stack"]) (g := fun _ ws => ws.reverse) F (fun _ r => r.reverse) fun _ _ _ _ _ _ us ws h1 h2 => match us, ws, h1, h2 with | [], [_, _], _, _ => rfl⟩
theorem k_least_stacks (F : FnP K "least_stacks" 48 f fd) (g : mg "least_stacks" = some (.ref f)) (h : FnOk P w K mg base CX0 10 f fd ["machine", "depth", "most"] (PSp w 3 R_least_stacks)) : CalleeK P w K mg base 10 "least_stacks" "most" R_least_stacks :=
  ⟨f, fd, ["machine", "depth", "most"], rfl, h, g, F.kp, kbn_of (ps := ["machine", "depth", "most"]) (g := fun us ws => us ++ ws) F (fun r1 r2 => r1.append r2) fun _ _ _ _ _ _ us ws h1 h2 => match us, ws, h1, h2 with | [_, _], [_], _, _ => rfl⟩
theorem v_least_stacks (F : FnP K "least_stacks" 48 f fd) (g : mg "least_stacks" = some (.ref f)) (h : FnOk P w K mg base CX0 10 f fd ["machine", "depth", "most"] (PSp w 3 R_least_stacks)) : CalleeV P w K mg base 10 "least_stacks" 3 ["most", "depth", "machine"] R_least_stacks :=
  ⟨f, fd, ["machine", "depth", "most"], rfl, rfl, h, g, F.kp, kbn_of (ps := ["machine", "depth", "most"]) (g := fun _ ws => ws.reverse) F (fun _ r => r.reverse) fun _ _ _ _ _ _ us ws h1 h2 => match us, ws, h1, h2 with | [], [_, _, _], _, _ => rfl⟩
theorem encTN : Enc tN := ⟨fun l => eqOk_tup fun d hd => by
  obtain ⟨b, _, rfl⟩ := List.mem_map.mp hd
  exact ⟨rfl, by show 0 ≤ 7; decide⟩, fun a b h => nks_map encN.inj (NestedKey.tup.inj h)⟩
theorem tN_kOk (l : List Nat) : kOk (tN l) ∧ isTup (tN l) = true := ⟨⟨keyishs_of fun d hd => by
  obtain ⟨b, _, rfl⟩ := List.mem_map.mp hd
  rfl, (encTN.ok l).dp⟩, rfl⟩
theorem cs_code {m : Mach} (O : m.Ok) {d : Nat} {S : List Nat} (h : CS m d S) : CodeOk 64 (d + 1) (sI S) := ⟨by rw [sI_len, h.len], sm_bd (h.sm O)⟩
theorem map_tN_sI (l : List (List Nat)) : l.map tN = (l.map sI).map dTI := by
  rw [List.map_map]
  exact List.map_congr_left fun S _ => (sI_D S).symm
theorem asc_sI {l : List (List Nat)} (h : l.Pairwise fun S T => cd S < cd T) : (l.map sI).Pairwise fun a b => TS.code 64 a ≤ TS.code 64 b := List.pairwise_map.mpr (h.imp fun h => Int.le_of_lt h)
theorem f_least_stacks (m : MG mg) (C1 : Callee P w K mg base 6 "check_machine" 1 R_check_machine) (C2 : Callee P w K mg base 3 "need_depth" 1 R_need_depth) (C3 : Callee P w K mg base 1 "inner_come" 1 R_inner_come) (C4 : Callee P w K mg base 1 "top_come" 2 R_top_come) (C5 : Callee P w K mg base 9 "least" 2 R_least) (F : FnP K "least_stacks" 48 f fd) : FnOk P w K mg base CX0 10 f fd ["machine", "depth", "most"] (PSp w 3 R_least_stacks) :=
  fn_pure (ps := ["machine", "depth", "most"]) (k := 9) (N := ["machine", "depth", "most", "told", "come", "found", "turn", "longer", "state", "stack"]) F ⟨rfl, rfl, rfl, by decide +kernel, rfl, by decide +kernel, by decide +kernel⟩ (by
    rintro cdv A outer s H E ds z hr hl ⟨M, d, O, hd3, hds, rfl⟩
    have nd : (["machine", "depth", "most", "told", "come", "found", "turn", "longer", "state", "stack"] : List Str).Nodup := by decide +kernel
    have hu := room65 hr
    have i2 := O.im2
    have t3 := O.tm3
    have lc := come_len O
    have tail : ∀ mc : D, DB (Bx P w K mg base ["machine", "depth", "most", "told", "come", "found", "turn", "longer", "state", "stack"] "least_stacks" (defScope (top 48)) f cdv A outer s H E) [some mc, some (nI d), some (nI 200), some (machD M), none, none, none, none, none, none] [] ((defBody (top 48)).drop 1) (retP (.tup ((leastsOf M d).map tN))) := by
      intro mc
      refine db_cons (ds_expr (ca1 C2 hr (by decide) (de_var 1 rfl) ⟨d, rfl, rfl⟩) ?_)
      refine db_cons (ds_set (i := 4) (EvP.is (srtI (ns := (innCome M).map fun (n : Nat) => (n : Int)) (ms := (come M).map fun (n : Nat) => (n : Int)) m (EvP.is (ca1 C3 hr (by decide) (de_var 3 rfl) ⟨M, O, rfl, rfl⟩) (congrArg D.lst (map_nI_int _))) (come_perm O) (asc_int come_asc)) (congrArg D.lst (map_nI_int _).symm)) ?_ nd)
      have hci : ∀ o, o ∈ come M ↔ InnR M o := fun o => mem_come O
      have ltc : (topCome M (come M)).length ≤ M.tm := ((topCome_ok O fun o h => (hci o).mp h).1).len O
      have cs0 : ∀ t ∈ topCome M (come M), CS M 0 [t] := fun t ht => ⟨rfl, (mem_topCome O hci).mp ht, fun x hx => by simp at hx⟩
      -- a list of stacks, one of each class: their leasts
      have srt : ∀ (n : Nat) (l : List (List Nat)), n ≤ 3 → (∀ S ∈ l, CS M n S) → (∀ T ∈ leastsOf M n, ∃ S ∈ l, Alk M S T) → ((leastsOf M n).map sI).Perm ((ddU (l.map (lst M n))).map sI) := fun n l _ h1 h2 => (leasts_perm O h1 h2).map sI
      have dl : ∀ (n : Nat) (l : List (List Nat)), (∀ S ∈ l, CS M n S) → ∀ x ∈ (ddU (l.map (lst M n))).map sI, CodeOk 64 (n + 1) x := fun n l h1 x hx => by
        obtain ⟨T, hT, rfl⟩ := List.mem_map.mp hx
        rw [mem_ddU, List.mem_map] at hT
        obtain ⟨S, hS, rfl⟩ := hT
        exact cs_code O ((mem_stacksOf O).mp (lst_ok O (h1 S hS)).mem)
      have dlen : ∀ (n : Nat) (l : List (List Nat)), n ≤ 3 → (∀ S ∈ l, CS M n S) → (∀ T ∈ leastsOf M n, ∃ S ∈ l, Alk M S T) → ((ddU (l.map (lst M n))).map sI).length < 64 := fun n l hn h1 h2 => by
        rw [List.length_map, ← (leasts_perm O h1 h2).length_eq]
        have h3 := leastsOf_len O (d := n)
        have : 2 ^ n ≤ 2 ^ 3 := Nat.pow_le_pow_right (by decide) hn
        omega
      have e0 : ddK (((topCome M (come M)).map nI).map fun d => tN (lst M 0 [unN d])) = (ddU (((topCome M (come M)).map fun t => [t]).map (lst M 0))).map tN := by
        rw [List.map_map, ← ddK_enc encTN, List.map_map, List.map_map]
        rfl
      have h01 : ∀ S ∈ (topCome M (come M)).map (fun t => [t]), CS M 0 S := fun S hS => by
        obtain ⟨t, ht, rfl⟩ := List.mem_map.mp hS
        exact cs0 t ht
      have h02 : ∀ T ∈ leastsOf M 0, ∃ S ∈ (topCome M (come M)).map (fun t => [t]), Alk M S T := fun T hT => by
        have h := (mem_leastsOf.mp hT).mem
        obtain ⟨t, ht, rfl⟩ := List.mem_map.mp h
        exact ⟨[t], List.mem_map.mpr ⟨t, (mem_topCome O hci).mpr ((mem_topsOf O).mp ht), rfl⟩, Alk.refl _⟩
      refine db_cons (ds_set (i := 5) (d := .lst ((leastsOf M 0).map tN)) (EvP.is (srtT (B := 64) (n := 1) (ls := (ddU (((topCome M (come M)).map fun t => [t]).map (lst M 0))).map sI) (ms := (leastsOf M 0).map sI) m (EvP.is (lstK m (do_dc (own := [("state", 8)]) (f := fun d => tN (lst M 0 [unN d])) rfl (lt16 hu) nd (di_list (ca2 C4 hr (by decide) (de_var 3 rfl) (de_var 4 rfl) ⟨M, come M, O, fun o h => (hci o).mp h, by omega, rfl, rfl⟩)) (blkOk_by (by show blkC ["machine", "depth", "most", "told", "come", "found", "turn", "longer", "state", "stack"] (defScope (top 48)) _ _ = true; decide +kernel)) no_om (by rw [List.length_map]; omega) (fun d hd => tN_kOk _) (fun d hd => ?_)).dataD).data ?_)
        (by decide) (dl 0 _ h01) (dlen 0 _ (by decide) h01 h02) (srt 0 _ (by decide) h01 h02) (asc_sI (leastsOf_asc O))) ?_) ?_ nd)
      · obtain ⟨t, ht, rfl⟩ := List.mem_map.mp hd
        exact ⟨_, [8], by simp, fun _ _ _ _ _ => dg_name 8 nd, fun _ _ _ _ _ => ca2 C5 hr (by decide) (de_var 3 rfl) (de_tup (da_1 (de_var 8 rfl)) (by show 1 ≤ 100000; decide)) ⟨M, 0, [t], lst M 0 [t], O, by decide, cs0 t ht, lst_ok O (cs0 t ht), .inl rfl, rfl⟩⟩
      · rw [e0, map_tN_sI]
      · show D.lst (((leastsOf M 0).map sI).map dTI) = D.lst ((leastsOf M 0).map tN)
        rw [map_tN_sI]
      refine db_cons (ds_for (rng1 m (de_var 1 rfl) ⟨by omega, by omega⟩) (fun i ρ ω => ∃ (a b c e : Option D), ρ = [some mc, some (nI d), some (nI 200), some (machD M), some (.lst ((come M).map nI)), some (.lst ((leastsOf M i).map tN)), a, b, none, none] ∧ ω = [] ∧ i ≤ d)
        ⟨none, none, none, none, rfl, rfl, Nat.zero_le _⟩ ?_ ?_ rfl PySem.PassesOwn.never)
      · rintro i x ρ ω hx ⟨a, b, _, _, rfl, rfl, hid⟩
        have hil : i < d := by
          have := (List.getElem?_eq_some_iff.mp hx).1
          rw [rngD_len] at this
          omega
        refine ⟨_, [6], dg_name 6 nd, ?_⟩
        have lle := leastsOf_len O (d := i)
        have p2 : 2 ^ i ≤ 2 ^ 2 := Nat.pow_le_pow_right (by decide) (by omega)
        obtain ⟨LL, hLL⟩ : ∃ LL, (leastsOf M i).flatMap (fun S => (come M).map fun c => S ++ [c]) = LL := ⟨_, rfl⟩
        have hLlen : LL.length ≤ 24 := by
          have : LL.length = (leastsOf M i).length * (come M).length := by
            rw [← hLL]
            induction leastsOf M i with
            | nil => simp
            | cons S l ih => rw [List.flatMap_cons, List.length_append, ih, List.length_map, List.length_cons, Nat.add_mul, Nat.one_mul, Nat.add_comm]
          rw [this]
          exact Nat.le_trans (Nat.mul_le_mul (show _ ≤ 12 by omega) (show (come M).length ≤ 2 by omega)) (by decide)
        have h1 : ∀ S ∈ LL, CS M (i + 1) S := fun S hS => by
          rw [← hLL] at hS
          obtain ⟨S0, h3, h4⟩ := List.mem_flatMap.mp hS
          obtain ⟨c, hc, rfl⟩ := List.mem_map.mp h4
          exact (leastsOf_cs O h3).push ((hci c).mp hc)
        have h2 : ∀ T ∈ leastsOf M (i + 1), ∃ S ∈ LL, Alk M S T := fun T hT => by rw [← hLL]; exact leasts_push O hT
        have eLL : ((leastsOf M i).map tN).flatMap (fun d => ((come M).map nI).map fun e => D.tup (items d ++ [e])) = LL.map tN := by
          rw [← hLL, List.map_flatMap, List.flatMap_map]
          congr 1
          funext S
          rw [List.map_map, List.map_map]
          refine List.map_congr_left fun c _ => ?_
          show D.tup (S.map nI ++ [nI c]) = D.tup ((S ++ [c]).map nI)
          rw [List.map_append]; rfl
        refine db_cons (ds_setLc2 (i := 7) (own := [("stack", 9), ("state", 8)]) (vs1 := [8]) (EvO.is (ev_lc2 (own := [("stack", 9), ("state", 8)]) (vs1 := [8]) (ys := fun _ => (come M).map nI) (f := fun d e => D.tup (items d ++ [e])) (di_list (de_var 5 rfl)) no_om (by simp) (by rw [eLL, List.length_map]; omega) (fun d hd => ?_)) (congrArg Own.lst eLL)) ?_ rfl nd (blkOk_by (by show blkC ["machine", "depth", "most", "told", "come", "found", "turn", "longer", "state", "stack"] (defScope (top 48)) _ _ = true; decide +kernel)) (by simp))
        · obtain ⟨S, hS, rfl⟩ := List.mem_map.mp hd
          have lS := (leastsOf_cs O hS).len
          refine ⟨_, [9], by simp, fun _ _ _ _ _ => dg_name 9 nd, fun _ _ _ _ _ => di_list (de_var 4 rfl), fun e he => ?_⟩
          obtain ⟨c, hc, rfl⟩ := List.mem_map.mp he
          exact ⟨_, [8], by simp, fun _ _ _ _ _ => dg_name 8 nd, fun _ _ _ _ _ => de_catT (by show (S.map nI).length + 1 ≤ 100000; rw [List.length_map, lS]; omega) (de_var 9 rfl) (de_tup (da_1 (de_var 8 rfl)) (by show 1 ≤ 100000; decide))⟩
        refine db_cons (ds_skip (EvT.is (dt_gt (lenL m (de_var 7 rfl)) (de_var 2 rfl)) (by rw [List.length_map]; exact decide_eq_false (by omega))) ?_)
        have e1 : ddK ((LL.map tN).map fun d => tN (lst M (i + 1) (unL d))) = (ddU (LL.map (lst M (i + 1)))).map tN := by
          rw [List.map_map, ← ddK_enc encTN, List.map_map]
          congr 1
          exact List.map_congr_left fun S _ => by show tN (lst M (i + 1) (unL (tN S))) = tN (lst M (i + 1) S); rw [unL_tN]
        refine db_one (ds_set (i := 5) (d := .lst ((leastsOf M (i + 1)).map tN)) (EvP.is (srtT (B := 64) (n := i + 2) (ls := (ddU (LL.map (lst M (i + 1)))).map sI) (ms := (leastsOf M (i + 1)).map sI) m (EvP.is (lstK m (do_dc (own := [("stack", 9)]) (f := fun d => tN (lst M (i + 1) (unL d))) rfl (lt16 hu) nd (di_list (de_var 7 rfl)) (blkOk_by (by show blkC ["machine", "depth", "most", "told", "come", "found", "turn", "longer", "state", "stack"] (defScope (top 48)) _ _ = true; decide +kernel)) no_om (by rw [List.length_map]; omega) (fun d hd => tN_kOk _) (fun d hd => ?_)).dataD).data ?_)
          (by omega) (dl (i + 1) _ h1) (dlen (i + 1) _ (by omega) h1 h2) (srt (i + 1) _ (by omega) h1 h2) (asc_sI (leastsOf_asc O))) ?_) ?_ nd)
        · obtain ⟨S, hS, rfl⟩ := List.mem_map.mp hd
          exact ⟨_, [9], by simp, fun _ _ _ _ _ => dg_name 9 nd, fun _ _ _ _ _ => ca2 C5 hr (by decide) (de_var 3 rfl) (de_var 9 rfl) ⟨M, i + 1, S, lst M (i + 1) S, O, by omega, h1 S hS, lst_ok O (h1 S hS), .inl rfl, by rw [unL_tN]⟩⟩
        · rw [e1, map_tN_sI]
        · show D.lst (((leastsOf M (i + 1)).map sI).map dTI) = D.lst ((leastsOf M (i + 1)).map tN)
          rw [map_tN_sI]
        · exact ⟨_, _, none, none, rfl, rfl, hil⟩
      · rintro ρ ω ⟨a, b, _, _, rfl, rfl, _⟩
        rw [rngD_len, Int.toNat_natCast]
        exact db_one (ds_ret (tupL m (de_var 5 rfl)) rfl)
    rcases hds with rfl | rfl
    · refine db_cons (ds_set (i := 3) (ca1 C1 hr (by decide) (de_var 0 rfl) ⟨M, O, .inl rfl, rfl⟩) ?_ nd)
      exact tail (machD M)
    · refine db_cons (ds_set (i := 3) (ca1 C1 hr (by decide) (de_var 0 rfl) ⟨M, O, .inr rfl, rfl⟩) ?_ nd)
      exact tail (.lst (parts M)))
end
end G

/-! R1 -/
set_option Elab.async false
set_option linter.all false
set_option maxRecDepth 100000
set_option maxHeartbeats 1000000
namespace G
open PySem L2
/-! ## A list that is handed to a def, and is changed there; a list that is handed back -/
def boxO : Option Addr → List D → Own
  | none, l => .lst l
  | some b, l => .box b l
theorem boxO_at {w : World} {F H : Hp} {a : Addr} {k : Option Addr} {l : List D} : OwnAt w F H a (boxO k l) ↔ (∀ b, k = some b → a = b) ∧ F a = none ∧ ∃ vs, H a = some (.lst vs) ∧ RpL w F l vs := by
  cases k with
  | none => exact ⟨fun h => ⟨fun b e => (nomatch e), h⟩, fun h => h.2⟩
  | some b => exact ⟨fun h => ⟨fun c e => by cases e; exact h.1, h.2⟩, fun h => ⟨h.1 b rfl, h.2⟩⟩
theorem RpL.set {w : World} {F : Hp} {d : D} {v : V} (q : Rp w F d v) : ∀ {l : List D} {vs : List V} {i : Nat}, RpL w F l vs → RpL w F (l.set i d) (vs.set i v)
  | _, _, _, .nil => .nil
  | _, _, 0, .cons r t => .cons q t
  | _, _, i + 1, .cons r t => .cons r (RpL.set q t)
theorem Wd.grown {w : World} {B : Base} {F H F' H' : Hp} {σ : St} {ρ : Rho} {ω : Om} (W : Wd w B F H σ ρ ω) (g : Grow ⟨F, H, fun _ => False⟩ F' H') : Wd w B F' H' σ ρ ω := by
  have keepH : ∀ a o, H a = some o → H' a = some o := fun a o e => g.h a o (fun z => z) e
  have gm : ∀ a, owned σ ω a → H' a ≠ none ∧ F' a = none := fun a ha => by
    obtain ⟨h1, h2⟩ := W.there ha
    refine ⟨?_, g.n a h1 h2⟩
    cases q2 : H a with
    | none => exact absurd q2 h1
    | some o => rw [keepH a o q2]; simp
  have gW : Grow (cur F H σ ω) F' H' := ⟨g.f, fun a o _ e => keepH a o e, g.s, g.n, gm⟩
  have oW : ∀ p ∈ ω, ∃ a, σ[p.1]? = some (some (.ref a)) ∧ OwnAt w F' H' a p.2 ∧ ((cur F H σ ω).M a ∨ (cur F H σ ω).H a = none) := fun q hq => by
    obtain ⟨b, e1, x1, y1⟩ := W.own q hq
    have hb : H' b = H b := by
      cases q2 : H b with
      | none => exact absurd q2 x1.there
      | some o => exact keepH b o q2
    exact ⟨b, e1, x1.mono g.f hb (g.n b x1.there x1.fr), .inl ⟨q, hq, e1⟩⟩
  have W' : Wd w (cur F H σ ω) F' H' σ ρ ω := ⟨gW, W.len, fun i x e => let ⟨v, e1, r⟩ := W.dat i x e; ⟨v, e1, r.mono g.f⟩, oW, W.apart⟩
  exact W.back W'
theorem Wd.grown1 {w : World} {B : Base} {F H F' H' : Hp} {σ : St} {ρ : Rho} {ω : Om} {i : Nat} {a : Addr} {o o' : Own} (W : Wd w B F H σ ρ ω) (hm : (i, o) ∈ ω) (ha : σ[i]? = some (some (.ref a))) (g : Grow ⟨F, H, fun x => x = a⟩ F' H') (ho : OwnAt w F' H' a o') : Wd w B F' H' σ ρ (oset ω i o') := by
  have ow : owned σ ω a := ⟨_, hm, ha⟩
  have keepH : ∀ b u, b ≠ a → H b = some u → H' b = some u := fun b u n e => g.h b u n e
  have keepH' : ∀ b, b ≠ a → H b ≠ none → H' b = H b := fun b n e => by
    cases q2 : H b with
    | none => exact absurd q2 e
    | some o => exact keepH b o n q2
  have gm : ∀ b, owned σ ω b → H' b ≠ none ∧ F' b = none := fun b hb => by
    by_cases q : b = a
    · subst q; exact g.m b rfl
    · obtain ⟨h1, h2⟩ := W.there hb
      exact ⟨by rw [keepH' b q h1]; exact h1, g.n b h1 h2⟩
  have gW : Grow (cur F H σ ω) F' H' := ⟨g.f, fun b u n e => keepH b u (fun z => n (by rw [z]; exact ow)) e, g.s, g.n, gm⟩
  have W' : Wd w (cur F H σ ω) F' H' σ ρ (oset ω i o') := by
    refine ⟨gW, W.len, fun i x e => let ⟨v, e1, r⟩ := W.dat i x e; ⟨v, e1, r.mono g.f⟩, fun p hp => ?_, pw_oset (S := fun p q => ∀ a, σ[p]? = some (some (.ref a)) → σ[q]? ≠ some (some (.ref a))) W.apart⟩
    rcases mem_oset hp with ⟨e, _⟩ | ⟨h1, h2⟩
    · subst e; exact ⟨a, ha, ho, .inl ow⟩
    · obtain ⟨b, e, r, y⟩ := W.own p h1
      have n : b ≠ a := fun z => by
        subst z
        exact W.apart' hm h1 (fun z => h2 z.symm) ha e
      exact ⟨b, e, r.mono g.f (keepH' b n r.there) (g.n b r.there r.fr), .inl ⟨p, h1, e⟩⟩
  exact W.back W'
/-- a def whose first value is a list that it changes: R list values result list-behind -/
def PSb (w : World) (n : Nat) (R : List D → List D → D → List D → Prop) : Sp := fun vs H Q _ => vs.length = n ∧ ∃ F b rest l ds z l' us, vs = V.ref b :: rest ∧ Ex F H ∧ F b = none ∧ H b = some (.lst us) ∧ RpL w F l us ∧ RpL w F ds rest ∧ R l ds z l' ∧
  ∀ v F' H', Grow ⟨F, H, fun x => x = b⟩ F' H' → Rp w F' z v → OwnAt w F' H' b (.lst l') → Q v H'
structure CalleeB (P : Program) (w : World) (K : PySem.W.Frag) (mg : Str → Option Value) (base : Heap) (j : Nat) (x : Str) (n : Nat) (R : List D → List D → D → List D → Prop) : Prop where
  ex : ∃ f fd ps, ps.length = n ∧ FnOk P w K mg base CX0 j f fd ps (PSb w n R) ∧ mg x = some (.ref f) ∧ PySem.W.keepIn K (.ref f) = true ∧ Binds K fd ps []
/-- a def that hands back a new list -/
def PSo (w : World) (n : Nat) (R : List D → List D → Prop) : Sp := fun vs H Q _ => vs.length = n ∧ ∃ F ds l, Ex F H ∧ RpL w F ds vs ∧ R ds l ∧ ∀ a F' H', Grow ⟨F, H, fun _ => False⟩ F' H' → OwnAt w F' H' a (.lst l) → H a = none → Q (.ref a) H'
structure CalleeO (P : Program) (w : World) (K : PySem.W.Frag) (mg : Str → Option Value) (base : Heap) (j : Nat) (x : Str) (n : Nat) (R : List D → List D → Prop) : Prop where
  ex : ∃ f fd ps, ps.length = n ∧ FnOk P w K mg base CX0 j f fd ps (PSo w n R) ∧ mg x = some (.ref f) ∧ PySem.W.keepIn K (.ref f) = true ∧ Binds K fd ps []
theorem CalleeB.up {P : Program} {w : World} {K : PySem.W.Frag} {mg : Str → Option Value} {base : Heap} {j k : Nat} {x : Str} {n : Nat} {R : List D → List D → D → List D → Prop} (C : CalleeB P w K mg base j x n R) (h : j ≤ k) : CalleeB P w K mg base k x n R := by
  obtain ⟨f, fd, ps, hl, F, r⟩ := C.ex
  exact ⟨f, fd, ps, hl, F.mono h, r⟩
theorem CalleeO.up {P : Program} {w : World} {K : PySem.W.Frag} {mg : Str → Option Value} {base : Heap} {j k : Nat} {x : Str} {n : Nat} {R : List D → List D → Prop} (C : CalleeO P w K mg base j x n R) (h : j ≤ k) : CalleeO P w K mg base k x n R := by
  obtain ⟨f, fd, ps, hl, F, r⟩ := C.ex
  exact ⟨f, fd, ps, hl, F.mono h, r⟩
theorem PSb.use {w : World} {n : Nat} {R : List D → List D → D → List D → Prop} {B : Base} {F H : Hp} {σ : St} {ρ : Rho} {ω : Om} {vs : List V} {l ds l' : List D} {z : D} {i : Nat} {k : Option Addr} {a : Addr} {Q : VK} {E : XK} (W : Wd w B F H σ ρ ω) (hm : (i, boxO k l) ∈ ω) (ha : σ[i]? = some (some (.ref a)))
    (r : RpL w F ds vs) (hR : R l ds z l') (hn : ds.length + 1 = n) (q : ∀ v F' H', Wd w B F' H' σ ρ (oset ω i (boxO k l')) → Rp w F' z v → Q v H') : PSb w n R (.ref a :: vs) H Q E := by
  obtain ⟨a', e', oa, _⟩ := W.own _ hm
  rw [ha] at e'; cases e'
  obtain ⟨hk, fr, us, hus, rl⟩ := boxO_at.mp oa
  refine ⟨by rw [List.length_cons, r.length, hn], F, a, vs, l, ds, z, l', us, rfl, W.g.s, fr, hus, rl, r, hR, fun v F' H' g rv ov => q v F' H' (W.grown1 hm ha g ?_) rv⟩
  exact boxO_at.mpr ⟨hk, ov⟩
section
variable {X : Cx} {ρ : Rho} {ω ω1 ω2 : Om} {e a b c : Expr} {es : List Expr} {d x y z : D} {pos p p1 p2 : Pos} {l l' ds : List D} {T : Post} {n bx : Str} {m j : Nat} {k : Option Addr}
/-- f(box, ..) -/
theorem de_callX {R : List D → List D → D → List D → Prop} {o : Own} (i : Nat) (C : CalleeB X.prog X.w X.K X.mg X.base j n m R) (hr : Room j X.A) (h0 : (i, o) ∈ ω) (ha : DA X ρ ω ω1 es ds) (hm : (i, boxO k l) ∈ ω1) (hR : R l ds z l') (hg : Gl X n := by exact rfl) (hn : ds.length + 1 = m := by rfl)
    (hN : X.N[i]? = some bx := by rfl) (hv : Vis X.env.scope bx := by first | exact Or.inl rfl | exact Or.inr (Or.inl rfl) | exact Or.inr (Or.inr rfl))
    (h1 : (bx == ("__debug__" : Str)) = false := by decide) (h2 : (bx == ("__classdict__" : Str)) = false := by decide)
    (hdb : (n == ("__debug__" : Str)) = false := by decide) (he : starEach (.Name bx p1 :: es) X.env = (false, eval (.Name bx p1) X.env) :: starEach es X.env := by rfl) (hpl : (backTo pos (starEach es X.env)).any (·.1) = false := by rfl) :
    DE X ρ ω (oset ω1 i (boxO k l')) (.Call (.Name n p) (.Name bx p1 :: es) [] pos) z := by
  obtain ⟨f, fd, ps, hl, F, hmg, hk, hb⟩ := C.ex
  refine de_of (pe_call F hr hg hmg hk hb .nil pass0 (pa_cons (pe_var hN hv h1 h2) sem_a he) hdb he hpl) fun B F0 H σ W Q q => ?_
  obtain ⟨a, e1, _⟩ := W.own _ h0
  refine ⟨_, e1, ha.go W fun vs F1 H1 W1 _ _ r1 => ?_⟩
  show PSb X.w m R (.ref a :: vs ++ []) H1 Q E0
  rw [List.append_nil]
  exact PSb.use W1 hm e1 r1 hR hn q
/-- f(..), a new list -/
theorem do_call {R : List D → List D → Prop} (C : CalleeO X.prog X.w X.K X.mg X.base j n m R) (hr : Room j X.A) (hR : R ds l) (ha : DA X ρ ω ω1 (e :: es) ds) (hg : Gl X n := by exact rfl) (hn : ds.length = m := by rfl)
    (hdb : (n == ("__debug__" : Str)) = false := by decide) (he : starEach (e :: es) X.env = (false, eval e X.env) :: starEach es X.env := by rfl) (hpl : (backTo pos (starEach es X.env)).any (·.1) = false := by rfl) :
    DO X ρ ω ω1 (.Call (.Name n p) (e :: es) [] pos) (.lst l) := by
  obtain ⟨f, fd, ps, hl, F, hm, hk, hb⟩ := C.ex
  refine do_of (pe_call F hr hg hm hk hb .nil pass0 sem_a hdb he hpl) fun B F0 H σ W Q k => ha.go W fun vs F1 H1 W1 _ _ r1 => ?_
  show PSo X.w m R (vs ++ []) H1 Q E0
  rw [List.append_nil]
  refine ⟨by rw [r1.length, hn], F1, ds, l, W1.g.s, r1, hR, fun a F' H' g oa hz => ?_⟩
  have fr := W1.g.fresh hz
  exact k a F' H' (W1.grown g) ⟨oa, fr.1, fr.2.1, fun q => (W1.there q).1 hz⟩
/-- box[j] -/
theorem de_ixBox {j : Int} (i : Nat) (hm : (i, boxO k l) ∈ ω) (hj : L2.atI l j = some z) (hb : DE X ρ ω ω b (.int j)) (hN : X.N[i]? = some n := by rfl) (hv : Vis X.env.scope n := by first | exact Or.inl rfl | exact Or.inr (Or.inl rfl) | exact Or.inr (Or.inr rfl)) (hs : PlainIx b := by exact fun _ _ => rfl)
    (h1 : (n == ("__debug__" : Str)) = false := by decide) (h2 : (n == ("__classdict__" : Str)) = false := by decide) : DE X ρ ω ω (.Subscript (.Name n p1) b pos) z :=
  de_of (pe_ix ix_list (pe_var hN hv h1 h2) sem_e hs) fun B F H σ W Q q => by
    obtain ⟨a, ha, _, _⟩ := W.own _ hm
    refine ⟨_, ha, hb.go W fun u F1 H1 W1 _ _ r1 => ?_⟩
    cases r1
    obtain ⟨a', ha', oa, _⟩ := W1.own _ hm
    rw [ha] at ha'; cases ha'
    obtain ⟨_, fr, vs, hv, r⟩ := boxO_at.mp oa
    obtain ⟨v, e, qv⟩ := r.atI hj
    exact ⟨a, vs, j, v, rfl, rfl, SqL.of hv, e, q _ F1 H1 W1 qv⟩
/-- box[j] = e -/
theorem ds_setBox {j : Int} {t : Nat} (i : Nat) (h : DE X ρ ω ω1 e d) (hm : (i, boxO k l) ∈ ω1) (hj : ixN l.length j = some t) (hb : DE X ρ ω1 ω1 b (.int j)) (nx : T.nx ρ (oset ω1 i (boxO k (l.set t d)))) (hN : X.N[i]? = some n := by rfl) (hv : Vis X.env.scope n := by first | exact Or.inl rfl | exact Or.inr (Or.inl rfl) | exact Or.inr (Or.inr rfl))
    (h1 : (n == ("__debug__" : Str)) = false := by decide) (h2 : (n == ("__classdict__" : Str)) = false := by decide)
    (hs : swapsWithSole [.Subscript (.Name n p1) b p2] e pos.line X.env = pure false := by rfl) (hw : swappedStores [.Subscript (.Name n p1) b p2] e X.env = pure none := by rfl)
    (h3 : (assignEach [.Subscript (.Name n p1) b p2] X.env).map (·.2) = [assign (.Subscript (.Name n p1) b p2) X.env] := by rfl)
    (h4 : ∀ v, assign (.Subscript (.Name n p1) b p2) X.env v = (do
      let ov ← holding [v] (eval (.Name n p1) X.env)
      let iv ← holding [v, ov] (eval b X.env)
      standAt p2
      holding [v, ov, iv] (setItem ov iv v)
      release [v, ov, iv] []) := by intro _; rfl) : DS X ρ ω (.Assign [.Subscript (.Name n p1) b p2] e pos) T :=
  ds_of (ps_asg sem_e (pg_sub (pe_var hN hv h1 h2) sem_e set_list h4) hs hw h3) fun B F H σ Dn W M => h.go W fun v F1 H1 W1 _ _ r => by
    obtain ⟨a, ha, _, _⟩ := W1.own _ hm
    refine ⟨_, ha, hb.go W1 fun u F2 H2 W2 x2 _ r2 => ?_⟩
    cases r2
    obtain ⟨a', ha', oa, _⟩ := W2.own _ hm
    rw [ha] at ha'; cases ha'
    obtain ⟨hk, fr, vs, hv, rl⟩ := boxO_at.mp oa
    refine ⟨a, vs, j, t, rfl, rfl, hv, by rw [rl.length]; exact hj, M.nx _ _ F2 _ σ nx (W2.change hm ha ?_)⟩
    exact boxO_at.mpr ⟨hk, fr, _, upd_same, RpL.set (r.mono x2) rl⟩
end
def rhoB (N : List Str) (ds : List D) : Rho := none :: (ds.map some ++ List.replicate (N.length - (ds.length + 1)) none)
def retB (b : Addr) (z : D) (l' : List D) : Post := { nx := fun _ ω => z = .non ∧ ω = [(0, .box b l')], rt := fun d ω => d = z ∧ ω = [(0, .box b l')] }
def retO (l : List D) : Post := { nx := fun _ _ => False, rt := fun _ _ => False, ro := fun o => o = .lst l }
theorem wd_startB {w : World} {N : List Str} {F H : Hp} {b : Addr} {l ds : List D} {us vs : List V} (x : Ex F H) (fr : F b = none) (hb : H b = some (.lst us)) (rl : RpL w F l us) (r : RpL w F ds vs) : Wd w ⟨F, H, fun a => a = b⟩ F H (L2.start N (.ref b :: vs)) (rhoB N ds) [(0, .box b l)] where
  g := ⟨ex_refl _, fun _ _ _ e => e, x, fun _ _ e => e, fun a h => by
    have h : a = b := h
    subst h; exact ⟨by rw [hb]; simp, fr⟩⟩
  len := by unfold rhoB L2.start; simp [r.length]
  dat := fun i d e => by
    refine rho0_get (ds := .fn b :: ds) (N := N) (.cons (.fn b) r) ?_
    unfold rhoB at e
    unfold rho0
    cases i with
    | zero => simp at e
    | succ i =>
      rw [List.map_cons, List.cons_append, List.getElem?_cons_succ]
      rw [List.getElem?_cons_succ] at e
      exact e
  own := fun p hp => by
    have hp : p = (0, .box b l) := by simpa using hp
    subst hp
    exact ⟨b, rfl, ⟨rfl, fr, us, hb, rl⟩, .inl rfl⟩
  apart := by simp
section
variable {P : Program} {w : World} {K : PySem.W.Frag} {mg : Str → Option Value} {base : Heap} {x qual : Str} {params : Arguments} {body : List Stmt} {scope : Scope} {dvs : List V} {kws : List (Str × V)} {f : Addr} {fd : FuncData}
theorem fn_box {N ps : List Str} {k : Nat} {R : List D → List D → D → List D → Prop} (F : FunD K x qual params body scope dvs kws f fd) (S : FnScope N ps scope)
    (hbody : ∀ cdv A outer s H E b l ds z l', Room k (A.deeper (PyProof.Rows.envOfC qual scope s.heap.objs.size f cdv)) → ds.length + 1 = ps.length → R l ds z l' → DB (Bx P w K mg base N qual scope f cdv A outer s H E) (rhoB N ds) [(0, .box b l)] body (retB b z l')) :
    FnOk P w K mg base CX0 (k + 1) f fd ps (PSb w ps.length R) := by
  refine F.ok S (fun vs H Q E h => h.1) fun cdv A outer s H vs Q E hr h => ?_
  obtain ⟨hl, F0, b, rest, l, ds, z, l', us, rfl, x, fr, hus, rl, r, hR, q⟩ := h
  have hd : ds.length + 1 = ps.length := by rw [← r.length]; exact hl
  have fin : ∀ {ρ : Rho} {ω : Om} {F' H' : Hp} {σ : St} {v : V}, ω = [(0, Own.box b l')] → Wd w ⟨F0, H, fun a => a = b⟩ F' H' σ ρ ω → Rp w F' z v → Q v H' := fun {ρ ω F' H' σ v} e W rv => by
    subst e
    obtain ⟨a, _, oa, _⟩ := W.own (0, Own.box b l') (by simp)
    obtain ⟨e, o⟩ := oa
    subst e
    exact q _ F' H' W.g rv o
  refine ⟨_, PSs.nox sem_b, hbody cdv A outer s H E b l ds z l' hr hd hR ⟨F0, H, fun a => a = b⟩ F0 H _ _ (wd_startB x fr hus rl r) ⟨?_, ?_, fun _ _ _ _ _ z => z.elim, fun _ _ _ _ _ z => z.elim, fun _ _ _ _ _ _ _ _ z => z.elim⟩⟩
  · intro ρ ω F' H' σ e W
    obtain ⟨e1, e2⟩ : z = .non ∧ ω = [(0, Own.box b l')] := e
    subst e1
    exact fin e2 W .non
  · intro d ρ ω F' H' σ v e W rd
    obtain ⟨e1, e2⟩ : d = z ∧ ω = [(0, Own.box b l')] := e
    subst e1
    exact fin e2 W rd
theorem fn_own {N ps : List Str} {k : Nat} {R : List D → List D → Prop} (F : FunD K x qual params body scope dvs kws f fd) (S : FnScope N ps scope)
    (hbody : ∀ cdv A outer s H E ds l, Room k (A.deeper (PyProof.Rows.envOfC qual scope s.heap.objs.size f cdv)) → ds.length = ps.length → R ds l → DB (Bx P w K mg base N qual scope f cdv A outer s H E) (rho0 N ds) [] body (retO l)) :
    FnOk P w K mg base CX0 (k + 1) f fd ps (PSo w ps.length R) := by
  refine F.ok S (fun vs H Q E h => h.1) fun cdv A outer s H vs Q E hr h => ?_
  obtain ⟨hl, F0, ds, l, x, r, hR, q⟩ := h
  have hd : ds.length = ps.length := by rw [← r.length]; exact hl
  refine ⟨_, PSs.nox sem_b, hbody cdv A outer s H E ds l hr hd hR ⟨F0, H, fun _ => False⟩ F0 H (L2.start N vs) _ (wd_start x r) ⟨fun _ _ _ _ _ z => z.elim, fun _ _ _ _ _ _ _ z => z.elim, fun _ _ _ _ _ z => z.elim, fun _ _ _ _ _ z => z.elim, ?_⟩⟩
  intro o ρ ω F' H' σ v Hf e W ro
  have e : o = .lst l := e
  subst e
  obtain ⟨a, rfl, oa, hB, hf⟩ := ro
  have hf : Hf = H' := hf
  subst hf
  exact q a F' Hf W.g oa (hB.elim (fun z => z.elim) id)
theorem calleeB {x : Str} {i k : Nat} {ps : List Str} {R : List D → List D → D → List D → Prop} (F : FnP K x i f fd) (g : mg x = some (.ref f)) (h : FnOk P w K mg base CX0 k f fd ps (PSb w ps.length R))
    (hb : ∀ (kV doc pm : Value) (an : Option Addr) (cdv ct : Value) (us : List Value), us.length = ps.length → bindArgs (PySem.W.fnOf x x (defArgs (top i)) (defBody (top i)) (defScope (top i)) .none kV doc pm an cdv ct) ⟨us, []⟩ = pure (ps.zip us)) : CalleeB P w K mg base k x ps.length R :=
  ⟨f, fd, ps, rfl, h, g, F.kp, F.bindsN hb⟩
theorem calleeO {x : Str} {i k : Nat} {ps : List Str} {R : List D → List D → Prop} (F : FnP K x i f fd) (g : mg x = some (.ref f)) (h : FnOk P w K mg base CX0 k f fd ps (PSo w ps.length R))
    (hb : ∀ (kV doc pm : Value) (an : Option Addr) (cdv ct : Value) (us : List Value), us.length = ps.length → bindArgs (PySem.W.fnOf x x (defArgs (top i)) (defBody (top i)) (defScope (top i)) .none kV doc pm an cdv ct) ⟨us, []⟩ = pure (ps.zip us)) : CalleeO P w K mg base k x ps.length R :=
  ⟨f, fd, ps, rfl, h, g, F.kp, F.bindsN hb⟩
end
/-! the script: a list known to the object -/
section
variable {X : Cx} {ρ : Rho} {ω ω1 ω2 : Om} {e a b : Expr} {z : D} {pos p : Pos} {l : List D}
theorem rr_ixF {i : Int} (h : L2.atI l i = some z) : RR X.w (rIxL X.K) (.fz X.K l) (.int i) z := fun B F H σ ρ ω W u v r1 r2 Q k => by
  cases r1 with
  | fz h1 q1 =>
    cases r2
    obtain ⟨v, e, r⟩ := q1.atI h
    exact ⟨_, _, _, v, rfl, rfl, Same.seq W.g.s h1, e, k _ F H W r⟩
theorem de_ixF {i : Int} (h : L2.atI l i = some z) (ha : DE X ρ ω ω1 a (.fz X.K l)) (hb : DE X ρ ω1 ω2 b (.int i)) (hs : PlainIx b := by exact fun _ _ => rfl) : DE X ρ ω ω2 (.Subscript a b pos) z := de_of (pe_ix ix_list sem_e sem_e hs) (ev_op ha hb (rr_ixF h))
theorem rc_lenF : RC X.w (fun xs H Q => ∃ x n, xs = [x] ∧ LenV X.K x H n ∧ Q (.int n) H) [.fz X.K l] (.int l.length) := fun B F H σ ρ ω W vs r Q k => by
  obtain ⟨v, rfl, r1⟩ := r.one
  cases r1 with
  | fz h q => exact ⟨_, l.length, rfl, .inl ⟨_, Same.seq W.g.s h, q.length.symm⟩, k _ F H W (.int _)⟩
theorem lenF (m : MG X.mg) (h : DE X ρ ω ω1 e (.fz X.K l)) (hg : Gl X "len" := by exact rfl) (hs : starEach [e] X.env = (false, eval e X.env) :: starEach [] X.env := by rfl) : DE X ρ ω ω1 (.Call (.Name "len" p) [e] [] pos) (.int l.length) := de_callB call_len rc_lenF m.len hg boot_len (da_1 h hs) (by decide) (by decide) hs (by rfl)
end
end G

/-! R2 -/
set_option Elab.async false
set_option linter.all false
set_option maxRecDepth 100000
set_option maxHeartbeats 1000000
namespace G
open PySem L2
/-! ## Where draws come from -/
abbrev Bst := Int × Int
abbrev bD (b : Bst) : List D := [.int b.1, .int b.2]
def absI (i : Int) : Int := if i < 0 then -i else i
def cellOf (s : List Int) (k : Nat) : Int := if k < s.length then absI (s.getD k 0) else if 0 < s.length then 8161 * k + 1973 + absI (s.getD (k % s.length) 0) % 2147483563 * 51229 else 8161 * k + 1973
def boxOf (s : List Int) (k : Nat) : Bst := (if 10 ^ 18 ≤ cellOf s k then cellOf s k else 0, (cellOf s k % 2147483563 * 40014 + 1973 * k) % 2147483563 + 1)
def rawB (b : Bst) : Int := (b.2 * 39373 + 331) % 2147483647
def nxtB (b : Bst) : Int := (rawB b * 40692 + 37) % 2147483399 + 1
def takeB (b : Bst) (n : Nat) : Nat × Bst := if 0 < b.1 then ((b.1 % (n : Int)).toNat, (b.1 / (n : Int), b.2)) else ((((rawB b * 2147483629 + nxtB b) / 8209) % (n : Int)).toNat, (b.1, nxtB b))
theorem takeB_lt {b : Bst} {n : Nat} (h : 0 < n) : (takeB b n).1 < n := by
  unfold takeB
  have hn : (0 : Int) < (n : Int) := by omega
  split
  · have h1 := Int.emod_nonneg b.1 (show (n : Int) ≠ 0 by omega)
    have h2 := Int.emod_lt_of_pos b.1 hn
    show (b.1 % (n : Int)).toNat < n
    omega
  · have h1 := Int.emod_nonneg ((rawB b * 2147483629 + nxtB b) / 8209) (show (n : Int) ≠ 0 by omega)
    have h2 := Int.emod_lt_of_pos ((rawB b * 2147483629 + nxtB b) / 8209) hn
    show (((rawB b * 2147483629 + nxtB b) / 8209) % (n : Int)).toNat < n
    omega
theorem toNat_mod {x : Int} {n : Nat} (h : 0 < n) : D.int (x % (n : Int)) = nI (x % (n : Int)).toNat := by
  have h1 := Int.emod_nonneg x (show (n : Int) ≠ 0 by omega)
  show D.int _ = D.int _
  rw [Int.toNat_of_nonneg h1]
theorem mulR {i j : Int} (h : -(2 ^ 64) < j ∧ j < 2 ^ 64) : CMul i j := .inr h
theorem mulL {i j : Int} (h : -(2 ^ 64) < i ∧ i < 2 ^ 64) : CMul i j := .inl h
def R_box (K : PySem.W.Frag) (ds : List D) (l : List D) : Prop := ∃ (s : List Int) (k : Nat), s.length ≤ 100 ∧ k < 3 ∧ ds = [.fz K (s.map D.int), nI k] ∧ l = bD (boxOf s k)
def R_take (l ds : List D) (z : D) (l' : List D) : Prop := ∃ (b : Bst) (n : Nat), 0 < n ∧ n ≤ 100000 ∧ l = bD b ∧ ds = [nI n] ∧ z = nI (takeB b n).1 ∧ l' = bD (takeB b n).2
def R_pick (l ds : List D) (z : D) (l' : List D) : Prop := ∃ (b : Bst) (xs : List D), xs ≠ [] ∧ xs.length ≤ 100000 ∧ xs[(takeB b xs.length).1]? = some z ∧ l = bD b ∧ ds = [.lst xs] ∧ l' = bD (takeB b xs.length).2
section
variable {P : Program} {w : World} {K : PySem.W.Frag} {mg : Str → Option Value} {base : Heap} {f : Addr} {fd : FuncData}
theorem c__law_box (m : MG mg) (F : FnP K "_law_box" 50 f fd) (g : mg "_law_box" = some (.ref f)) : CalleeO P w K mg base 1 "_law_box" 2 (R_box K) :=
  calleeO (ps := ["_law_script", "_law_k"]) F g (fn_own (k := 0) (N := ["_law_script", "_law_k", "_law_cell", "_law_great"]) F ⟨rfl, rfl, rfl, by decide +kernel, rfl, by decide +kernel, by decide +kernel⟩ (by
    rintro cdv A outer s H E ds l hr hl ⟨xs, k, hx, hk, rfl, rfl⟩
    have nd : (["_law_script", "_law_k", "_law_cell", "_law_great"] : List Str).Nodup := by decide +kernel
    have at0 : ∀ j : Nat, j < xs.length → (xs.map D.int)[j]? = some (D.int (xs.getD j 0)) := fun j hj => by
      rw [List.getElem?_map, List.getD_eq_getElem?_getD, List.getElem?_eq_getElem hj]; rfl
    have tail : DB (Bx P w K mg base ["_law_script", "_law_k", "_law_cell", "_law_great"] "_law_box" (defScope (top 50)) f cdv A outer s H E) [some (.fz K (xs.map D.int)), some (nI k), some (.int (cellOf xs k)), none] [] ((defBody (top 50)).drop 2) (retO (bD (boxOf xs k))) := by
      refine db_cons (ds_set (i := 3) (ω1 := []) (d := .int (if 10 ^ 18 ≤ cellOf xs k then cellOf xs k else 0)) (de_if (k := decide (10 ^ 18 ≤ cellOf xs k)) (dt_ge (de_var 2 rfl) (de_op op_pow (rr_I (by refine ⟨by omega, by omega, by decide⟩) fun _ => .int _) de_int de_int)) (fun q => ?_) (fun q => ?_)) ?_ nd)
      · rw [if_pos (of_decide_eq_true q)]; exact de_var 2 rfl
      · rw [if_neg (of_decide_eq_false q)]; exact de_int
      · exact db_one (ds_retNew (do_lst (da_cons (de_var 3 rfl) (da_1 (de_add (de_mod (by omega) (int1 m (de_add (de_mul (mulR (by omega)) (de_mod (by omega) (int1 m (de_var 2 rfl)) de_int) de_int) (de_mul (mulL (by omega)) de_int (de_var 1 rfl)))) de_int) de_int))) (by show 2 ≤ 100000; omega)) rfl)
    refine db_cons (ds_set (i := 2) (de_add (de_mul (mulL (by omega)) de_int (de_var 1 rfl)) de_int) ?_ nd)
    refine db_cons (ds_if (k := decide ((k : Int) < xs.length)) (EvT.is (dt_lt (de_var 1 rfl) (lenF m (de_var 0 rfl))) (by rw [List.length_map])) (fun q => ?_) (fun q => ?_))
    · have q : k < xs.length := by have := of_decide_eq_true q; omega
      have e : cellOf xs k = absI (xs.getD k 0) := by unfold cellOf; rw [if_pos q]
      rw [e] at tail
      exact db_one (ds_set (i := 2) (abs1 m (int1 m (de_ixF (atN (at0 k q)) (de_var 0 rfl) (de_var 1 rfl)))) tail nd)
    · have q : ¬ k < xs.length := by have := of_decide_eq_false q; omega
      refine db_one (ds_if (k := decide ((0 : Int) < xs.length)) (EvT.is (dt_gt (lenF m (de_var 0 rfl)) de_int) (by rw [List.length_map])) (fun q2 => ?_) (fun q2 => ?_))
      · have q2 : 0 < xs.length := by have := of_decide_eq_true q2; omega
        have e : cellOf xs k = 8161 * k + 1973 + absI (xs.getD (k % xs.length) 0) % 2147483563 * 51229 := by unfold cellOf; rw [if_neg q, if_pos q2]
        rw [e] at tail
        refine db_one (ds_set (i := 2) (ω1 := []) (d := .int (8161 * k + 1973 + absI (xs.getD (k % xs.length) 0) % 2147483563 * 51229)) (de_add (de_var 2 rfl) (de_mul (mulR (by omega)) (de_mod (by omega) (int1 m (abs1 m (int1 m (de_ixF (l := xs.map D.int) (i := ((k % xs.length : Nat) : Int)) (atN (at0 _ (Nat.mod_lt _ q2))) (de_var 0 rfl) (EvP.is (de_mod (by rw [List.length_map]; omega) (int1 m (de_var 1 rfl)) (lenF m (de_var 0 rfl))) (by rw [List.length_map]; rfl)))))) de_int) de_int)) tail nd)
      · have q2 : ¬ 0 < xs.length := by have := of_decide_eq_false q2; omega
        have e : cellOf xs k = 8161 * k + 1973 := by unfold cellOf; rw [if_neg q, if_neg q2]
        rw [e] at tail
        exact db_nil tail)) (fun _ _ _ _ _ _ us hl => match us, hl with | [_, _], _ => rfl)
theorem c__law_take (m : MG mg) (F : FnP K "_law_take" 51 f fd) (g : mg "_law_take" = some (.ref f)) : CalleeB P w K mg base 1 "_law_take" 2 R_take :=
  calleeB (ps := ["_law_box_here", "_law_many"]) F g (fn_box (k := 0) (N := ["_law_box_here", "_law_many", "_law_digit", "_law_raw"]) F ⟨rfl, rfl, rfl, by decide +kernel, rfl, by decide +kernel, by decide +kernel⟩ (by
    rintro cdv A outer s H E b l ds z l' hr hl ⟨c, n, hn, hn2, rfl, rfl, rfl, rfl⟩
    have nd : (["_law_box_here", "_law_many", "_law_digit", "_law_raw"] : List Str).Nodup := by decide +kernel
    refine db_cons (ds_if (k := decide (0 < c.1)) (dt_gt (de_ixBox (k := some b) (l := bD c) 0 (List.mem_cons_self ..) (z := .int c.1) rfl de_int) de_int) (fun q => ?_) (fun q => ?_))
    · have q := of_decide_eq_true q
      have e : takeB c n = ((c.1 % (n : Int)).toNat, (c.1 / (n : Int), c.2)) := by unfold takeB; rw [if_pos q]
      rw [e]
      refine db_cons (ds_set (i := 2) (ω1 := [(0, .box b (bD c))]) (d := nI (c.1 % (n : Int)).toNat) (EvP.is (de_mod (by omega) (int1 m (de_ixBox (k := some b) (l := bD c) 0 (List.mem_cons_self ..) (z := .int c.1) rfl de_int)) (de_var 1 rfl)) (toNat_mod hn)) ?_ nd)
      refine db_cons (ds_setBox (k := some b) (l := bD c) (t := 0) 0 (de_fdiv ⟨by omega, by omega⟩ (de_ixBox (k := some b) (l := bD c) 0 (List.mem_cons_self ..) (z := .int c.1) rfl de_int) (de_var 1 rfl)) (List.mem_cons_self ..) rfl de_int ?_)
      exact db_one (ds_ret (de_var 2 rfl) ⟨rfl, rfl⟩)
    · have q := of_decide_eq_false q
      have e : takeB c n = ((((rawB c * 2147483629 + nxtB c) / 8209) % (n : Int)).toNat, (c.1, nxtB c)) := by unfold takeB; rw [if_neg q]
      rw [e]
      refine db_nil ?_
      refine db_cons (ds_set (i := 3) (ω1 := [(0, .box b (bD c))]) (d := .int (rawB c)) (de_mod (by omega) (int1 m (de_add (de_mul (mulR (by omega)) (de_ixBox (k := some b) (l := bD c) 0 (List.mem_cons_self ..) (z := .int c.2) rfl de_int) de_int) de_int)) de_int) ?_ nd)
      refine db_cons (ds_setBox (k := some b) (l := bD c) (t := 1) (d := .int (nxtB c)) 0 (de_add (de_mod (by omega) (int1 m (de_add (de_mul (mulR (by omega)) (de_var 3 rfl) de_int) de_int)) de_int) de_int) (List.mem_cons_self ..) rfl de_int ?_)
      exact db_one (ds_ret (EvP.is (de_mod (by omega) (int1 m (de_fdiv ⟨by omega, by omega⟩ (de_add (de_mul (mulR (by omega)) (de_var 3 rfl) de_int) (de_ixBox (k := some b) (l := bD (c.1, nxtB c)) 0 (List.mem_cons_self ..) (z := .int (nxtB c)) rfl de_int)) de_int)) (de_var 1 rfl)) (toNat_mod hn)) ⟨rfl, rfl⟩))) (fun _ _ _ _ _ _ us hl => match us, hl with | [_, _], _ => rfl)
theorem c__law_pick (m : MG mg) (C1 : CalleeB P w K mg base 1 "_law_take" 2 R_take) (F : FnP K "_law_pick" 52 f fd) (g : mg "_law_pick" = some (.ref f)) : CalleeB P w K mg base 2 "_law_pick" 2 R_pick :=
  calleeB (ps := ["_law_box_here", "_law_some"]) F g (fn_box (k := 1) (N := ["_law_box_here", "_law_some"]) F ⟨rfl, rfl, rfl, by decide +kernel, rfl, by decide +kernel, by decide +kernel⟩ (by
    rintro cdv A outer s H E b l ds z l' hr hl ⟨c, xs, hn, hn2, hz, rfl, rfl, rfl⟩
    have nd : (["_law_box_here", "_law_some"] : List Str).Nodup := by decide +kernel
    refine db_one (ds_ret (de_ixL (atN hz) (de_var 1 rfl) (de_callX (k := some b) (l := bD c) 0 C1 hr (List.mem_cons_self ..) (da_1 (lenL m (de_var 1 rfl))) (List.mem_cons_self ..) ⟨c, xs.length, List.length_pos_iff.mpr hn, hn2, rfl, rfl, rfl, rfl⟩)) ⟨rfl, rfl⟩))) (fun _ _ _ _ _ _ us hl => match us, hl with | [_, _], _ => rfl)
end
end G

/-! R3 -/
set_option Elab.async false
set_option linter.all false
set_option maxRecDepth 100000
set_option maxHeartbeats 4000000
namespace G
open PySem L2
/-! ## Draws in a row -/
def runSt (step : Bst → D × Bst) (c : Bst) : Nat → Bst
  | 0 => c
  | k + 1 => (step (runSt step c k)).2
def runDs (step : Bst → D × Bst) (c : Bst) (k : Nat) : List D := (List.range k).map fun i => (step (runSt step c i)).1
theorem runDs_len {step : Bst → D × Bst} {c : Bst} {k : Nat} : (runDs step c k).length = k := by unfold runDs; simp
theorem runDs_succ {step : Bst → D × Bst} {c : Bst} {k : Nat} : runDs step c (k + 1) = runDs step c k ++ [(step (runSt step c k)).1] := by
  unfold runDs
  rw [List.range_succ, List.map_append]
  rfl
abbrev bx (b : Addr) (c : Bst) : Om := [(0, .box b (bD c))]
/-- the scope of a comprehension as its own comprehensions see it -/
def relab (sc scope : Scope) : Scope := { scope with names := scope.names.map fun (n, k) => if (k == NameKind.free && sc.kind == ScopeKind.function && sc.names.lookup n == some NameKind.cell) then (n, NameKind.cell) else (n, k) }
def lcS (i j : Nat) : Scope := match (defBody (top i))[j]? with
  | some (.Assign _ (.ListComp _ _ s _) _) => s
  | _ => defScope (top i)
section
variable {X : Cx} {ρ : Rho} {ω ω1 : Om} {e elt tg it : Expr} {scope : Scope} {pos p p1 tp : Pos} {b : Addr} {c : Bst} {step : Bst → D × Bst} {nm : Str} {v cnt n j k : Nat} {d z : D}
theorem ev_run (hi : DI X ρ (bx b c) (bx b c) tg it (rngD 0 1 cnt)) (hv : v ≠ 0) (hcnt : cnt ≤ 1000)
    (hg : ∀ c' d, Blk X scope (fun Y => DG Y tg d (wipeR ρ [v]) ((wipeR ρ [v]).set v (some d)) (bx b c') [v]))
    (hs : ∀ c' d, Blk X scope (fun Y => DE Y ((wipeR ρ [v]).set v (some d)) (bx b c') (bx b (step c').2) elt (step c').1)) :
    EvO X.w (tLc (semI X tg it) (blkG X scope tg) (blkTs X scope []) (blkE X scope elt) [v]) ρ (bx b c) (bx b (runSt step c cnt)) (.lst (runDs step c cnt)) := by
  have e := ev_lc (X := X) (scope := scope) (ifs := []) (elt := elt) (own := [(("" : Str), v)]) hi (fun i => bx b (runSt step c i)) (fun i => runDs step c i) rfl rfl (fun _ => rfl) (by simp; exact fun z => hv z.symm) (fun i hi' => by
    rw [runDs_len]
    rw [rngD_len] at hi'
    omega) (fun i d hd => ⟨(wipeR ρ [v]).set v (some d), [v], true, bx b (runSt step c i), fun j hj => hj, rfl, hg _ d, fun _ _ _ _ _ => dts_nil, fun _ => ⟨(step (runSt step c i)).1, hs _ d, runDs_succ⟩, fun q => nomatch q⟩)
  rw [rngD_len] at e
  exact e
theorem do_run (hi : DI X ρ (bx b c) (bx b c) tg it (rngD 0 1 cnt)) (hv : v ≠ 0) (hcnt : cnt ≤ 1000) (hc : X.calm = true) (hN : X.N.Nodup) (ok : BlkOk X.N X.env.scope scope [(nm, v)])
    (hg : ∀ c' d, Blk X scope (fun Y => DG Y tg d (wipeR ρ [v]) ((wipeR ρ [v]).set v (some d)) (bx b c') [v]))
    (hs : ∀ c' d, Blk X scope (fun Y => DE Y ((wipeR ρ [v]).set v (some d)) (bx b c') (bx b (step c').2) elt (step c').1))
    (hf : ∀ x, foldedSetIterable it X.env x = pure x := by intro _; rfl) :
    DO X ρ (bx b c) (bx b (runSt step c cnt)) (.ListComp elt [⟨tg, it, [], 0⟩] scope pos) (.lst (runDs step c cnt)) :=
  do_of (pe_lc hc hN sem_i ok blk_g blk_ts blk_e hf) (ev_run hi hv hcnt hg hs)
/-- a number is taken -/
theorem de_tk (C1 : CalleeB X.prog X.w X.K X.mg X.base 1 "_law_take" 2 R_take) (hr : Room j X.A) (hj : 1 ≤ j) (hn : 0 < n) (hn2 : n ≤ 100000) (ha : DE X ρ (bx b c) (bx b c) e (nI n)) (hg : Gl X "_law_take" := by exact rfl)
    (hN : X.N[0]? = some ("_law_box_here" : Str) := by rfl) (hv : Vis X.env.scope "_law_box_here" := by first | exact Or.inl rfl | exact Or.inr (Or.inl rfl) | exact Or.inr (Or.inr rfl))
    (he : starEach [.Name "_law_box_here" p1, e] X.env = (false, eval (.Name "_law_box_here" p1) X.env) :: starEach [e] X.env := by rfl) (he2 : starEach [e] X.env = (false, eval e X.env) :: starEach [] X.env := by rfl) (hpl : (backTo pos (starEach [e] X.env)).any (·.1) = false := by rfl) :
    DE X ρ (bx b c) (bx b (takeB c n).2) (.Call (.Name "_law_take" p) [.Name "_law_box_here" p1, e] [] pos) (nI (takeB c n).1) :=
  de_callX (k := some b) (l := bD c) (l' := bD (takeB c n).2) (ω1 := bx b c) 0 C1 (hr.mono hj) (List.mem_cons_self ..) (da_1 ha he2) (List.mem_cons_self ..) ⟨c, n, hn, hn2, rfl, rfl, rfl, rfl⟩ hg rfl hN hv rfl rfl rfl he hpl
theorem de_pk {xs : List D} (C1 : CalleeB X.prog X.w X.K X.mg X.base 2 "_law_pick" 2 R_pick) (hr : Room j X.A) (hj : 2 ≤ j) (hn : xs ≠ []) (hn2 : xs.length ≤ 100000) (hz : xs[(takeB c xs.length).1]? = some z) (ha : DE X ρ (bx b c) (bx b c) e (.lst xs)) (hg : Gl X "_law_pick" := by exact rfl)
    (hN : X.N[0]? = some ("_law_box_here" : Str) := by rfl) (hv : Vis X.env.scope "_law_box_here" := by first | exact Or.inl rfl | exact Or.inr (Or.inl rfl) | exact Or.inr (Or.inr rfl))
    (he : starEach [.Name "_law_box_here" p1, e] X.env = (false, eval (.Name "_law_box_here" p1) X.env) :: starEach [e] X.env := by rfl) (he2 : starEach [e] X.env = (false, eval e X.env) :: starEach [] X.env := by rfl) (hpl : (backTo pos (starEach [e] X.env)).any (·.1) = false := by rfl) :
    DE X ρ (bx b c) (bx b (takeB c xs.length).2) (.Call (.Name "_law_pick" p) [.Name "_law_box_here" p1, e] [] pos) z :=
  de_callX (k := some b) (l := bD c) (l' := bD (takeB c xs.length).2) (ω1 := bx b c) 0 C1 (hr.mono hj) (List.mem_cons_self ..) (da_1 ha he2) (List.mem_cons_self ..) ⟨c, xs, hn, hn2, hz, rfl, rfl, rfl⟩ hg rfl hN hv rfl rfl rfl he hpl
end
/-! ## The drawn machine -/
def stepN (n : Nat) (c : Bst) : D × Bst := (nI (takeB c n).1, (takeB c n).2)
def stepB (c : Bst) : D × Bst := (.bl (decide ((takeB c 2).1 = 0)), (takeB c 2).2)
def stepR (n : Nat) (c : Bst) : D × Bst := (.tup (runDs (stepN n) c n), runSt (stepN n) c n)
def stepA (n : Nat) (c : Bst) : D × Bst := (.tup (runDs stepB c n), runSt stepB c n)
def dgs (c : Bst) (n k : Nat) : List Nat := (List.range k).map fun i => (takeB (runSt (stepN n) c i) n).1
def dgB (c : Bst) (k : Nat) : List Bool := (List.range k).map fun i => decide ((takeB (runSt stepB c i) 2).1 = 0)
def rowsN (c : Bst) (n k : Nat) : List (List Nat) := (List.range k).map fun i => dgs (runSt (stepR n) c i) n n
def rowsB (c : Bst) (n k : Nat) : List (List Bool) := (List.range k).map fun i => dgB (runSt (stepA n) c i) n
theorem run_dgs {c : Bst} {n k : Nat} : runDs (stepN n) c k = (dgs c n k).map nI := by unfold runDs dgs; rw [List.map_map]; rfl
theorem run_dgB {c : Bst} {k : Nat} : runDs stepB c k = (dgB c k).map D.bl := by unfold runDs dgB; rw [List.map_map]; rfl
theorem run_rowsN {c : Bst} {n k : Nat} : runDs (stepR n) c k = (rowsN c n k).map tN := by
  unfold runDs rowsN
  rw [List.map_map]
  exact List.map_congr_left fun i _ => congrArg D.tup run_dgs
theorem run_rowsB {c : Bst} {n k : Nat} : runDs (stepA n) c k = (rowsB c n k).map tB := by
  unfold runDs rowsB
  rw [List.map_map]
  exact List.map_congr_left fun i _ => congrArg D.tup run_dgB
def labsL : List (List Str) := [[], ["a"], ["a", "b"], ["b"]]
def txtsL : List (List Str) := [[], ["x"], ["x", "y"]]
/-- the machine m is drawn, and c' is where draws come from behind -/
structure DrawM (c : Bst) (long : Nat) (m : Mach) (c' : Bst) : Prop where
  ex : ∃ c1 c2 c3 c4 c5 c6 c7 c8 c9 c10 : Bst, labsL[(takeB c 4).1]? = some m.lab ∧ (takeB c 4).2 = c1 ∧ txtsL[(takeB c1 3).1]? = some m.txt ∧ (takeB c1 3).2 = c2 ∧
    m.im = 1 + (takeB c2 2).1 ∧ (takeB c2 2).2 = c3 ∧ m.tm = 1 + (takeB c3 3).1 ∧ (takeB c3 3).2 = c4 ∧
    m.itx = rowsN c4 m.im (m.txt.length + 1) ∧ runSt (stepR m.im) c4 (m.txt.length + 1) = c5 ∧ m.ich = rowsN c5 m.im m.im ∧ runSt (stepR m.im) c5 m.im = c6 ∧
    m.ttx = rowsN c6 m.tm (m.txt.length + 1) ∧ runSt (stepR m.tm) c6 (m.txt.length + 1) = c7 ∧ m.tch = rowsN c7 m.tm m.im ∧ runSt (stepR m.tm) c7 m.im = c8 ∧
    m.ans = rowsB c8 long m.tm ∧ runSt (stepA long) c8 m.tm = c9 ∧ m.st = dgs c9 m.im (m.lab.length + 1) ∧ runSt (stepN m.im) c9 (m.lab.length + 1) = c10 ∧ m.tb = (takeB c10 m.tm).1 ∧ (takeB c10 m.tm).2 = c'
theorem dgs_lt {c : Bst} {n k : Nat} (h : 0 < n) : ∀ x ∈ dgs c n k, x < n := fun x hx => by
  obtain ⟨i, _, rfl⟩ := List.mem_map.mp hx
  exact takeB_lt h
theorem dgs_len {c : Bst} {n k : Nat} : (dgs c n k).length = k := by unfold dgs; simp
theorem rows_tab {c : Bst} {n k : Nat} (h : 0 < n) : Tab (rowsN c n k) k n n := ⟨by unfold rowsN; simp, fun r hr => by
  obtain ⟨i, _, rfl⟩ := List.mem_map.mp hr
  exact dgs_len, fun r hr x hx => by
  obtain ⟨i, _, rfl⟩ := List.mem_map.mp hr
  exact dgs_lt h x hx⟩
theorem labs_mem {i : Nat} {l : List Str} (h : labsL[i]? = some l) : l = [] ∨ l = ([("a" : Str)]) ∨ l = [("a" : Str), "b"] ∨ l = [("b" : Str)] := by
  have := List.mem_of_getElem? h
  unfold labsL at this
  simpa using this
theorem txts_mem {i : Nat} {l : List Str} (h : txtsL[i]? = some l) : l = [] ∨ l = [("x" : Str)] ∨ l = [("x" : Str), "y"] := by
  have := List.mem_of_getElem? h
  unfold txtsL at this
  simpa using this
theorem DrawM.ok {c c' : Bst} {long : Nat} {m : Mach} (h1 : 1 ≤ long) (h2 : long ≤ 2) (D : DrawM c long m c') : m.Ok := by
  obtain ⟨c1, c2, c3, c4, c5, c6, c7, c8, c9, c10, e1, -, e2, -, e3, -, e4, -, e5, -, e6, -, e7, -, e8, -, e9, -, e10, -, e11, -⟩ := D.ex
  have t1 : (takeB c2 2).1 < 2 := takeB_lt (by omega)
  have t2 : (takeB c3 3).1 < 3 := takeB_lt (by omega)
  have im : 0 < m.im := by omega
  have tm : 0 < m.tm := by omega
  exact ⟨labs_mem e1, txts_mem e2, by omega, by omega, by rw [e11]; exact takeB_lt tm, by rw [e7]; exact rows_tab tm, by rw [e8]; exact rows_tab tm, by rw [e9]; unfold rowsB; simp,
    ⟨long, h1, h2, fun r hr => by
      rw [e9] at hr
      obtain ⟨i, _, rfl⟩ := List.mem_map.mp hr
      unfold dgB; simp⟩, by omega, by omega, by rw [e10]; exact dgs_len, by rw [e10]; exact dgs_lt im, by rw [e5]; exact rows_tab im, by rw [e6]; exact rows_tab im⟩
theorem draw_ex (c : Bst) (long : Nat) : ∃ m c', DrawM c long m c' := by
  have l1 : (takeB c 4).1 < labsL.length := takeB_lt (by omega)
  obtain ⟨lab, e1⟩ : ∃ l, labsL[(takeB c 4).1]? = some l := ⟨_, List.getElem?_eq_getElem l1⟩
  obtain ⟨c1, f1⟩ : ∃ x, (takeB c 4).2 = x := ⟨_, rfl⟩
  have l2 : (takeB c1 3).1 < txtsL.length := takeB_lt (by omega)
  obtain ⟨txt, e2⟩ : ∃ l, txtsL[(takeB c1 3).1]? = some l := ⟨_, List.getElem?_eq_getElem l2⟩
  obtain ⟨c2, f2⟩ : ∃ x, (takeB c1 3).2 = x := ⟨_, rfl⟩
  obtain ⟨im, e3⟩ : ∃ x, x = 1 + (takeB c2 2).1 := ⟨_, rfl⟩
  obtain ⟨c3, f3⟩ : ∃ x, (takeB c2 2).2 = x := ⟨_, rfl⟩
  obtain ⟨tm, e4⟩ : ∃ x, x = 1 + (takeB c3 3).1 := ⟨_, rfl⟩
  obtain ⟨c4, f4⟩ : ∃ x, (takeB c3 3).2 = x := ⟨_, rfl⟩
  obtain ⟨c5, f5⟩ : ∃ x, runSt (stepR im) c4 (txt.length + 1) = x := ⟨_, rfl⟩
  obtain ⟨c6, f6⟩ : ∃ x, runSt (stepR im) c5 im = x := ⟨_, rfl⟩
  obtain ⟨c7, f7⟩ : ∃ x, runSt (stepR tm) c6 (txt.length + 1) = x := ⟨_, rfl⟩
  obtain ⟨c8, f8⟩ : ∃ x, runSt (stepR tm) c7 im = x := ⟨_, rfl⟩
  obtain ⟨c9, f9⟩ : ∃ x, runSt (stepA long) c8 tm = x := ⟨_, rfl⟩
  obtain ⟨c10, f10⟩ : ∃ x, runSt (stepN im) c9 (lab.length + 1) = x := ⟨_, rfl⟩
  exact ⟨⟨lab, txt, tm, (takeB c10 tm).1, rowsN c6 tm (txt.length + 1), rowsN c7 tm im, rowsB c8 long tm, im, dgs c9 im (lab.length + 1), rowsN c4 im (txt.length + 1), rowsN c5 im im⟩, (takeB c10 tm).2,
    ⟨c1, c2, c3, c4, c5, c6, c7, c8, c9, c10, e1, f1, e2, f2, e3, f3, e4, f4, rfl, f5, rfl, f6, rfl, f7, rfl, f8, rfl, f9, rfl, f10, rfl, rfl⟩⟩
def R_machine (l ds : List D) (z : D) (l' : List D) : Prop := ∃ (c c' : Bst) (long : Nat) (m : Mach), 1 ≤ long ∧ long ≤ 2 ∧ DrawM c long m c' ∧ l = bD c ∧ ds = [nI 3, nI 2, nI long] ∧ z = machD m ∧ l' = bD c'
section
variable {P : Program} {w : World} {K : PySem.W.Frag} {mg : Str → Option Value} {base : Heap} {f : Addr} {fd : FuncData}
theorem EvP.is2 {w : World} {te : TE} {ρ : Rho} {ω ω' : Om} {d d2 : D} (h : EvP w te ρ ω ω' d) {c c' : Bst} {b : Addr} (e1 : c = c') (e2 : d = d2) (e3 : ω' = bx b c := by rfl) : EvP w te ρ ω (bx b c') d2 := by subst e1; subst e2; subst e3; exact h
theorem di_rngN {X : Cx} {ρ : Rho} {ω ω1 : Om} {e tg : Expr} {p pos : Pos} {n : Nat} (m : MG X.mg) (hb : n ≤ 1000) (h : DE X ρ ω ω1 e (nI n)) (hg : Gl X "range" := by exact rfl) (hs : starEach [e] X.env = [(false, eval e X.env)] := by rfl) : DI X ρ ω ω1 tg (.Call (.Name "range" p) [e] [] pos) (rngD 0 1 n) :=
  di_rng1 m.range hg (by omega) h hs
theorem EvO.isD {w : World} {te : TE} {ρ : Rho} {ω : Om} {l l2 : List D} {c c' : Bst} {b : Addr} (h : EvO w te ρ ω (bx b c) (.lst l)) (e1 : c = c') (e2 : l = l2) : EvO w te ρ ω (bx b c') (.lst l2) := by subst e1; subst e2; exact h
theorem c__law_machine (m : MG mg) (C1 : CalleeB P w K mg base 1 "_law_take" 2 R_take) (C2 : CalleeB P w K mg base 2 "_law_pick" 2 R_pick) (F : FnP K "_law_machine" 53 f fd) (g : mg "_law_machine" = some (.ref f)) : CalleeB P w K mg base 3 "_law_machine" 4 R_machine :=
  calleeB (ps := ["_law_box_here", "_law_tops", "_law_inners", "_law_long"]) F g (fn_box (k := 2) (N := ["_law_box_here", "_law_tops", "_law_inners", "_law_long", "_law_labels", "_law_texts", "_law_many", "_law_top", "_law_by_text", "_law_by_child", "_law_top_text", "_law_top_child", "_law_answers", "_law_starts", "_law_head", "_law_state", "_law_kind_here", "_law_child", "_law_word"]) F ⟨rfl, rfl, rfl, by decide +kernel, rfl, by decide +kernel, by decide +kernel⟩ (by
    rintro cdv A outer s H E b l ds z l' hr hl ⟨c, c', long, M, hl1, hl2, DM, rfl, rfl, rfl, rfl⟩
    have nd : (["_law_box_here", "_law_tops", "_law_inners", "_law_long", "_law_labels", "_law_texts", "_law_many", "_law_top", "_law_by_text", "_law_by_child", "_law_top_text", "_law_top_child", "_law_answers", "_law_starts", "_law_head", "_law_state", "_law_kind_here", "_law_child", "_law_word"] : List Str).Nodup := by decide +kernel
    have O := DM.ok hl1 hl2
    have lg : long ≤ 1000 := by omega
    have im0 : 0 < M.im := O.im1
    have im1 : M.im ≤ 1000 := by have := O.im2; omega
    have im2 : M.im ≤ 100000 := by omega
    have tm0 : 0 < M.tm := O.tm1
    have tm1 : M.tm ≤ 1000 := by have := O.tm3; omega
    have tm2 : M.tm ≤ 100000 := by omega
    have tx1 : M.txt.length + 1 ≤ 1000 := by rcases O.txt with h | h | h <;> rw [h] <;> decide
    have la1 : M.lab.length + 1 ≤ 1000 := by rcases O.lab with h | h | h | h <;> rw [h] <;> decide
    have htx : D.int (((M.txt.map D.str).length : Int) + 1) = nI (M.txt.length + 1) := by simp [nI]
    have hla : D.int (((M.lab.map D.str).length : Int) + 1) = nI (M.lab.length + 1) := by simp [nI]
    obtain ⟨c1, c2, c3, c4, c5, c6, c7, c8, c9, c10, e1, f1, e2, f2, e3, f3, e4, f4, e5, f5, e6, f6, e7, f7, e8, f8, e9, f9, e10, f10, e11, f11⟩ := DM.ex
    have z1 : (labsL.map tS)[(takeB c (labsL.map tS).length).1]? = some (tS M.lab) := by
      rw [List.getElem?_map]
      show (labsL[(takeB c 4).1]?).map tS = _
      rw [e1]; rfl
    have z2 : (txtsL.map tS)[(takeB c1 (txtsL.map tS).length).1]? = some (tS M.txt) := by
      rw [List.getElem?_map]
      show (txtsL[(takeB c1 3).1]?).map tS = _
      rw [e2]; rfl
    refine db_cons (ds_par (ω1 := bx b c1) (ω2 := bx b c2) (d1 := tS M.lab) (d2 := tS M.txt) (i1 := 4) (i2 := 5) rfl (by rw [← f1]; exact de_pk (xs := labsL.map tS) C2 hr (by decide) (by simp [labsL]) (by simp [labsL]) z1 (de_lst (da_cons (de_tup da_nil (by simp)) (da_cons (de_tup (da_1 de_str) (by simp)) (da_cons (de_tup (da_cons de_str (da_1 de_str)) (by simp)) (da_1 (de_tup (da_1 de_str) (by simp)))))) (by show 4 ≤ 100000; decide)))
      (by rw [← f2]; exact de_pk (xs := txtsL.map tS) C2 hr (by decide) (by simp [txtsL]) (by simp [txtsL]) z2 (de_lst (da_cons (de_tup da_nil (by simp)) (da_cons (de_tup (da_1 de_str) (by simp)) (da_1 (de_tup (da_cons de_str (da_1 de_str)) (by simp))))) (by show 3 ≤ 100000; decide))) ?_ (by decide) nd)
    refine db_cons (ds_unpack (ω1 := bx b c4) (d := .tup [nI M.im, nI M.tm]) (de_tup (da_cons (ω1 := bx b c3) (d := nI M.im) (by rw [← f3, e3]; exact EvP.is (de_add de_int (de_tk C1 hr (by decide) (by omega) (by omega) (de_var 2 rfl))) (by simp [nI])) (da_1 (by rw [← f4, e4]; exact EvP.is (de_add de_int (de_tk C1 hr (by decide) (by omega) (by omega) (de_var 1 rfl))) (by simp [nI])))) (by simp)) (dg_tup rfl (dgs_cons (i := 6) (dgs_cons (i := 7) dgs_nil nd) nd)) ?_)
    refine db_cons (ds_setLc (own := [("_law_kind_here", 16)]) (i := 8) (l := M.itx.map tN) (ω1 := bx b c5) (EvO.isD (ev_run (c := c4) (cnt := M.txt.length + 1) (step := stepR M.im) (v := 16) (di_rngN m tx1 (EvP.is (de_add (lenT m (de_var 5 rfl)) de_int) htx)) (by decide) tx1 (fun _ _ _ _ _ _ _ => dg_name 16 nd) (fun c' d => fun _ _ _ _ _ => tupL m (do_run (step := stepN M.im) (v := 15) (nm := "_law_state") (di_rngN m im1 (de_var 6 rfl)) (by decide) im1 rfl nd (blkOk_by (by show blkC ["_law_box_here", "_law_tops", "_law_inners", "_law_long", "_law_labels", "_law_texts", "_law_many", "_law_top", "_law_by_text", "_law_by_child", "_law_top_text", "_law_top_child", "_law_answers", "_law_starts", "_law_head", "_law_state", "_law_kind_here", "_law_child", "_law_word"] (relab (defScope (top 53)) (lcS 53 2)) _ _ = true; decide +kernel)) (fun _ _ _ _ _ _ _ => dg_name 15 nd) (fun c2 d2 => fun _ _ _ _ _ => de_tk C1 hr (by decide) im0 im2 (de_var 6 rfl))).data)) f5 (by rw [run_rowsN, e5])) ?_ rfl nd (blkOk_by (by show blkC ["_law_box_here", "_law_tops", "_law_inners", "_law_long", "_law_labels", "_law_texts", "_law_many", "_law_top", "_law_by_text", "_law_by_child", "_law_top_text", "_law_top_child", "_law_answers", "_law_starts", "_law_head", "_law_state", "_law_kind_here", "_law_child", "_law_word"] (defScope (top 53)) _ _ = true; decide +kernel)))
    refine db_cons (ds_setLc (own := [("_law_child", 17)]) (i := 9) (l := M.ich.map tN) (ω1 := bx b c6) (EvO.isD (ev_run (c := c5) (cnt := M.im) (step := stepR M.im) (v := 17) (di_rngN m im1 (de_var 6 rfl)) (by decide) im1 (fun _ _ _ _ _ _ _ => dg_name 17 nd) (fun c' d => fun _ _ _ _ _ => tupL m (do_run (step := stepN M.im) (v := 15) (nm := "_law_state") (di_rngN m im1 (de_var 6 rfl)) (by decide) im1 rfl nd (blkOk_by (by show blkC ["_law_box_here", "_law_tops", "_law_inners", "_law_long", "_law_labels", "_law_texts", "_law_many", "_law_top", "_law_by_text", "_law_by_child", "_law_top_text", "_law_top_child", "_law_answers", "_law_starts", "_law_head", "_law_state", "_law_kind_here", "_law_child", "_law_word"] (relab (defScope (top 53)) (lcS 53 3)) _ _ = true; decide +kernel)) (fun _ _ _ _ _ _ _ => dg_name 15 nd) (fun c2 d2 => fun _ _ _ _ _ => de_tk C1 hr (by decide) im0 im2 (de_var 6 rfl))).data)) f6 (by rw [run_rowsN, e6])) ?_ rfl nd (blkOk_by (by show blkC ["_law_box_here", "_law_tops", "_law_inners", "_law_long", "_law_labels", "_law_texts", "_law_many", "_law_top", "_law_by_text", "_law_by_child", "_law_top_text", "_law_top_child", "_law_answers", "_law_starts", "_law_head", "_law_state", "_law_kind_here", "_law_child", "_law_word"] (defScope (top 53)) _ _ = true; decide +kernel)))
    refine db_cons (ds_setLc (own := [("_law_kind_here", 16)]) (i := 10) (l := M.ttx.map tN) (ω1 := bx b c7) (EvO.isD (ev_run (c := c6) (cnt := M.txt.length + 1) (step := stepR M.tm) (v := 16) (di_rngN m tx1 (EvP.is (de_add (lenT m (de_var 5 rfl)) de_int) htx)) (by decide) tx1 (fun _ _ _ _ _ _ _ => dg_name 16 nd) (fun c' d => fun _ _ _ _ _ => tupL m (do_run (step := stepN M.tm) (v := 15) (nm := "_law_state") (di_rngN m tm1 (de_var 7 rfl)) (by decide) tm1 rfl nd (blkOk_by (by show blkC ["_law_box_here", "_law_tops", "_law_inners", "_law_long", "_law_labels", "_law_texts", "_law_many", "_law_top", "_law_by_text", "_law_by_child", "_law_top_text", "_law_top_child", "_law_answers", "_law_starts", "_law_head", "_law_state", "_law_kind_here", "_law_child", "_law_word"] (relab (defScope (top 53)) (lcS 53 4)) _ _ = true; decide +kernel)) (fun _ _ _ _ _ _ _ => dg_name 15 nd) (fun c2 d2 => fun _ _ _ _ _ => de_tk C1 hr (by decide) tm0 tm2 (de_var 7 rfl))).data)) f7 (by rw [run_rowsN, e7])) ?_ rfl nd (blkOk_by (by show blkC ["_law_box_here", "_law_tops", "_law_inners", "_law_long", "_law_labels", "_law_texts", "_law_many", "_law_top", "_law_by_text", "_law_by_child", "_law_top_text", "_law_top_child", "_law_answers", "_law_starts", "_law_head", "_law_state", "_law_kind_here", "_law_child", "_law_word"] (defScope (top 53)) _ _ = true; decide +kernel)))
    refine db_cons (ds_setLc (own := [("_law_child", 17)]) (i := 11) (l := M.tch.map tN) (ω1 := bx b c8) (EvO.isD (ev_run (c := c7) (cnt := M.im) (step := stepR M.tm) (v := 17) (di_rngN m im1 (de_var 6 rfl)) (by decide) im1 (fun _ _ _ _ _ _ _ => dg_name 17 nd) (fun c' d => fun _ _ _ _ _ => tupL m (do_run (step := stepN M.tm) (v := 15) (nm := "_law_state") (di_rngN m tm1 (de_var 7 rfl)) (by decide) tm1 rfl nd (blkOk_by (by show blkC ["_law_box_here", "_law_tops", "_law_inners", "_law_long", "_law_labels", "_law_texts", "_law_many", "_law_top", "_law_by_text", "_law_by_child", "_law_top_text", "_law_top_child", "_law_answers", "_law_starts", "_law_head", "_law_state", "_law_kind_here", "_law_child", "_law_word"] (relab (defScope (top 53)) (lcS 53 5)) _ _ = true; decide +kernel)) (fun _ _ _ _ _ _ _ => dg_name 15 nd) (fun c2 d2 => fun _ _ _ _ _ => de_tk C1 hr (by decide) tm0 tm2 (de_var 7 rfl))).data)) f8 (by rw [run_rowsN, e8])) ?_ rfl nd (blkOk_by (by show blkC ["_law_box_here", "_law_tops", "_law_inners", "_law_long", "_law_labels", "_law_texts", "_law_many", "_law_top", "_law_by_text", "_law_by_child", "_law_top_text", "_law_top_child", "_law_answers", "_law_starts", "_law_head", "_law_state", "_law_kind_here", "_law_child", "_law_word"] (defScope (top 53)) _ _ = true; decide +kernel)))
    refine db_cons (ds_setLc (own := [("_law_state", 15)]) (i := 12) (l := M.ans.map tB) (ω1 := bx b c9) (EvO.isD (ev_run (c := c8) (cnt := M.tm) (step := stepA long) (v := 15) (di_rngN m tm1 (de_var 7 rfl)) (by decide) tm1 (fun _ _ _ _ _ _ _ => dg_name 15 nd) (fun c' d => fun _ _ _ _ _ => tupL m (do_run (step := stepB) (v := 18) (nm := "_law_word") (di_rngN m lg (de_var 3 rfl)) (by decide) lg rfl nd (blkOk_by (by show blkC ["_law_box_here", "_law_tops", "_law_inners", "_law_long", "_law_labels", "_law_texts", "_law_many", "_law_top", "_law_by_text", "_law_by_child", "_law_top_text", "_law_top_child", "_law_answers", "_law_starts", "_law_head", "_law_state", "_law_kind_here", "_law_child", "_law_word"] (relab (defScope (top 53)) (lcS 53 6)) _ _ = true; decide +kernel)) (fun _ _ _ _ _ _ _ => dg_name 18 nd) (fun c2 d2 => fun _ _ _ _ _ => EvP.is (de_eqI (de_tk C1 hr (by decide) (by decide) (by decide) de_int) de_int) (by simp [stepB, nI]))).data)) f9 (by rw [run_rowsB, e9])) ?_ rfl nd (blkOk_by (by show blkC ["_law_box_here", "_law_tops", "_law_inners", "_law_long", "_law_labels", "_law_texts", "_law_many", "_law_top", "_law_by_text", "_law_by_child", "_law_top_text", "_law_top_child", "_law_answers", "_law_starts", "_law_head", "_law_state", "_law_kind_here", "_law_child", "_law_word"] (defScope (top 53)) _ _ = true; decide +kernel)))
    refine db_cons (ds_set (i := 13) (ω1 := bx b c10) (d := tN M.st) (EvP.is2 (tupL m (do_run (c := c9) (cnt := M.lab.length + 1) (step := stepN M.im) (v := 16) (nm := "_law_kind_here") (di_rngN m la1 (EvP.is (de_add (lenT m (de_var 4 rfl)) de_int) hla)) (by decide) la1 rfl nd (blkOk_by (by show blkC ["_law_box_here", "_law_tops", "_law_inners", "_law_long", "_law_labels", "_law_texts", "_law_many", "_law_top", "_law_by_text", "_law_by_child", "_law_top_text", "_law_top_child", "_law_answers", "_law_starts", "_law_head", "_law_state", "_law_kind_here", "_law_child", "_law_word"] (defScope (top 53)) _ _ = true; decide +kernel)) (fun _ _ _ _ _ _ _ => dg_name 16 nd) (fun c2 d2 => fun _ _ _ _ _ => de_tk C1 hr (by decide) im0 im2 (de_var 6 rfl))).data) f10 (by rw [run_dgs, e10])) ?_ nd)
    refine db_cons (ds_set (i := 14) (ω1 := bx b c') (d := topD M) (EvP.is2 (de_tup (da_cons (de_var 7 rfl) (da_cons (de_tk (c := c10) C1 hr (by decide) tm0 tm2 (de_var 7 rfl)) (da_cons (tupL m (de_var 10 rfl)) (da_cons (tupL m (de_var 11 rfl)) (da_1 (tupL m (de_var 12 rfl))))))) (by show 5 ≤ 100000; decide)) f11 (by rw [← e11])) ?_ nd)
    exact db_one (ds_ret (de_tup (da_cons (de_var 4 rfl) (da_cons (de_var 5 rfl) (da_cons (de_var 14 rfl) (da_1 (de_tup (da_cons (de_var 6 rfl) (da_cons (de_var 13 rfl) (da_cons (tupL m (de_var 8 rfl)) (da_1 (tupL m (de_var 9 rfl)))))) (by show 4 ≤ 100000; decide)))))) (by show 4 ≤ 100000; decide)) ⟨rfl, rfl⟩))) (fun _ _ _ _ _ _ us hl => match us, hl with | [_, _, _, _], _ => rfl)
end
end G

/-! R4 -/
set_option Elab.async false
set_option linter.all false
set_option maxRecDepth 100000
set_option maxHeartbeats 1000000
namespace G
open PySem L2
/-! ## The law's own lots -/
/-- the numbers below n that are in l, ascending -/
def srtU (n : Nat) (l : List Nat) : List Nat := (List.range n).filter fun x => decide (x ∈ l)
theorem mem_srtU {n : Nat} {l : List Nat} {x : Nat} : x ∈ srtU n l ↔ x < n ∧ x ∈ l := by
  unfold srtU
  rw [List.mem_filter, decide_eq_true_iff, List.mem_range]
theorem srtU_asc {n : Nat} {l : List Nat} : (srtU n l).Pairwise fun a b => (a : Nat) < b := List.Pairwise.sublist List.filter_sublist (range_asc _)
theorem srtU_nd {n : Nat} {l : List Nat} : (srtU n l).Nodup := srtU_asc.imp fun h e => by omega
theorem srtU_len {n : Nat} {l : List Nat} : (srtU n l).length ≤ n := nodup_below srtU_nd fun x hx => (mem_srtU.mp hx).1
theorem srtU_congr {n : Nat} {l l' : List Nat} (h : ∀ x, x < n → (x ∈ l ↔ x ∈ l')) : srtU n l = srtU n l' := by
  unfold srtU
  refine List.filter_congr fun x hx => ?_
  exact decide_eq_decide.mpr (h x (List.mem_range.mp hx))
def lawPass (m : Mach) (inn : List Nat) : List Nat := srtU m.im (inn ++ inn.flatMap (lat m.itx m.ich inn))
def lawInn (m : Mach) : Nat → List Nat
  | 0 => srtU m.im m.st
  | k + 1 => lawPass m (lawInn m k)
theorem lat_r {m : Mach} {inn : List Nat} {s x : Nat} (hs : InnR m s) (hi : ∀ o ∈ inn, InnR m o) (hx : x ∈ lat m.itx m.ich inn s) : InnR m x := by
  rcases List.mem_append.mp hx with hx | hx
  · obtain ⟨r, hr, rfl⟩ := List.mem_map.mp hx
    exact .text hs hr
  · obtain ⟨o, ho, rfl⟩ := List.mem_map.mp hx
    exact .child hs (hi o ho)
theorem lawInn_r {m : Mach} : ∀ {k x : Nat}, x ∈ lawInn m k → InnR m x
  | 0, x, h => .start (mem_srtU.mp h).2
  | k + 1, x, h => by
    have ih : ∀ y ∈ lawInn m k, InnR m y := fun y hy => lawInn_r hy
    rcases List.mem_append.mp (mem_srtU.mp h).2 with h | h
    · exact ih x h
    · obtain ⟨s, hs, h⟩ := List.mem_flatMap.mp h
      exact lat_r (ih s hs) ih h
theorem lawInn_lt {m : Mach} (O : m.Ok) {k x : Nat} (h : x ∈ lawInn m k) : x < m.im := (lawInn_r h).lt O
theorem lawInn_mono1 {m : Mach} (O : m.Ok) {k x : Nat} (h : x ∈ lawInn m k) : x ∈ lawInn m (k + 1) := mem_srtU.mpr ⟨lawInn_lt O h, List.mem_append_left _ h⟩
theorem lawInn_mono {m : Mach} (O : m.Ok) {j x : Nat} (h : x ∈ lawInn m j) : ∀ k, x ∈ lawInn m (j + k)
  | 0 => h
  | k + 1 => lawInn_mono1 O (lawInn_mono O h k)
theorem lawInn_step {m : Mach} (O : m.Ok) {k s x : Nat} (hs : s ∈ lawInn m k) (hx : x ∈ lat m.itx m.ich (lawInn m k) s) : x ∈ lawInn m (k + 1) :=
  mem_srtU.mpr ⟨(lat_r (lawInn_r hs) (fun o ho => lawInn_r ho) hx).lt O, List.mem_append_right _ (List.mem_flatMap.mpr ⟨s, hs, hx⟩)⟩
theorem lawInn_nd {m : Mach} : ∀ {k : Nat}, (lawInn m k).Nodup
  | 0 => srtU_nd
  | _ + 1 => srtU_nd
theorem lawInn_len {m : Mach} (O : m.Ok) {k : Nat} : (lawInn m k).length ≤ m.im := nodup_below lawInn_nd fun x hx => lawInn_lt O hx
theorem lawInn_all {m : Mach} (O : m.Ok) {k : Nat} (h : ∀ x ∈ lawInn m (k + 1), x ∈ lawInn m k) {x : Nat} (hx : InnR m x) : x ∈ lawInn m k := by
  induction hx with
  | start h0 => have := lawInn_mono (j := 0) O (mem_srtU.mpr ⟨O.stb _ h0, h0⟩) k; rwa [Nat.zero_add] at this
  | text _ hr ih => exact h _ (lawInn_step O ih (List.mem_append_left _ (List.mem_map.mpr ⟨_, hr, rfl⟩)))
  | child _ _ ih1 ih2 => exact h _ (lawInn_step O ih1 (List.mem_append_right _ (List.mem_map.mpr ⟨_, ih2, rfl⟩)))
theorem lawInn_grow {m : Mach} (O : m.Ok) : ∀ k, (∃ j, j ≤ k ∧ ∀ x ∈ lawInn m (j + 1), x ∈ lawInn m j) ∨ k ≤ (lawInn m k).length
  | 0 => .inr (Nat.zero_le _)
  | k + 1 => by
    rcases lawInn_grow O k with ⟨j, hj, h⟩ | h
    · exact .inl ⟨j, by omega, h⟩
    · by_cases q : ∀ x ∈ lawInn m (k + 1), x ∈ lawInn m k
      · exact .inl ⟨k, by omega, q⟩
      · obtain ⟨x, q⟩ := Classical.not_forall.mp q
        obtain ⟨q1, q2⟩ := Classical.not_imp.mp q
        refine .inr ?_
        have := nodup_sub (l := x :: lawInn m k) (u := lawInn m (k + 1)) (List.nodup_cons.mpr ⟨q2, lawInn_nd⟩) fun y hy => by
          rcases List.mem_cons.mp hy with rfl | hy
          · exact q1
          · exact lawInn_mono1 O hy
        rw [List.length_cons] at this
        omega
theorem lawInn_come {m : Mach} (O : m.Ok) : lawInn m (m.im + 1) = come m := by
  have all : ∀ x, InnR m x → x ∈ lawInn m (m.im + 1) := fun x hx => by
    rcases lawInn_grow O (m.im + 1) with ⟨j, hj, h⟩ | h
    · have := lawInn_mono O (lawInn_all O h hx) (m.im + 1 - j)
      rwa [show j + (m.im + 1 - j) = m.im + 1 by omega] at this
    · have := lawInn_len O (k := m.im + 1)
      omega
  have e : lawInn m (m.im + 1) = srtU m.im (lawInn m m.im ++ (lawInn m m.im).flatMap (lat m.itx m.ich (lawInn m m.im))) := rfl
  have e2 : come m = srtU m.im (innCome m) := rfl
  rw [e, e2]
  refine srtU_congr fun x hx => ?_
  rw [mem_innCome O]
  constructor
  · intro h
    exact lawInn_r (k := m.im + 1) (mem_srtU.mpr ⟨hx, h⟩)
  · intro h
    exact (mem_srtU.mp (all x h)).2
/-! maps -/
def mapPass (steps : List (List Nat)) (f : List Nat) : List (List Nat) := steps.map fun st => f.map (app st)
def mapLoop (steps : List (List Nat)) : Nat → Nat → List (List Nat) → List (List Nat)
  | 0, _, found => found
  | n + 1, at_, found => if at_ < found.length then mapLoop steps n (at_ + 1) (more found (mapPass steps (found.getD at_ []))) else found
def lawMaps (steps : List (List Nat)) (n : Nat) : List (List Nat) := mapLoop steps 600 0 [List.range n]
structure MpOk (steps : List (List Nat)) (n : Nat) (found : List (List Nat)) : Prop where
  nd : found.Nodup
  len : ∀ f ∈ found, f.length = n
  bd : ∀ f ∈ found, ∀ x ∈ f, x < n
  wd : ∀ f ∈ found, ∃ w : Wrd, (∀ g ∈ w, g ∈ steps) ∧ ∀ a, a < n → app f a = runW w a
  id : List.range n ∈ found
def all27 (n : Nat) : List (List Nat) := (List.range 27).map fun k => [k % 3, k / 3 % 3, k / 9].take n
theorem mem_all27 {n : Nat} (hn : n ≤ 3) {f : List Nat} (hl : f.length = n) (hb : ∀ x ∈ f, x < n) : f ∈ all27 n := by
  have hb3 : ∀ x ∈ f, x < 3 := fun x hx => Nat.lt_of_lt_of_le (hb x hx) hn
  clear hb
  unfold all27
  rw [List.mem_map]
  subst hl
  match f, hn, hb3 with
  | [], _, _ => exact ⟨0, by simp, rfl⟩
  | [a], _, hb => exact ⟨a, List.mem_range.mpr (by have := hb a (by simp); omega), by have := hb a (by simp); show [a % 3] = [a]; rw [Nat.mod_eq_of_lt this]⟩
  | [a, b], _, hb =>
    have h1 := hb a (by simp)
    have h2 := hb b (by simp)
    refine ⟨a + 3 * b, List.mem_range.mpr (by omega), ?_⟩
    show [(a + 3 * b) % 3, (a + 3 * b) / 3 % 3] = [a, b]
    rw [show (a + 3 * b) % 3 = a by omega, show (a + 3 * b) / 3 % 3 = b by omega]
  | [a, b, c], _, hb =>
    have h1 := hb a (by simp)
    have h2 := hb b (by simp)
    have h3 := hb c (by simp)
    refine ⟨a + 3 * b + 9 * c, List.mem_range.mpr (by omega), ?_⟩
    show [(a + 3 * b + 9 * c) % 3, (a + 3 * b + 9 * c) / 3 % 3, (a + 3 * b + 9 * c) / 9] = [a, b, c]
    rw [show (a + 3 * b + 9 * c) % 3 = a by omega, show (a + 3 * b + 9 * c) / 3 % 3 = b by omega, show (a + 3 * b + 9 * c) / 9 = c by omega]
  | _ :: _ :: _ :: _ :: _, hn, _ => simp at hn
theorem MpOk.few {steps found : List (List Nat)} {n : Nat} (hn : n ≤ 3) (h : MpOk steps n found) : found.length ≤ 27 := by
  have := nodup_sub (u := all27 n) h.nd fun f hf => mem_all27 hn (h.len f hf) (h.bd f hf)
  simpa [all27] using this
theorem app_range {n a : Nat} (h : a < n) : app (List.range n) a = a := by
  unfold app
  rw [List.getD_eq_getElem?_getD, List.getElem?_range h]
  rfl
theorem app_map {f : List Nat} {g : Nat → Nat} {a : Nat} (h : a < f.length) : app (f.map g) a = g (app f a) := by
  unfold app
  rw [List.getD_eq_getElem?_getD, List.getElem?_map, List.getElem?_eq_getElem h, List.getD_eq_getElem?_getD, List.getElem?_eq_getElem h]
  rfl
theorem runW_snoc {w : Wrd} {g : List Nat} {a : Nat} : runW (w ++ [g]) a = app g (runW w a) := by unfold runW; rw [List.foldl_append]; rfl
theorem mpOk0 {steps : List (List Nat)} {n : Nat} : MpOk steps n [List.range n] := ⟨by simp, fun f hf => by
  have : f = List.range n := by simpa using hf
  subst this; simp, fun f hf x hx => by
  have : f = List.range n := by simpa using hf
  subst this; exact List.mem_range.mp hx, fun f hf => by
  have : f = List.range n := by simpa using hf
  subst this; exact ⟨[], fun g hg => (nomatch hg), fun a ha => app_range ha⟩, by simp⟩
/-- steps on n states -/
structure StOk (steps : List (List Nat)) (n : Nat) : Prop where
  n3 : n ≤ 3
  len : ∀ f ∈ steps, f.length = n
  bd : ∀ f ∈ steps, ∀ x ∈ f, x < n
theorem StOk.app {steps : List (List Nat)} {n a : Nat} {g : List Nat} (S : StOk steps n) (hg : g ∈ steps) (ha : a < n) : G.app g a < n := S.bd g hg _ (app_mem (by rw [S.len g hg]; exact ha))
theorem MpOk.pass {steps found : List (List Nat)} {n : Nat} {f : List Nat} (S : StOk steps n) (h : MpOk steps n found) (hf : f ∈ found) : MpOk steps n (G.more found (mapPass steps f)) := by
  have new : ∀ g ∈ mapPass steps f, g.length = n ∧ (∀ x ∈ g, x < n) ∧ ∃ w : Wrd, (∀ k ∈ w, k ∈ steps) ∧ ∀ a, a < n → app g a = runW w a := fun g hg => by
    obtain ⟨st, hst, rfl⟩ := List.mem_map.mp hg
    refine ⟨by rw [List.length_map, h.len f hf], fun x hx => ?_, ?_⟩
    · obtain ⟨y, hy, rfl⟩ := List.mem_map.mp hx
      exact S.app hst (h.bd f hf y hy)
    · obtain ⟨w, hw, e⟩ := h.wd f hf
      refine ⟨w ++ [st], fun k hk => ?_, fun a ha => ?_⟩
      · rcases List.mem_append.mp hk with hk | hk
        · exact hw k hk
        · have : k = st := by simpa using hk
          rw [this]; exact hst
      · rw [app_map (by rw [h.len f hf]; exact ha), runW_snoc, e a ha]
  refine ⟨nodup_more h.nd, fun g hg => ?_, fun g hg => ?_, fun g hg => ?_, mem_more.mpr (.inl h.id)⟩
  · rcases mem_more.mp hg with hg | hg
    · exact h.len g hg
    · exact (new g hg).1
  · rcases mem_more.mp hg with hg | hg
    · exact h.bd g hg
    · exact (new g hg).2.1
  · rcases mem_more.mp hg with hg | hg
    · exact h.wd g hg
    · exact (new g hg).2.2
theorem getD_more {found later : List (List Nat)} {j : Nat} (h : j < found.length) : (more found later).getD j [] = found.getD j [] := by
  unfold more
  rw [List.getD_eq_getElem?_getD, List.getD_eq_getElem?_getD, List.getElem?_append_left h]
theorem getD_in {found : List (List Nat)} {j : Nat} (h : j < found.length) : found.getD j [] ∈ found := by
  rw [List.getD_eq_getElem?_getD, List.getElem?_eq_getElem h]
  exact List.getElem_mem h
theorem mapLoop_ok {steps : List (List Nat)} {n : Nat} (S : StOk steps n) : ∀ {fuel at_ : Nat} {found : List (List Nat)}, MpOk steps n found → at_ ≤ found.length → 28 ≤ fuel + at_ → (∀ j, j < at_ → ∀ g ∈ mapPass steps (found.getD j []), g ∈ found) →
    MpOk steps n (mapLoop steps fuel at_ found) ∧ ∀ f ∈ mapLoop steps fuel at_ found, ∀ g ∈ mapPass steps f, g ∈ mapLoop steps fuel at_ found := by
  intro fuel
  induction fuel with
  | zero =>
    intro at_ found h h1 h2 _
    have := h.few S.n3
    omega
  | succ k ih =>
    intro at_ found h h1 h2 hc
    unfold mapLoop
    by_cases q : at_ < found.length
    · rw [if_pos q]
      have hin := getD_in q
      refine ih (h.pass S hin) ?_ (by omega) fun j hj g hg => ?_
      · have := more_len (found := found) (later := mapPass steps (found.getD at_ []))
        omega
      · rw [getD_more (by omega)] at hg
        by_cases z : j < at_
        · exact mem_more.mpr (.inl (hc j z g hg))
        · have : j = at_ := by omega
          subst this
          exact mem_more.mpr (.inr hg)
    · rw [if_neg q]
      refine ⟨h, fun f hf g hg => ?_⟩
      obtain ⟨j, hj, e⟩ := List.mem_iff_getElem.mp hf
      refine hc j (by omega) g ?_
      rw [List.getD_eq_getElem?_getD, List.getElem?_eq_getElem hj]
      show g ∈ mapPass steps found[j]
      rw [e]; exact hg
/-- the law's maps are what words do -/
theorem lawMaps_ok {steps : List (List Nat)} {n : Nat} (S : StOk steps n) : MpOk steps n (lawMaps steps n) := (mapLoop_ok S mpOk0 (by simp) (by omega) (fun j hj => by omega)).1
theorem lawMaps_all {steps : List (List Nat)} {n : Nat} (S : StOk steps n) (w : Wrd) (hw : ∀ g ∈ w, g ∈ steps) : ∃ f ∈ lawMaps steps n, ∀ a, a < n → app f a = runW w a := by
  have h := mapLoop_ok S (mpOk0 (steps := steps) (n := n)) (at_ := 0) (fuel := 600) (by simp) (by omega) (fun j hj => by omega)
  suffices go : ∀ (l : Wrd), (∀ g ∈ l, g ∈ steps) → ∃ f ∈ lawMaps steps n, ∀ a, a < n → app f a = runW l.reverse a by
    obtain ⟨f, hf, e⟩ := go w.reverse fun g hg => hw g (List.mem_reverse.mp hg)
    exact ⟨f, hf, fun a ha => by rw [e a ha, List.reverse_reverse]⟩
  intro l
  induction l with
  | nil => intro _; exact ⟨_, (lawMaps_ok S).id, fun a ha => app_range ha⟩
  | cons g l ih =>
    intro hl
    obtain ⟨f, hf, e⟩ := ih fun x hx => hl x (List.mem_cons_of_mem _ hx)
    refine ⟨f.map (app g), h.2 f hf _ (List.mem_map.mpr ⟨g, hl g List.mem_cons_self, rfl⟩), fun a ha => ?_⟩
    rw [app_map (by rw [(lawMaps_ok S).len f hf]; exact ha), List.reverse_cons, runW_snoc, e a ha]
def stp3 (m : Mach) : List (List Nat) := m.itx ++ (come m).map fun s => m.ich.getD s []
def stp2 (m : Mach) : List (List Nat) := m.ttx ++ (come m).map fun s => m.tch.getD s []
theorem mem_stp3 {m : Mach} (O : m.Ok) {f : List Nat} : f ∈ stp3 m ↔ f ∈ maps3 m := by
  unfold stp3 maps3
  simp only [List.mem_append, List.mem_map, mem_come O, mem_innCome O]
theorem mem_stp2 {m : Mach} (O : m.Ok) {f : List Nat} : f ∈ stp2 m ↔ f ∈ maps2 m := by
  unfold stp2 maps2
  simp only [List.mem_append, List.mem_map, mem_come O, mem_innCome O]
theorem stp3_ok {m : Mach} (O : m.Ok) : StOk (stp3 m) m.im := ⟨(maps3_ok O).n3, fun f hf => (maps3_ok O).len f ((mem_stp3 O).mp hf), fun f hf => (maps3_ok O).bd f ((mem_stp3 O).mp hf)⟩
theorem stp2_ok {m : Mach} (O : m.Ok) : StOk (stp2 m) m.tm := ⟨(maps2_ok O).n3, fun f hf => (maps2_ok O).len f ((mem_stp2 O).mp hf), fun f hf => (maps2_ok O).bd f ((mem_stp2 O).mp hf)⟩
def L3 (m : Mach) : List (List Nat) := lawMaps (stp3 m) m.im
def L2' (m : Mach) : List (List Nat) := lawMaps (stp2 m) m.tm
theorem topR_iff {m : Mach} (O : m.Ok) {t : Nat} : TopR m t ↔ ∃ w : Wrd, (∀ g ∈ w, g ∈ stp2 m) ∧ runW w m.tb = t := by
  constructor
  · intro h
    induction h with
    | begin => exact ⟨[], fun g hg => (nomatch hg), rfl⟩
    | @text s r _ hr ih =>
      obtain ⟨w, hw, rfl⟩ := ih
      refine ⟨w ++ [r], fun g hg => ?_, runW_snoc⟩
      rcases List.mem_append.mp hg with h | h
      · exact hw g h
      · have : g = r := by simpa using h
        rw [this]; exact List.mem_append_left _ hr
    | @child s o _ h2 ih =>
      obtain ⟨w, hw, rfl⟩ := ih
      refine ⟨w ++ [m.tch.getD o []], fun g hg => ?_, runW_snoc⟩
      rcases List.mem_append.mp hg with h | h
      · exact hw g h
      · have : g = m.tch.getD o [] := by simpa using h
        rw [this]; exact List.mem_append_right _ (List.mem_map.mpr ⟨o, (mem_come O).mpr h2, rfl⟩)
  · rintro ⟨w, hw, rfl⟩
    suffices go : ∀ (w : Wrd) (s : Nat), (∀ g ∈ w, g ∈ stp2 m) → TopR m s → TopR m (runW w s) from go w m.tb hw .begin
    intro w
    induction w with
    | nil => intro s _ h; exact h
    | cons g w ih =>
      intro s hw h
      refine ih (app g s) (fun x hx => hw x (List.mem_cons_of_mem _ hx)) ?_
      rcases List.mem_append.mp (hw g List.mem_cons_self) with h1 | h1
      · exact .text h h1
      · obtain ⟨o, ho, rfl⟩ := List.mem_map.mp h1
        exact .child h ((mem_come O).mp ho)
theorem tops_law {m : Mach} (O : m.Ok) : srtU m.tm ((L2' m).map fun f => app f m.tb) = topsOf m := by
  have e : topsOf m = srtU m.tm (topCome m (innCome m)) := rfl
  rw [e]
  refine srtU_congr fun x hx => ?_
  rw [mem_topCome O fun o => mem_innCome O, topR_iff O, List.mem_map]
  constructor
  · rintro ⟨f, hf, rfl⟩
    obtain ⟨w, hw, e⟩ := (lawMaps_ok (stp2_ok O)).wd f hf
    exact ⟨w, hw, (e _ O.tb).symm⟩
  · rintro ⟨w, hw, rfl⟩
    obtain ⟨f, hf, e⟩ := lawMaps_all (stp2_ok O) w hw
    exact ⟨f, hf, e _ O.tb⟩
end G

/-! R5 -/
set_option Elab.async false
set_option linter.all false
set_option maxRecDepth 100000
set_option maxHeartbeats 1000000
namespace G
open PySem L2
/-! ## The law's own test: alike -/
def srtP (l : Lot) : Lot := grid.filter fun p => decide (p ∈ l)
theorem mem_srtP {l : Lot} {p : Nat × Nat} : p ∈ srtP l ↔ (p.1 < 3 ∧ p.2 < 3) ∧ p ∈ l := by
  unfold srtP
  rw [List.mem_filter, decide_eq_true_iff, mem_grid]
def ledP (maps : List (List Nat)) (pairs : Lot) : Lot := maps.flatMap fun f => pairs.map fun p => (app f p.1, app f p.2)
theorem mem_ledP {maps : List (List Nat)} {pairs : Lot} {q : Nat × Nat} : q ∈ ledP maps pairs ↔ ∃ f ∈ maps, ∃ p ∈ pairs, q = (app f p.1, app f p.2) := by
  unfold ledP
  rw [List.mem_flatMap]
  constructor
  · rintro ⟨f, hf, h⟩
    obtain ⟨p, hp, rfl⟩ := List.mem_map.mp h
    exact ⟨f, hf, p, hp, rfl⟩
  · rintro ⟨f, hf, p, hp, rfl⟩
    exact ⟨f, hf, List.mem_map.mpr ⟨p, hp, rfl⟩⟩
/-- the table that closes at level l -/
def chAt (m : Mach) (l : Nat) : List (List Nat) := if 1 < l then m.ich else m.tch
/-- the pairs when k levels are closed, of d -/
def prP (m : Mach) (S T : List Nat) (d : Nat) : Nat → Lot
  | 0 => [(app S d, app T d)]
  | k + 1 => srtP ((ledP (L3 m) (prP m S T d k)).map fun p => (ent (chAt m (d - k)) p.1 (app S (d - k - 1)), ent (chAt m (d - k)) p.2 (app T (d - k - 1))))
def preV (m : Mach) (ch : List (List Nat)) (ws : List Wrd) : List Nat → Nat
  | s :: r => match inV m ws r with | none => s | some c => ent ch c s
  | [] => 0
theorem inV_cons {m : Mach} {w : Wrd} {ws : List Wrd} {s : Nat} {r : List Nat} : inV m (w :: ws) (s :: r) = some (runW w (preV m m.ich ws (s :: r))) := rfl
theorem topV_cons {m : Mach} {w : Wrd} {ws : List Wrd} {s : Nat} {r : List Nat} : topV m w ws (s :: r) = runW w (preV m m.tch ws (s :: r)) := rfl
theorem drop_app {S : List Nat} {i : Nat} (h : i < S.length) : S.drop i = app S i :: S.drop (i + 1) := by
  unfold app
  rw [List.drop_eq_getElem_cons h, List.getD_eq_getElem?_getD, List.getElem?_eq_getElem h]
  rfl
/-- what the law's stacks are: d + 1 states -/
structure SkOk (m : Mach) (d : Nat) (S : List Nat) : Prop where
  len : S.length = d + 1
  hd : app S 0 < m.tm
  tl : ∀ i, 1 ≤ i → i ≤ d → app S i < m.im
theorem preV_next {m : Mach} {ch : List (List Nat)} {w : Wrd} {ws : List Wrd} {S : List Nat} {i : Nat} (h : i + 1 < S.length) : preV m ch (w :: ws) (S.drop i) = ent ch (runW w (preV m m.ich ws (S.drop (i + 1)))) (app S i) := by
  rw [drop_app (show i < S.length by omega)]
  show (match inV m (w :: ws) (S.drop (i + 1)) with | none => app S i | some c => ent ch c (app S i)) = _
  rw [drop_app h, inV_cons]
theorem preV_lt {m : Mach} (O : m.Ok) {d : Nat} {S : List Nat} (h : SkOk m d S) : ∀ {k : Nat} {ws : List Wrd}, k < d → ws.length = k → (∀ w ∈ ws, WOk3 m w) → preV m m.ich ws (S.drop (d - k)) < m.im
  | 0, [], hk, _, _ => by
    rw [Nat.sub_zero, drop_app (by rw [h.len]; omega), List.drop_eq_nil_of_le (by rw [h.len]; omega)]
    exact h.tl d (by omega) (Nat.le_refl _)
  | k + 1, w :: ws, hk, hl, hw => by
    have hl : ws.length = k := by simpa using hl
    rw [preV_next (by rw [h.len]; omega)]
    have ih := preV_lt O h (k := k) (ws := ws) (by omega) hl fun x hx => hw x (List.mem_cons_of_mem _ hx)
    rw [show d - (k + 1) + 1 = d - k by omega]
    exact O.ich.ent (run_lt (maps3_ok O) (hw w List.mem_cons_self) ih) (h.tl _ (by omega) (by omega))
theorem preV_lt0 {m : Mach} (O : m.Ok) {d : Nat} {S : List Nat} (h : SkOk m d S) {ws : List Wrd} (hl : ws.length = d) (hw : ∀ w ∈ ws, WOk3 m w) : preV m m.tch ws S < m.tm := by
  have hd := h.len
  cases d with
  | zero =>
    have : ws = [] := List.length_eq_zero_iff.mp hl
    subst this
    match S, h with
    | [t], h => exact h.hd
    | [], h => simp at hd
    | _ :: _ :: _, h => simp at hd
  | succ d =>
    cases ws with
    | nil => simp at hl
    | cons w ws =>
      have hl : ws.length = d := by simpa using hl
      have e := preV_next (m := m) (ch := m.tch) (w := w) (ws := ws) (S := S) (i := 0) (by omega)
      rw [List.drop_zero] at e
      rw [e]
      have ih := preV_lt O h (k := d) (ws := ws) (by omega) hl fun x hx => hw x (List.mem_cons_of_mem _ hx)
      rw [show d + 1 - d = 0 + 1 by omega] at ih
      exact O.tch.ent (run_lt (maps3_ok O) (hw w List.mem_cons_self) ih) h.hd
theorem l3_words {m : Mach} (O : m.Ok) {a b : Nat} (ha : a < m.im) (hb : b < m.im) {q : Nat × Nat} : (∃ f ∈ L3 m, q = (app f a, app f b)) ↔ ∃ w, WOk3 m w ∧ q = (runW w a, runW w b) := by
  constructor
  · rintro ⟨f, hf, rfl⟩
    obtain ⟨w, hw, e⟩ := (lawMaps_ok (stp3_ok O)).wd f hf
    exact ⟨w, fun g hg => (mem_stp3 O).mp (hw g hg), by rw [e a ha, e b hb]⟩
  · rintro ⟨w, hw, rfl⟩
    obtain ⟨f, hf, e⟩ := lawMaps_all (stp3_ok O) w fun g hg => (mem_stp3 O).mpr (hw g hg)
    exact ⟨f, hf, by rw [e a ha, e b hb]⟩
theorem mem_prP {m : Mach} (O : m.Ok) {d : Nat} {S T : List Nat} (hS : SkOk m d S) (hT : SkOk m d T) : ∀ {k : Nat}, k ≤ d → ∀ {p : Nat × Nat}, p ∈ prP m S T d k ↔ ∃ ws : List Wrd, ws.length = k ∧ (∀ w ∈ ws, WOk3 m w) ∧
    p = (preV m (if k = d then m.tch else m.ich) ws (S.drop (d - k)), preV m (if k = d then m.tch else m.ich) ws (T.drop (d - k)))
  | 0, _, p => by
    have e : ∀ {U : List Nat} {ch : List (List Nat)}, SkOk m d U → preV m ch [] (U.drop (d - 0)) = app U d := fun {U ch} h => by
      rw [Nat.sub_zero, drop_app (by rw [h.len]; omega), List.drop_eq_nil_of_le (by rw [h.len]; omega)]
      rfl
    constructor
    · intro h
      have : p = (app S d, app T d) := by simpa [prP] using h
      exact ⟨[], rfl, fun w hw => (nomatch hw), by rw [e hS, e hT, this]⟩
    · rintro ⟨ws, h1, h2, rfl⟩
      have : ws = [] := List.length_eq_zero_iff.mp h1
      subst this
      rw [e hS, e hT]
      simp [prP]
  | k + 1, hk, p => by
    have ih := fun q => mem_prP O hS hT (k := k) (by omega) (p := q)
    have ne : ¬ k = d := by omega
    simp only [if_neg ne] at ih
    have chE : chAt m (d - k) = if k + 1 = d then m.tch else m.ich := by
      unfold chAt
      by_cases q : k + 1 = d
      · rw [if_pos q, if_neg (by omega)]
      · rw [if_neg q, if_pos (by omega)]
    have nx : ∀ {U : List Nat} {w : Wrd} {ws : List Wrd}, SkOk m d U → preV m (chAt m (d - k)) (w :: ws) (U.drop (d - (k + 1))) = ent (chAt m (d - k)) (runW w (preV m m.ich ws (U.drop (d - k)))) (app U (d - k - 1)) := fun {U w ws} h => by
      rw [preV_next (by rw [h.len]; omega), show d - (k + 1) + 1 = d - k by omega, show d - (k + 1) = d - k - 1 by omega]
    show p ∈ srtP _ ↔ _
    rw [mem_srtP, List.mem_map]
    rw [← chE]
    constructor
    · rintro ⟨_, q, hq, rfl⟩
      obtain ⟨f, hf, x, hx, rfl⟩ := mem_ledP.mp hq
      obtain ⟨ws, h1, h2, rfl⟩ := (ih x).mp hx
      obtain ⟨w, hw, e⟩ := (l3_words O (preV_lt O hS (by omega) h1 h2) (preV_lt O hT (by omega) h1 h2)).mp ⟨f, hf, rfl⟩
      refine ⟨w :: ws, by simp [h1], fun y hy => ?_, ?_⟩
      · rcases List.mem_cons.mp hy with rfl | hy
        · exact hw
        · exact h2 y hy
      · rw [nx hS, nx hT]
        have e1 := congrArg Prod.fst e
        have e2 := congrArg Prod.snd e
        simp only at e1 e2
        simp only [e1, e2]
    · rintro ⟨ws, h1, h2, rfl⟩
      cases ws with
      | nil => simp at h1
      | cons w ws =>
        have h1 : ws.length = k := by simpa using h1
        have hw := h2 w List.mem_cons_self
        have h2 : ∀ y ∈ ws, WOk3 m y := fun y hy => h2 y (List.mem_cons_of_mem _ hy)
        have bS := preV_lt O hS (k := k) (by omega) h1 h2
        have bT := preV_lt O hT (k := k) (by omega) h1 h2
        rw [nx hS, nx hT]
        have m3 := O.im2
        have t3 := O.tm3
        have lt3 : ∀ {U : List Nat} {c : Nat}, SkOk m d U → c < m.im → ent (chAt m (d - k)) c (app U (d - k - 1)) < 3 := fun {U c} h hc => by
          rw [chE]
          by_cases q : k + 1 = d
          · rw [if_pos q]
            have := O.tch.ent hc (show app U (d - k - 1) < m.tm by rw [show d - k - 1 = 0 by omega]; exact h.hd)
            omega
          · rw [if_neg q]
            have := O.ich.ent hc (h.tl (d - k - 1) (by omega) (by omega))
            omega
        refine ⟨⟨lt3 hS (run_lt (maps3_ok O) hw bS), lt3 hT (run_lt (maps3_ok O) hw bT)⟩, (runW w (preV m m.ich ws (S.drop (d - k))), runW w (preV m m.ich ws (T.drop (d - k)))), ?_, rfl⟩
        obtain ⟨f, hf, e⟩ := (l3_words O bS bT).mpr ⟨w, hw, rfl⟩
        exact mem_ledP.mpr ⟨f, hf, _, (ih _).mpr ⟨ws, h1, h2, rfl⟩, e⟩
/-- .. and what the law asks of them -/
def lawAlk (m : Mach) (S T : List Nat) (d : Nat) : Bool := (L2' m).all fun f => (prP m S T d d).all fun p => decide (ansOf m (app f p.1) = ansOf m (app f p.2))
theorem lawAlk_iff {m : Mach} (O : m.Ok) {d : Nat} {S T : List Nat} (hS : SkOk m d S) (hT : SkOk m d T) : lawAlk m S T d = true ↔ Alk m S T := by
  have hp := fun p => mem_prP O hS hT (Nat.le_refl d) (p := p)
  simp only [if_pos, Nat.sub_self, List.drop_zero] at hp
  have hl : S.length = T.length := by rw [hS.len, hT.len]
  have tv : ∀ {U : List Nat} {w : Wrd} {ws : List Wrd}, SkOk m d U → topV m w ws U = runW w (preV m m.tch ws U) := fun {U w ws} h => by
    cases U with
    | nil => have := h.len; simp at this
    | cons t r => exact topV_cons
  unfold lawAlk
  simp only [List.all_eq_true, decide_eq_true_eq]
  constructor
  · intro h
    refine ⟨hl, fun w0 ws h0 h1 h2 => ?_⟩
    have h2 : ws.length = d := by have := hS.len; omega
    rw [tv hS, tv hT]
    obtain ⟨f, hf, e⟩ := lawMaps_all (stp2_ok O) w0 fun g hg => (mem_stp2 O).mpr (h0 g hg)
    have := h f hf (preV m m.tch ws S, preV m m.tch ws T) ((hp _).mpr ⟨ws, h2, h1, rfl⟩)
    rw [← e _ (preV_lt0 O hS h2 h1), ← e _ (preV_lt0 O hT h2 h1)]
    exact this
  · rintro ⟨_, h⟩ f hf p hpp
    obtain ⟨ws, h2, h1, rfl⟩ := (hp p).mp hpp
    obtain ⟨w, hw, e⟩ := (lawMaps_ok (stp2_ok O)).wd f hf
    have := h w ws (fun g hg => (mem_stp2 O).mp (hw g hg)) h1 (by rw [h2, hS.len])
    rw [tv hS, tv hT] at this
    show ansOf m (app f (preV m m.tch ws S)) = ansOf m (app f (preV m m.tch ws T))
    rw [e _ (preV_lt0 O hS h2 h1), e _ (preV_lt0 O hT h2 h1)]
    exact this
theorem CS.sk {m : Mach} (O : m.Ok) {d : Nat} {S : List Nat} (h : CS m d S) : SkOk m d S := ⟨h.len, h.hd.lt O, fun i h1 h2 => by
  refine (h.tl (app S i) ?_).lt O
  have hl := h.len
  rw [show app S i = app (S.drop 1) (i - 1) by
    unfold app
    rw [List.getD_eq_getElem?_getD, List.getD_eq_getElem?_getD, List.getElem?_drop, show 1 + (i - 1) = i by omega]]
  exact app_mem (by rw [List.length_drop]; omega)⟩
end G

/-! R6 -/
set_option Elab.async false
set_option linter.all false
set_option maxRecDepth 100000
set_option maxHeartbeats 4000000
namespace G
open PySem L2
def forB : Stmt → List Stmt
  | .For _ _ b _ _ => b
  | _ => []
def lcSt : Stmt → Scope
  | .Assign _ (.ListComp _ _ s _) _ => s
  | _ => defScope (top 0)
abbrev passS : Stmt := .Pass ⟨0, 0, 0, 0⟩
def lotsD (m : Mach) : D := .tup [.lst ((L3 m).map tN), .lst ((L2' m).map tN), .lst ((come m).map nI), .lst ((topsOf m).map nI)]
def R_lots (ds : List D) (z : D) : Prop := ∃ m : Mach, m.Ok ∧ ds = [machD m] ∧ z = lotsD m
theorem lat_eq {M : Mach} {inn : List Nat} {x : Nat} (later : List Nat) : (later.map nI ++ (M.itx.map tN).map (fun d => nI (app (unL d) x))) ++ (inn.map nI).map (fun d => nI (ent M.ich (unN d) x)) = (later ++ lat M.itx M.ich inn x).map nI := by
  unfold lat
  rw [List.map_append, List.map_append, List.map_map, List.map_map, List.map_map, List.map_map, ← List.append_assoc]
  congr 1
  congr 1
  exact List.map_congr_left fun r _ => by show nI (app (unL (tN r)) x) = nI (app r x); rw [unL_tN]
theorem lat_len {M : Mach} {inn : List Nat} {x : Nat} : (lat M.itx M.ich inn x).length = M.itx.length + inn.length := by unfold lat; rw [List.length_append, List.length_map, List.length_map]
theorem latF_len {M : Mach} {inn : List Nat} : ∀ {l : List Nat}, (l.flatMap (lat M.itx M.ich inn)).length = l.length * (M.itx.length + inn.length)
  | [] => by simp
  | x :: l => by rw [List.flatMap_cons, List.length_append, lat_len, latF_len, List.length_cons, Nat.succ_mul]; omega
theorem map_nI_D (l : List Nat) : D.lst (l.map nI) = D.lst ((l.map fun (n : Nat) => (n : Int)).map D.int) := congrArg D.lst (map_nI_int l)
theorem asc_lt {l : List Nat} (h : l.Pairwise fun a b => (a : Nat) < b) : (l.map fun (n : Nat) => (n : Int)).Pairwise (· < ·) := List.pairwise_map.mpr (h.imp fun h => by omega)
theorem mem_cast {l l' : List Nat} (h : ∀ x, x ∈ l ↔ x ∈ l') (k : Int) : k ∈ l.map (fun (n : Nat) => (n : Int)) ↔ k ∈ l'.map fun (n : Nat) => (n : Int) := by
  simp only [List.mem_map, h]
/-- sorted(set(numbers)) -/
theorem srtU_e {X : Cx} {ρ : Rho} {ω ω1 : Om} {e : Expr} {p p1 p2 pos : Pos} {l : List Nat} {n : Nat} (m : MG X.mg) (h : DE X ρ ω ω1 e (.lst (l.map nI)) ∨ DE X ρ ω ω1 e (tN l)) (hl : ∀ x ∈ l, x < n) (h64 : l.length < 64)
    (hc : X.calm = true := by rfl) (hg : Gl X "sorted" := by exact rfl) (hg2 : Gl X "set" := by exact rfl) (hs : starEach [e] X.env = (false, eval e X.env) :: starEach [] X.env := by rfl)
    (hs2 : starEach [.Call (.Name "set" p1) [e] [] p2] X.env = (false, eval (.Call (.Name "set" p1) [e] [] p2) X.env) :: starEach [] X.env := by rfl) : DE X ρ ω ω1 (.Call (.Name "sorted" p) [.Call (.Name "set" p1) [e] [] p2] [] pos) (.lst ((srtU n l).map nI)) := by
  rw [map_nI_D]
  refine srtSetI (ns := l.map fun (n : Nat) => (n : Int)) m ?_ (by rw [List.length_map]; exact h64) (asc_lt srtU_asc) (mem_cast fun x => by rw [mem_srtU]; exact ⟨fun h => h.2, fun h => ⟨hl x h, h⟩⟩) hc hg hg2 hs hs2
  rcases h with h | h
  · rw [map_nI_D] at h; exact .inl h
  · have e : tN l = .tup ((l.map fun (n : Nat) => (n : Int)).map D.int) := congrArg D.tup (map_nI_int l)
    rw [e] at h; exact .inr h
section
variable {P : Program} {w : World} {K : PySem.W.Frag} {mg : Str → Option Value} {base : Heap} {f : Addr} {fd : FuncData}
theorem c__law_lots (m : MG mg) (F : FnP K "_law_lots" 58 f fd) (g : mg "_law_lots" = some (.ref f)) : Callee P w K mg base 1 "_law_lots" 1 R_lots :=
  callee (ps := ["_law_machine_here"]) F g (fn_pure (k := 0) (N := ["_law_machine_here", "_law_inner", "_law_turn", "_law_later", "_law_state", "_law_found", "_law_part", "_law_steps", "_law_maps", "_law_tops", "_law_row_here", "_law_child", "_law_step", "_law_one", "_law_made"]) F ⟨rfl, rfl, rfl, by decide +kernel, rfl, by decide +kernel, by decide +kernel⟩ (by
    rintro cdv A outer s H E ds z hr hl ⟨M, O, rfl, rfl⟩
    have nd : (["_law_machine_here", "_law_inner", "_law_turn", "_law_later", "_law_state", "_law_found", "_law_part", "_law_steps", "_law_maps", "_law_tops", "_law_row_here", "_law_child", "_law_step", "_law_one", "_law_made"] : List Str).Nodup := by decide +kernel
    have hu := room65 hr
    have i2 := O.im2
    have t3 := O.tm3
    have llb : M.lab.length ≤ 2 := by rcases O.lab with e | e | e | e <;> rw [e] <;> decide
    have ltx : M.txt.length ≤ 2 := by rcases O.txt with e | e | e <;> rw [e] <;> decide
    have ixr := O.itx.rows
    have lco := come_len O
    refine db_cons (ds_set (i := 1) (d := .lst ((lawInn M 0).map nI)) (srtU_e m (.inr (de_ixT (atN (j := 1) rfl) (de_ixT (atN (j := 3) rfl) (de_var 0 rfl) de_int) de_int)) O.stb (by rw [O.stl]; omega)) ?_ nd)
    refine db_cons (ds_for (di_rngN (n := M.im + 1) m (by omega) (EvP.is (de_add (de_ixT (atN (j := 0) rfl) (de_ixT (atN (j := 3) rfl) (de_var 0 rfl) de_int) de_int) de_int) (by simp [nI]))) (fun i ρ ω => ∃ a b c, ρ = [some (machD M), some (.lst ((lawInn M i).map nI)), a, b, c, none, none, none, none, none, none, none, none, none, none] ∧ ω = []) ⟨none, none, none, rfl, rfl⟩ ?_ ?_ rfl PySem.PassesOwn.never)
    · rintro i d ρ ω hd ⟨a, b, c, rfl, rfl⟩
      refine ⟨_, [2], dg_name 2 nd, ?_⟩
      have li := lawInn_len O (k := i)
      have fl := latF_len (M := M) (inn := lawInn M i) (l := lawInn M i)
      have nb : (lawInn M i).length * (M.itx.length + (lawInn M i).length) ≤ 2 * (3 + 2) := Nat.mul_le_mul (by omega) (by omega)
      refine db_cons (ds_set (i := 3) (de_var 1 rfl) ?_ nd)
      refine db_cons (ds_for (di_list (de_var 1 rfl)) (fun j ρ ω => ∃ c, ρ = [some (machD M), some (.lst ((lawInn M i).map nI)), some d, some (.lst ((lawInn M i ++ ((lawInn M i).take j).flatMap (lat M.itx M.ich (lawInn M i))).map nI)), c, none, none, none, none, none, none, none, none, none, none] ∧ ω = []) ⟨c, by simp, rfl⟩ ?_ ?_ rfl PySem.PassesOwn.never)
      · rintro j d2 ρ ω hd2 ⟨c, rfl, rfl⟩
        rw [List.getElem?_map] at hd2
        cases hx : (lawInn M i)[j]? with
        | none => rw [hx] at hd2; cases hd2
        | some x =>
          rw [hx] at hd2
          cases hd2
          have hxm : x ∈ lawInn M i := List.mem_of_getElem? hx
          have hxlt := lawInn_lt O hxm
          refine ⟨_, [4], dg_name 4 nd, ?_⟩
          have lz : (lawInn M i ++ ((lawInn M i).take j).flatMap (lat M.itx M.ich (lawInn M i))).length ≤ 100 := by
            rw [List.length_append, latF_len, List.length_take]
            have : min j (lawInn M i).length * (M.itx.length + (lawInn M i).length) ≤ 2 * (3 + 2) := Nat.mul_le_mul (by omega) (by omega)
            omega
          refine db_one (ds_set (i := 3) (EvP.is (de_cat ?_ (de_cat ?_ (de_var 3 rfl) (do_map (own := [("_law_row_here", 10)]) (f := fun d => nI (app (unL d) x)) rfl nd (di_tup (de_ixT (atN (j := 2) rfl) (de_ixT (atN (j := 3) rfl) (de_var 0 rfl) de_int) de_int)) (blkOk_by (by show blkC ["_law_machine_here", "_law_inner", "_law_turn", "_law_later", "_law_state", "_law_found", "_law_part", "_law_steps", "_law_maps", "_law_tops", "_law_row_here", "_law_child", "_law_step", "_law_one", "_law_made"] (defScope (top 58)) _ _ = true; decide +kernel)) (by simp) (by rw [List.length_map]; omega) (fun d hd => ?_)).data)
            (do_map (own := [("_law_child", 11)]) (f := fun d => nI (ent M.ich (unN d) x)) rfl nd (di_list (de_var 1 rfl)) (blkOk_by (by show blkC ["_law_machine_here", "_law_inner", "_law_turn", "_law_later", "_law_state", "_law_found", "_law_part", "_law_steps", "_law_maps", "_law_tops", "_law_row_here", "_law_child", "_law_step", "_law_one", "_law_made"] (defScope (top 58)) _ _ = true; decide +kernel)) (by simp) (by rw [List.length_map]; omega) (fun d hd => ?_)).data) (congrArg D.lst (lat_eq _))) ?_ nd)
          · simp only [List.length_append, List.length_map] at lz ⊢; omega
          · simp only [List.length_append, List.length_map] at lz ⊢; omega
          · obtain ⟨r, hr', rfl⟩ := List.mem_map.mp hd
            refine ⟨_, [10], by simp, fun _ _ _ _ _ => dg_name 10 nd, fun _ _ _ _ _ => EvP.is (de_ixT (at_nI (r := r) (s := x) (by rw [O.itx.cols r hr']; exact hxlt)) (de_var 10 rfl) (de_var 4 rfl)) ?_⟩
            rw [unL_tN]
          · obtain ⟨r, hr', rfl⟩ := List.mem_map.mp hd
            have hr2 := lawInn_lt O hr'
            refine ⟨_, [11], by simp, fun _ _ _ _ _ => dg_name 11 nd, fun _ _ _ _ _ => EvP.is (de_ixT (at_nI (r := M.ich.getD r []) (s := x) (by rw [O.ich.cols _ (O.ich.row hr2)]; exact hxlt)) (de_ixT (at_tN (by rw [O.ich.rows]; exact hr2)) (de_ixT (atN (j := 3) rfl) (de_ixT (atN (j := 3) rfl) (de_var 0 rfl) de_int) de_int) (de_var 11 rfl)) (de_var 4 rfl)) ?_⟩
            rw [unN_nI]; rfl
          · refine ⟨some (nI x), ?_, rfl⟩
            rw [take_next hx, List.flatMap_append, List.flatMap_cons, List.flatMap_nil, List.append_nil, List.append_assoc]
            rfl
      · rintro ρ ω ⟨c, rfl, rfl⟩
        rw [List.length_map, List.take_length]
        refine db_one (ds_set (i := 1) (d := .lst ((lawInn M (i + 1)).map nI)) (srtU_e m (.inl (de_var 3 rfl)) (fun x hx => ?_) (by rw [List.length_append]; omega)) ⟨_, _, _, rfl, rfl⟩ nd)
        rcases List.mem_append.mp hx with hx | hx
        · exact lawInn_lt O hx
        · obtain ⟨y, hy, hx⟩ := List.mem_flatMap.mp hx
          exact (lat_r (lawInn_r hy) (fun o ho => lawInn_r ho) hx).lt O
    rintro ρ ω ⟨a, b, c, rfl, rfl⟩
    rw [rngD_len, lawInn_come O]
    refine db_cons (ds_setO (i := 5) (do_lst da_nil (by simp)) ?_ (by show 5 < 15; decide) nd)
    -- one part
    have part : ∀ (pt n : Nat) (rows ch : List (List Nat)) (pl fnd : List D) (a b c st0 mp : Option D) (T : Post), L2.atI (parts M) (pt : Int) = some (.tup pl) → L2.atI pl 0 = some (nI n) → L2.atI pl 2 = some (tNN rows) → L2.atI pl 3 = some (tNN ch) → Tab rows (M.txt.length + 1) n n → Tab ch M.im n n → n ≤ 3 → fnd.length ≤ 5 →
        StOk (rows ++ (come M).map fun s => ch.getD s []) n →
        (∀ a b c st0 mp, T.nx [some (machD M), some (.lst ((come M).map nI)), a, b, c, none, some (nI pt), st0, mp, none, none, none, none, none, none] [(5, .lst (fnd ++ [.lst ((lawMaps (rows ++ (come M).map fun s => ch.getD s []) n).map tN)]))]) →
        DB (Bx P w K mg base ["_law_machine_here", "_law_inner", "_law_turn", "_law_later", "_law_state", "_law_found", "_law_part", "_law_steps", "_law_maps", "_law_tops", "_law_row_here", "_law_child", "_law_step", "_law_one", "_law_made"] "_law_lots" (defScope (top 58)) f cdv A outer s H E) [some (machD M), some (.lst ((come M).map nI)), a, b, c, none, some (nI pt), st0, mp, none, none, none, none, none, none] [(5, .lst fnd)] (forB ((defBody (top 58)).getD 3 passS)) T := by
      intro pt n rows ch pl fnd a b c st0 mp T h0 a0 a2 a3 TR TC n3 hf SO hT
      have rl := TR.rows
      refine db_cons (ds_set (i := 7) (EvP.is (de_cat (by simp only [List.length_map]; omega) (lstT m (de_ixT a2 (de_ixT h0 (de_var 0 rfl) (de_var 6 rfl)) de_int)).data (do_map (own := [("_law_child", 11)]) (f := fun d => tN (ch.getD (unN d) [])) rfl nd (di_list (de_var 1 rfl)) (blkOk_by (by show blkC ["_law_machine_here", "_law_inner", "_law_turn", "_law_later", "_law_state", "_law_found", "_law_part", "_law_steps", "_law_maps", "_law_tops", "_law_row_here", "_law_child", "_law_step", "_law_one", "_law_made"] (defScope (top 58)) _ _ = true; decide +kernel)) (by simp) (by rw [List.length_map]; omega) (fun d hd => ?_)).data) (congrArg D.lst (show rows.map tN ++ ((come M).map nI).map (fun d => tN (ch.getD (unN d) [])) = (rows ++ (come M).map fun s => ch.getD s []).map tN by rw [List.map_append, List.map_map, List.map_map]; rfl))) ?_ nd)
      · obtain ⟨r, hr', rfl⟩ := List.mem_map.mp hd
        have hr2 := come_lt O r hr'
        exact ⟨_, [11], by simp, fun _ _ _ _ _ => dg_name 11 nd, fun _ _ _ _ _ => EvP.is (de_ixT (at_tN (by rw [TC.rows]; exact hr2)) (de_ixT a3 (de_ixT h0 (de_var 0 rfl) (de_var 6 rfl)) de_int) (de_var 11 rfl)) (by rw [unN_nI])⟩
      obtain ⟨steps, hst⟩ : ∃ x, x = rows ++ (come M).map fun s => ch.getD s [] := ⟨_, rfl⟩
      rw [← hst] at SO hT ⊢
      have stl : steps.length ≤ 100 := by rw [hst, List.length_append, List.length_map]; omega
      refine db_cons (ds_set (i := 8) (d := .lst ([List.range n].map tN)) (de_lst (da_1 (tupRng m (n := n) (by omega) (de_ixT a0 (de_ixT h0 (de_var 0 rfl) (de_var 6 rfl)) de_int))) (by simp)) ?_ nd)
      refine db_cons (ds_for (di_rngN (n := 600) m (by omega) de_int) (fun i ρ ω => ∃ maps a b c, ρ = [some (machD M), some (.lst ((come M).map nI)), a, b, c, none, some (nI pt), some (.lst (steps.map tN)), some (.lst (maps.map tN)), none, none, none, none, none, none] ∧ ω = [(5, .lst fnd)] ∧ MpOk steps n maps ∧ i ≤ maps.length ∧ mapLoop steps (600 - i) i maps = lawMaps steps n) ⟨[List.range n], a, b, c, rfl, rfl, mpOk0, by simp, rfl⟩ ?_ ?_ rfl PySem.PassesOwn.never)
      · rintro i d ρ ω hd ⟨maps, a, b, c, rfl, rfl, MO, hi, hL⟩
        have hi6 : i < 600 := by
          have := (List.getElem?_eq_some_iff.mp hd).1
          rwa [rngD_len] at this
        have ed : d = nI i := by
          rw [rngD_get hi6] at hd
          have := Option.some.inj hd
          rw [← this]; simp [nI]
        subst ed
        have few := MO.few n3
        refine ⟨_, [2], dg_name 2 nd, ?_⟩
        refine db_cons (ds_if (k := decide (i = maps.length)) (EvT.is (dt_eqI (de_var 2 rfl) (lenL m (de_var 8 rfl))) (by rw [List.length_map]; exact decide_eq_decide.mpr (by omega))) (fun hk => ?_) (fun hk => ?_))
        · have hk := of_decide_eq_true hk
          have e : maps = lawMaps steps n := by
            rw [← hL, show 600 - i = (599 - i) + 1 by omega]
            unfold mapLoop
            rw [if_neg (by omega)]
          subst e
          refine db_one (ds_break ?_)
          exact db_one (ds_append 5 List.mem_cons_self (de_var 8 rfl) (by omega) (hT _ _ _ _ _))
        · have hk := of_decide_eq_false hk
          have hlt : i < maps.length := by omega
          have hin := getD_in hlt
          have hlen := MO.len _ hin
          have em : (steps.map tN).map (fun d => tN ((maps.getD i []).map (app (unL d)))) = (mapPass steps (maps.getD i [])).map tN := by
            unfold mapPass
            rw [List.map_map, List.map_map]
            exact List.map_congr_left fun r _ => by show tN ((maps.getD i []).map (app (unL (tN r)))) = tN ((maps.getD i []).map (app r)); rw [unL_tN]
          refine db_nil (db_cons (ds_setLc (own := [("_law_step", 12)]) (i := 3) (ω1 := [(5, .lst fnd)]) (l := (mapPass steps (maps.getD i [])).map tN) (by
            rw [← em]
            exact ev_map (di_list (de_var 7 rfl)) (by simp) (by rw [List.length_map]; omega) (fun d hd => by
              obtain ⟨r, hr', rfl⟩ := List.mem_map.mp hd
              refine ⟨_, [12], by simp, fun _ _ _ _ _ => dg_name 12 nd, fun _ _ _ _ _ => EvP.is (tupL m (do_map (own := [("_law_state", 4)]) (f := fun d => nI (app r (unN d))) rfl nd (di_tup (de_ixL (atN (show (maps.map tN)[i]? = some (tN (maps.getD i [])) by rw [List.getElem?_map, List.getD_eq_getElem?_getD, List.getElem?_eq_getElem hlt]; rfl)) (de_var 8 rfl) (de_var 2 rfl))) (blkOk_by (by show blkC ["_law_machine_here", "_law_inner", "_law_turn", "_law_later", "_law_state", "_law_found", "_law_part", "_law_steps", "_law_maps", "_law_tops", "_law_row_here", "_law_child", "_law_step", "_law_one", "_law_made"] (relab (defScope (top 58)) (lcSt ((forB ((forB ((defBody (top 58)).getD 3 passS)).getD 2 passS)).getD 1 passS))) _ _ = true; decide +kernel)) (by simp) (by rw [List.length_map]; omega) (fun d hd => ?_)).data) ?_⟩
              · obtain ⟨x, hx, rfl⟩ := List.mem_map.mp hd
                exact ⟨_, [4], by simp, fun _ _ _ _ _ => dg_name 4 nd, fun _ _ _ _ _ => EvP.is (de_ixT (at_nI (r := r) (s := x) (by rw [SO.len r hr']; exact MO.bd _ hin x hx)) (de_var 12 rfl) (de_var 4 rfl)) (by rw [unN_nI])⟩
              · rw [unL_tN, List.map_map]
                show _ = D.tup (((maps.getD i []).map (app r)).map nI)
                rw [List.map_map]
                exact congrArg D.tup (List.map_congr_left fun x _ => by show nI (app r (unN (nI x))) = nI (app r x); rw [unN_nI]))) ?_ rfl nd (blkOk_by (by show blkC ["_law_machine_here", "_law_inner", "_law_turn", "_law_later", "_law_state", "_law_found", "_law_part", "_law_steps", "_law_maps", "_law_tops", "_law_row_here", "_law_child", "_law_step", "_law_one", "_law_made"] (defScope (top 58)) _ _ = true; decide +kernel))))
          have lmp : (mapPass steps (maps.getD i [])).length ≤ 100 := by unfold mapPass; rw [List.length_map]; exact stl
          have ldd : (ddU (mapPass steps (maps.getD i []))).length ≤ 100 := by
            have := nodup_sub (l := ddU (mapPass steps (maps.getD i []))) nodup_ddU fun y hy => mem_ddU.mp hy
            omega
          have efil : (((ddU (mapPass steps (maps.getD i []))).map tN).filter (fun d => isNew maps (unL d))).map (fun d => d) = ((ddU (mapPass steps (maps.getD i []))).filter (isNew maps)).map tN := by
            rw [List.map_id', List.filter_map]
            congr 1
            refine List.filter_congr fun x _ => ?_
            show isNew maps (unL (tN x)) = isNew maps x
            rw [unL_tN]
          have MO2 := MO.pass SO hin
          refine db_one (ds_set (i := 8) (d := .lst ((more maps (mapPass steps (maps.getD i []))).map tN)) (EvP.is (de_cat ?_ (de_var 8 rfl) (EvP.is (do_filter (own := [("_law_one", 13)]) (q := fun d => isNew maps (unL d)) (f := fun d => d) rfl nd (di_list (EvO.is (lstK m (do_dictL (ks := (mapPass steps (maps.getD i [])).map tN) rfl (lt16 hu) m.dict (by exact rfl) (EvP.is (do_map (own := [("_law_one", 13)]) (f := fun d => .tup [d, .bl true]) rfl nd (di_list (de_var 3 rfl)) (blkOk_by (by show blkC ["_law_machine_here", "_law_inner", "_law_turn", "_law_later", "_law_state", "_law_found", "_law_part", "_law_steps", "_law_maps", "_law_tops", "_law_row_here", "_law_child", "_law_step", "_law_one", "_law_made"] (defScope (top 58)) _ _ = true; decide +kernel)) (by simp) (by rw [List.length_map]; omega) (fun d hd => ?_)).data rfl) (fun d hd => ?_) (by rw [List.length_map]; omega)).dataD) (congrArg Own.lst (ddK_enc encTN))).data) (blkOk_by (by show blkC ["_law_machine_here", "_law_inner", "_law_turn", "_law_later", "_law_state", "_law_found", "_law_part", "_law_steps", "_law_maps", "_law_tops", "_law_row_here", "_law_child", "_law_step", "_law_one", "_law_made"] (defScope (top 58)) _ _ = true; decide +kernel)) (by simp) ?_ (fun d hd => ?_)).data (congrArg D.lst efil))) ?_) ?_ nd)
          · rw [List.length_map, List.length_map]
            have := List.length_filter_le (isNew maps) (ddU (mapPass steps (maps.getD i [])))
            omega
          · exact ⟨_, [13], by simp, fun _ _ _ _ _ => dg_name 13 nd, fun _ _ _ _ _ => de_tup (da_cons (de_var 13 rfl) (da_1 de_bl)) (by show 2 ≤ 100000; decide)⟩
          · obtain ⟨r, _, rfl⟩ := List.mem_map.mp hd
            exact tN_kOk r
          · rw [List.length_map]; omega
          · obtain ⟨y, hy, rfl⟩ := List.mem_map.mp hd
            refine ⟨_, [13], by simp, fun _ _ _ _ _ => dg_name 13 nd, fun _ _ _ _ _ => dts_one (EvT.is (dt_niK hu (encTN.ok y) encTN.all (de_var 13 rfl) (de_var 8 rfl)) ?_), fun _ _ _ _ _ _ => de_var 13 rfl⟩
            rw [encTN.any, unL_tN]; rfl
          · rw [more_eq, List.map_append]
          · refine ⟨_, _, _, _, rfl, rfl, MO2, ?_, ?_⟩
            · have := more_len (found := maps) (later := mapPass steps (maps.getD i []))
              omega
            · rw [← hL, show 600 - i = (600 - (i + 1)) + 1 by omega]
              conv => rhs; unfold mapLoop
              rw [if_pos hlt]
      · rintro ρ ω ⟨maps, a, b, c, rfl, rfl, MO, hi, hL⟩
        have few := MO.few n3
        rw [rngD_len] at hi
        omega
    refine db_cons (ds_for (di_tup (l := [nI 3, nI 2]) (de_tup (da_cons de_int (da_1 de_int)) (by simp))) (fun i ρ ω => ∃ a b c p0 st0 mp, ρ = [some (machD M), some (.lst ((come M).map nI)), a, b, c, none, p0, st0, mp, none, none, none, none, none, none] ∧ ω = [(5, .lst (([.lst ((L3 M).map tN), .lst ((L2' M).map tN)] : List D).take i))]) ⟨_, _, _, _, _, _, rfl, rfl⟩ ?_ ?_ rfl PySem.PassesOwn.never)
    · rintro i d ρ ω hd ⟨a, b, c, p0, st0, mp, rfl, rfl⟩
      match i, hd with
      | 0, hd =>
        cases hd
        exact ⟨_, [6], dg_name 6 nd, part 3 M.im M.itx M.ich _ [] _ _ _ _ _ _ rfl rfl rfl rfl O.itx O.ich (by omega) (by simp) (stp3_ok O) fun a b c st0 mp => ⟨_, _, _, _, _, _, rfl, rfl⟩⟩
      | 1, hd =>
        cases hd
        exact ⟨_, [6], dg_name 6 nd, part 2 M.tm M.ttx M.tch _ [.lst ((L3 M).map tN)] _ _ _ _ _ _ rfl rfl rfl rfl O.ttx O.tch (by omega) (by simp) (stp2_ok O) fun a b c st0 mp => ⟨_, _, _, _, _, _, rfl, rfl⟩⟩
      | i + 2, hd => simp at hd
    rintro ρ ω ⟨a, b, c, p0, st0, mp, rfl, rfl⟩
    have l2f := (lawMaps_ok (stp2_ok O)).few t3
    have f1 : L2.atI ([.lst ((L3 M).map tN), .lst ((L2' M).map tN)] : List D) (1 : Int) = some (.lst ((L2' M).map tN)) := rfl
    refine db_cons (ds_set (i := 9) (d := .lst ((topsOf M).map nI)) (ω1 := [(5, .lst [.lst ((L3 M).map tN), .lst ((L2' M).map tN)])]) (by
      rw [← tops_law O]
      exact srtU_e m (.inl (EvP.is (do_map (own := [("_law_made", 14)]) (f := fun d => nI (app (unL d) M.tb)) rfl nd (di_list (de_ixOwn 5 List.mem_cons_self f1 de_int)) (blkOk_by (by show blkC ["_law_machine_here", "_law_inner", "_law_turn", "_law_later", "_law_state", "_law_found", "_law_part", "_law_steps", "_law_maps", "_law_tops", "_law_row_here", "_law_child", "_law_step", "_law_one", "_law_made"] (defScope (top 58)) _ _ = true; decide +kernel)) (by simp) (by rw [List.length_map]; exact Nat.le_trans l2f (by decide)) (fun d hd => by
        obtain ⟨r, hr', rfl⟩ := List.mem_map.mp hd
        exact ⟨_, [14], by simp, fun _ _ _ _ _ => dg_name 14 nd, fun _ _ _ _ _ => EvP.is (de_ixT (at_nI (r := r) (s := M.tb) (by rw [(lawMaps_ok (stp2_ok O)).len r hr']; exact O.tb)) (de_var 14 rfl) (de_ixT (atN (j := 1) rfl) (de_ixT (atN (j := 2) rfl) (de_var 0 rfl) de_int) de_int)) (by rw [unL_tN])⟩)).data (by
          rw [List.map_map]
          exact congrArg D.lst (show _ = ((L2' M).map fun f => app f M.tb).map nI by rw [List.map_map]; exact List.map_congr_left fun r _ => by show nI (app (unL (tN r)) M.tb) = nI (app r M.tb); rw [unL_tN])))) (fun x hx => by
          obtain ⟨f, hf, rfl⟩ := List.mem_map.mp hx
          exact (lawMaps_ok (stp2_ok O)).bd f hf _ (app_mem (by rw [(lawMaps_ok (stp2_ok O)).len f hf]; exact O.tb))) (by rw [List.length_map]; exact Nat.lt_of_le_of_lt l2f (by decide))) ?_ nd)
    exact db_one (ds_ret (de_tup (da_cons (de_ixOwn 5 List.mem_cons_self (z := .lst ((L3 M).map tN)) rfl de_int) (da_cons (de_ixOwn 5 List.mem_cons_self f1 de_int) (da_cons (de_var 1 rfl) (da_1 (de_var 9 rfl))))) (by show 4 ≤ 100000; decide)) rfl))) (fun _ _ _ _ _ _ us hl => match us, hl with | [_], _ => rfl)
end
end G

/-! R7 -/
set_option Elab.async false
set_option linter.all false
set_option maxRecDepth 100000
set_option maxHeartbeats 4000000
namespace G
open PySem L2
def hP (p : Nat × Nat) : Int := reduceHash (Builtin.Tuple.tupleHashOf [hashInt p.1, hashInt p.2])
theorem hP_eq {w : World} {p : Nat × Nat} : (nk (pD p)).hash w = hP p := rfl
theorem hP_inj : ∀ p ∈ grid, ∀ q ∈ grid, hP p = hP q → p = q := by decide +kernel
theorem hP_nodup {w : World} : ∀ {l : Lot}, l.Nodup → (∀ p ∈ l, p ∈ grid) → ((l.map pD).map fun d => (nk d).hash w).Nodup
  | [], _, _ => .nil
  | p :: l, nd, h => by
    obtain ⟨n1, n2⟩ := List.nodup_cons.mp nd
    refine List.nodup_cons.mpr ⟨fun hm => ?_, hP_nodup n2 fun q hq => h q (List.mem_cons_of_mem _ hq)⟩
    obtain ⟨d, hd, e⟩ := List.mem_map.mp hm
    obtain ⟨q, hq, rfl⟩ := List.mem_map.mp hd
    have e : hP q = hP p := e
    have := hP_inj q (h q (List.mem_cons_of_mem _ hq)) p (h p List.mem_cons_self) e
    subst this
    exact n1 hq
/-- a block where nothing of the base's may change -/
def DBn (X : Cx) (ρ : Rho) (ω : Om) (sts : List Stmt) (T : Post) : Prop := ∀ B F H σ Dn, (∀ a, ¬ B.M a) → Wd X.w B F H σ ρ ω → Meets X.w B Dn T → semB X sts Dn σ H
section
variable {X : Cx} {ρ : Rho} {ω ω1 : Om} {st : Stmt} {sts rest body : List Stmt} {T : Post} {tg it : Expr} {pos : Pos} {xs : List D}
theorem DBn.of (h : DB X ρ ω sts T) : DBn X ρ ω sts T := fun B F H σ Dn _ W M => h B F H σ Dn W M
theorem db_consN (h : DS X ρ ω st { T with nx := fun ρ' ω' => DBn X ρ' ω' rest T }) : DBn X ρ ω (st :: rest) T := fun B F H σ Dn hM W M pins s I => (pss_cons (X := X) sem_s sem_b).run pins s σ H Dn I (h B F H σ _ W ⟨fun ρ' ω' F' H' σ' q W' => q B F' H' σ' Dn hM W' M, M.rt, M.bk, M.ct, M.ro⟩)
theorem Wd.less {w : World} {B : Base} {F H : Hp} {σ : St} {i : Nat} (W : Wd w B F H σ ρ ω) : Wd w B F H σ ρ (odel ω i) :=
  ⟨W.g, W.len, W.dat, fun p hp => W.own p (mem_odel.mp hp).1, pw_odel W.apart⟩
/-- an owned dict is changed no more -/
theorem db_freezeN {ks xs : List D} (i : Nat) (hm : (i, Own.dct ks xs) ∈ ω) (h : DBn X (ρ.set i (some (.dT ks xs))) (odel ω i) sts T) : DBn X ρ ω sts T := fun B F H σ Dn hM W M pins s I => by
  obtain ⟨a, ha, oa, hB⟩ := W.own _ hm
  have bH : B.H a = none := hB.elim (fun z => (hM a z).elim) id
  obtain ⟨fr, es, hh, e1, q1, q2⟩ := oa
  obtain ⟨od, I2⟩ := I.lock hh True.intro
  have no : ¬ owned σ (odel ω i) a := fun ⟨p, hp, e⟩ => by
    obtain ⟨h1, h2⟩ := mem_odel.mp hp
    exact W.apart' hm h1 (fun z => h2 z.symm) ha e
  have W2 := (W.less (i := i)).frz0 (u := .frz od (NdO X.w a es)) fr bH (hM a) no
  have r : Rp X.w (upd F a (.frz od (NdO X.w a es))) (.dT ks xs) (.ref a) := .dT upd_same rfl rfl e1 (q1.mono (ex_new fr)) (q2.mono (ex_new fr))
  have W3 := W2.set (i := i) r fun p hp => (mem_odel.mp hp).2
  have es : σ.set i (some (.ref a)) = σ := by
    refine List.ext_getElem? fun j => ?_
    by_cases q : i = j
    · subst q
      have hl : i < σ.length := (List.getElem?_eq_some_iff.mp ha).1
      rw [List.getElem?_set_self hl, ha]
    · rw [List.getElem?_set_ne q]
  rw [es] at W3
  exact h B _ _ σ Dn hM W3 M pins s I2
theorem ds_forN (hi : DI X ρ ω ω1 tg it xs) (Pv : Nat → Rho → Om → Prop) (h0 : Pv 0 ρ ω1) (hn : ∀ i ρ ω, Pv i ρ ω → ω = [])
    (hs : ∀ i d ρ ω, xs[i]? = some d → Pv i ρ ω → ∃ ρ' js, DG X tg d ρ ρ' ω js ∧ DBn X ρ' ω body { T with nx := Pv (i + 1), ct := Pv (i + 1), bk := T.nx })
    (hd : ∀ ρ ω, Pv xs.length ρ ω → T.nx ρ ω) (hc : X.calm = true) (hp : PySem.PassesOwn (model X.prog X.w) X.A X.env X.xe) (hf : ∀ x, foldedSetIterable it X.env x = pure x := by intro _; rfl) : DS X ρ ω (.For tg it body [] pos) T := by
  refine ds_of (ps_for hp hc sem_i sem_g sem_b hf) fun B F H σ Dn W M => hi.go W fun J F1 H1 W1 _ _ Y => ?_
  refine ⟨fun i m σ' H' => m = xs.length - i ∧ i ≤ xs.length ∧ ∃ ρ ω F', Wd X.w B F' H' σ' ρ ω ∧ Ex F1 F' ∧ Pv i ρ ω, ⟨xs.length, by simp, Nat.zero_le _, ρ, ω1, F1, W1, ex_refl _, h0⟩, ?_⟩
  rintro i m σ2 H2 ⟨rfl, hle, ρ2, ω2, F2, W2, x2, pv⟩
  by_cases hlt : i < xs.length
  · refine .inr ⟨Y.go i F2 H2 x2 W2.g.s hlt, fun σ' H' => ∃ ρ ω F', Wd X.w B F' H' σ' ρ ω ∧ Ex F1 F' ∧ Pv (i + 1) ρ ω, fun σ' H' ⟨ρ', ω', F', a1, a2, a3⟩ => ⟨xs.length - (i + 1), by omega, rfl, hlt, ρ', ω', F', a1, a2, a3⟩, fun v H3 hy => ?_⟩
    obtain ⟨F3, d, hd3, W3, x3, _, r3⟩ := Y.yld B F2 H2 σ2 ρ2 ω2 i v H3 W2 x2 hlt hy
    have en := hn _ _ _ pv
    subst en
    obtain ⟨ρ4, js, g, hb⟩ := hs i d ρ2 [] hd3 pv
    refine g B F3 H3 σ2 v W3 r3 _ fun σ4 W4 _ _ => ?_
    refine hb (cur F3 H3 σ4 []) F3 H3 σ4 _ (fun a z => by obtain ⟨p, hp, _⟩ := z; exact nomatch hp) W4.re ⟨fun ρ5 ω5 F5 H5 σ5 q W5 => ⟨ρ5, ω5, F5, W4.back W5, ex_trans (ex_trans x2 x3) W5.g.f, q⟩, fun a b c d e f g h w' r => M.rt a b c d e f g h (W4.back w') r, fun a b c d e h w' => M.nx a b c d e h (W4.back w'), fun ρ5 ω5 F5 H5 σ5 q W5 => ⟨ρ5, ω5, F5, W4.back W5, ex_trans (ex_trans x2 x3) W5.g.f, q⟩, fun a b c d e f g h i w' r => M.ro a b c d e f g h i (W4.back w') (r.back W4)⟩
  · have e : i = xs.length := by omega
    subst e
    exact .inl ⟨Y.stop _ F2 H2 x2 W2.g.s (Nat.le_refl _), M.nx _ _ F2 H2 σ2 (hd ρ2 ω2 pv) W2⟩
end
section
variable {P : Program} {w : World} {K : PySem.W.Frag} {mg : Str → Option Value} {base : Heap} {f : Addr} {fd : FuncData}
def R_all_stacks (ds : List D) (z : D) : Prop := ∃ (m : Mach) (d : Nat), m.Ok ∧ d ≤ 3 ∧ ds = [lotsD m, nI d] ∧ z = .lst ((stacksOf m d).map tN)
def R_alike (ds : List D) (z : D) : Prop := ∃ (m : Mach) (d : Nat) (S T : List Nat), m.Ok ∧ d ≤ 3 ∧ SkOk m d S ∧ SkOk m d T ∧ ds = [machD m, lotsD m, tN S, tN T] ∧ z = .bl (lawAlk m S T d)
theorem c__law_all_stacks (m : MG mg) (F : FnP K "_law_all_stacks" 60 f fd) (g : mg "_law_all_stacks" = some (.ref f)) : Callee P w K mg base 1 "_law_all_stacks" 2 R_all_stacks :=
  callee (ps := ["_law_lots_here", "_law_deep"]) F g (fn_pure (k := 0) (N := ["_law_lots_here", "_law_deep", "_law_found", "_law_level", "_law_longer", "_law_stack", "_law_state"]) F ⟨rfl, rfl, rfl, by decide +kernel, rfl, by decide +kernel, by decide +kernel⟩ (by
    rintro cdv A outer s H E ds z hr hl ⟨M, d, O, hd3, rfl, rfl⟩
    have nd : (["_law_lots_here", "_law_deep", "_law_found", "_law_level", "_law_longer", "_law_stack", "_law_state"] : List Str).Nodup := by decide +kernel
    have i2 := O.im2
    have t3 := O.tm3
    have lco := come_len O
    have lto := topsOf_len O
    have lst3 : ∀ k, k ≤ 3 → (stacksOf M k).length ≤ 24 := fun k hk => Nat.le_trans (stacksOf_len O) (by
      have : 2 ^ k ≤ 2 ^ 3 := Nat.pow_le_pow_right (by omega) hk
      omega)
    refine db_cons (ds_setLc (own := [("_law_state", 6)]) (i := 2) (ω1 := []) (l := (stacksOf M 0).map tN) (by
      have e : (stacksOf M 0).map tN = ((topsOf M).map nI).map fun d => .tup [d] := by unfold stacksOf; rw [List.map_map, List.map_map]; rfl
      rw [e]
      exact ev_map (di_list (de_ixT (atN (j := 3) rfl) (de_var 0 rfl) de_int)) no_om (by rw [List.length_map]; omega) (fun d hd => ⟨_, [6], by simp, fun _ _ _ _ _ => dg_name 6 nd, fun _ _ _ _ _ => de_tup (da_1 (de_var 6 rfl)) (by show 1 ≤ 100000; decide)⟩)) ?_ rfl nd (blkOk_by (by show blkC ["_law_lots_here", "_law_deep", "_law_found", "_law_level", "_law_longer", "_law_stack", "_law_state"] (defScope (top 60)) _ _ = true; decide +kernel)))
    refine db_cons (ds_for (di_rngN m (by omega) (de_var 1 rfl)) (fun i ρ ω => ∃ a b c, ρ = [some (lotsD M), some (nI d), some (.lst ((stacksOf M i).map tN)), a, b, c, none] ∧ ω = []) ⟨none, none, none, rfl, rfl⟩ ?_ ?_ rfl PySem.PassesOwn.never)
    · rintro i e ρ ω hd ⟨a, b, c, rfl, rfl⟩
      have hi : i < d := by
        have := (List.getElem?_eq_some_iff.mp hd).1
        rwa [rngD_len] at this
      refine ⟨_, [3], dg_name 3 nd, ?_⟩
      refine db_cons (ds_set (i := 4) (d := .lst (([] : List (List Nat)).map tN)) (de_lst da_nil (by simp)) ?_ nd)
      refine db_cons (ds_for (di_list (de_var 2 rfl)) (fun j ρ ω => ∃ c, ρ = [some (lotsD M), some (nI d), some (.lst ((stacksOf M i).map tN)), some e, some (.lst ((((stacksOf M i).take j).flatMap fun S => (come M).map fun c => S ++ [c]).map tN)), c, none] ∧ ω = []) ⟨c, by simp, rfl⟩ ?_ ?_ rfl PySem.PassesOwn.never)
      · rintro j d2 ρ ω hd2 ⟨c, rfl, rfl⟩
        rw [List.getElem?_map] at hd2
        cases hx : (stacksOf M i)[j]? with
        | none => rw [hx] at hd2; cases hd2
        | some S =>
          rw [hx] at hd2
          cases hd2
          have hSm : S ∈ stacksOf M i := List.mem_of_getElem? hx
          have hSl := ((mem_stacksOf O).mp hSm).len
          refine ⟨_, [5], dg_name 5 nd, ?_⟩
          have e1 : ((come M).map nI).map (fun d => D.tup (S.map nI ++ [d])) = ((come M).map fun c => S ++ [c]).map tN := by
            rw [List.map_map, List.map_map]
            exact List.map_congr_left fun c _ => by show D.tup (S.map nI ++ [nI c]) = D.tup ((S ++ [c]).map nI); rw [List.map_append]; rfl
          have lz : (((stacksOf M i).take j).flatMap fun S => (come M).map fun c => S ++ [c]).length ≤ 1000 := by
            have : ∀ l : List (List Nat), (l.flatMap fun S => (come M).map fun c => S ++ [c]).length = l.length * (come M).length := by
              intro l
              induction l with
              | nil => simp
              | cons x l ih => rw [List.flatMap_cons, List.length_append, ih, List.length_map, List.length_cons, Nat.succ_mul]; omega
            rw [this, List.length_take]
            have h1 := lst3 i (by omega)
            have : min j (stacksOf M i).length * (come M).length ≤ 24 * 2 := Nat.mul_le_mul (by omega) (by omega)
            omega
          refine db_one (ds_set (i := 4) (EvP.is (de_cat (by simp only [List.length_map]; omega) (de_var 4 rfl) (EvP.is (do_map (own := [("_law_state", 6)]) (f := fun d => .tup (S.map nI ++ [d])) rfl nd (di_list (de_ixT (atN (j := 2) rfl) (de_var 0 rfl) de_int)) (blkOk_by (by show blkC ["_law_lots_here", "_law_deep", "_law_found", "_law_level", "_law_longer", "_law_stack", "_law_state"] (defScope (top 60)) _ _ = true; decide +kernel)) (by simp) (by rw [List.length_map]; omega) (fun d hd => ?_)).data (congrArg D.lst e1))) (congrArg D.lst (List.map_append ..).symm)) ?_ nd)
          · exact ⟨_, [6], by simp, fun _ _ _ _ _ => dg_name 6 nd, fun _ _ _ _ _ => de_catT (by rw [List.length_map, hSl]; simp; omega) (de_var 5 rfl) (de_tup (da_1 (de_var 6 rfl)) (by show 1 ≤ 100000; decide))⟩
          · refine ⟨some (tN S), ?_, rfl⟩
            rw [take_next hx, List.flatMap_append, List.flatMap_cons, List.flatMap_nil, List.append_nil]
            rfl
      · rintro ρ ω ⟨c, rfl, rfl⟩
        rw [List.length_map, List.take_length]
        exact db_one (ds_set (i := 2) (d := .lst ((stacksOf M (i + 1)).map tN)) (de_var 4 rfl) ⟨_, _, _, rfl, rfl⟩ nd)
    rintro ρ ω ⟨a, b, c, rfl, rfl⟩
    rw [rngD_len]
    exact db_one (ds_ret (de_var 2 rfl) rfl))) (fun _ _ _ _ _ _ us hl => match us, hl with | [_, _], _ => rfl)
end
end G

/-! R8 -/
set_option Elab.async false
set_option linter.all false
set_option maxRecDepth 100000
set_option maxHeartbeats 4000000
namespace G
open PySem L2
section
variable {X : Cx} {ρ : Rho} {ω ω1 ω2 : Om} {a b : Expr} {l : List D} {pos : Pos}
theorem eqv_nil (l : List D) : PyData.eqv (py (.lst l)) (py (.lst [])) = l.isEmpty := by
  cases l with
  | nil => rfl
  | cons d l => rfl
theorem dt_neE (hu : X.A.units + 65 < cLine) (h : ∀ d ∈ l, EqOk d) (ha : DE X ρ ω ω1 a (.lst l)) (hb : DE X ρ ω1 ω2 b (.lst [])) : DT X ρ ω ω2 (.Compare a [.NotEq] [b] pos) (!l.isEmpty) := by
  have := dt_cmp (pos := pos) (op_neD (by omega)) (rr_neD (K := X.K) (x := .lst l) (y := .lst []) (eqishs_plain (eqishs_of fun d hd => (h d hd).e)) rfl (eqOks_shaped h) (by rfl)) (nomark _) ha hb
  unfold eqD at this
  rwa [eqv_nil] at this
theorem dt_eqE (hu : X.A.units + 65 < cLine) (h : ∀ d ∈ l, EqOk d) (ha : DE X ρ ω ω1 a (.lst l)) (hb : DE X ρ ω1 ω2 b (.lst [])) : DT X ρ ω ω2 (.Compare a [.Eq] [b] pos) l.isEmpty := by
  have := dt_cmp (pos := pos) (op_eqD (by omega)) (rr_eqD (K := X.K) (x := .lst l) (y := .lst []) (eqishs_plain (eqishs_of fun d hd => (h d hd).e)) rfl (eqOks_shaped h) (by rfl)) (nomark _) ha hb
  unfold eqD at this
  rwa [eqv_nil] at this
end
theorem prP_lt {m : Mach} (O : m.Ok) {d : Nat} {S T : List Nat} (hS : SkOk m d S) (hT : SkOk m d T) {k : Nat} (hk : k < d) : ∀ p ∈ prP m S T d k, p.1 < m.im ∧ p.2 < m.im := fun p hp => by
  obtain ⟨ws, h1, h2, rfl⟩ := (mem_prP O hS hT (by omega)).mp hp
  simp only [if_neg (show ¬ k = d by omega)]
  exact ⟨preV_lt O hS hk h1 h2, preV_lt O hT hk h1 h2⟩
theorem prP_lt0 {m : Mach} (O : m.Ok) {d : Nat} {S T : List Nat} (hS : SkOk m d S) (hT : SkOk m d T) : ∀ p ∈ prP m S T d d, p.1 < m.tm ∧ p.2 < m.tm := fun p hp => by
  obtain ⟨ws, h1, h2, rfl⟩ := (mem_prP O hS hT (Nat.le_refl d)).mp hp
  simp only [if_pos, Nat.sub_self, List.drop_zero]
  exact ⟨preV_lt0 O hS h1 h2, preV_lt0 O hT h1 h2⟩
theorem grid_len {l : Lot} (nd : l.Nodup) (h : ∀ p ∈ l, p ∈ grid) : l.length ≤ 9 := nodup_sub nd h
theorem prP_len {m : Mach} {d : Nat} {S T : List Nat} : ∀ {k : Nat}, (prP m S T d k).length ≤ 9
  | 0 => by show 1 ≤ 9; decide
  | k + 1 => by
    show (srtP _).length ≤ 9
    unfold srtP
    exact Nat.le_trans (List.length_filter_le _ _) (by decide)
theorem bad_ok {m : Mach} {S T : List Nat} {d : Nat} {f : List Nat} : (((prP m S T d d).filter fun p => !decide (ansOf m (app f p.1) = ansOf m (app f p.2))).isEmpty) = (prP m S T d d).all fun p => decide (ansOf m (app f p.1) = ansOf m (app f p.2)) := by
  induction prP m S T d d with
  | nil => rfl
  | cons p l ih =>
    rw [List.filter_cons, List.all_cons]
    by_cases q : ansOf m (app f p.1) = ansOf m (app f p.2)
    · rw [if_neg (by simp [q]), ih, decide_eq_true q]; rfl
    · rw [if_pos (by simp [q]), decide_eq_false q]; rfl
theorem srtP_nodup {l : Lot} : (srtP l).Nodup := by unfold srtP; exact grid_nodup.sublist List.filter_sublist
theorem srtP_sorted {l : Lot} : ((srtP l).map pI).Pairwise fun a b => TS.code 64 a ≤ TS.code 64 b := by
  unfold srtP
  exact List.Pairwise.sublist (List.Sublist.map _ List.filter_sublist) grid_sorted
section
variable {P : Program} {w : World} {K : PySem.W.Frag} {mg : Str → Option Value} {base : Heap} {f : Addr} {fd : FuncData}
theorem c__law_alike (m : MG mg) (F : FnP K "_law_alike" 59 f fd) (g : mg "_law_alike" = some (.ref f)) : Callee P w K mg base 1 "_law_alike" 4 R_alike :=
  callee (ps := ["_law_machine_here", "_law_lots_here", "_law_one", "_law_other"]) F g (fn_pure (k := 0) (N := ["_law_machine_here", "_law_lots_here", "_law_one", "_law_other", "_law_pairs", "_law_level", "_law_part", "_law_led", "_law_made", "_law_steps", "_law_answers", "_law_here", "_law_there"]) F ⟨rfl, rfl, rfl, by decide +kernel, rfl, by decide +kernel, by decide +kernel⟩ (by
    rintro cdv A outer s H E ds z hr hl ⟨M, d, S, T, O, hd3, hS, hT, rfl, rfl⟩
    have nd : (["_law_machine_here", "_law_lots_here", "_law_one", "_law_other", "_law_pairs", "_law_level", "_law_part", "_law_led", "_law_made", "_law_steps", "_law_answers", "_law_here", "_law_there"] : List Str).Nodup := by decide +kernel
    have hu := room65 hr
    have i2 := O.im2
    have t3 := O.tm3
    have lS : ((S.map nI).length : Int) - 1 = (d : Int) := by rw [List.length_map, hS.len]; omega
    have lT : ((T.map nI).length : Int) - 1 = (d : Int) := by rw [List.length_map, hT.len]; omega
    refine db_cons (ds_set (i := 4) (d := .lst ((prP M S T d 0).map pD)) (de_lst (da_1 (de_tup (da_cons (de_ixT (at_nI (r := S) (s := d) (by rw [hS.len]; omega)) (de_var 2 rfl) (EvP.is (de_sub (lenT m (de_var 2 rfl)) de_int) (congrArg D.int lS))) (da_1 (de_ixT (at_nI (r := T) (s := d) (by rw [hT.len]; omega)) (de_var 3 rfl) (EvP.is (de_sub (lenT m (de_var 3 rfl)) de_int) (congrArg D.int lT))))) (by show 2 ≤ 100000; decide))) (by show 1 ≤ 100000; decide)) ?_ nd)
    refine db_cons (ds_forN (di_rngDown (i := (d : Int)) (j := 0) m.range (by exact rfl) (by omega) (by omega) (da_cons (EvP.is (de_sub (lenT m (de_var 2 rfl)) de_int) (congrArg D.int lS)) (da_cons de_int (da_1 (de_neg de_int))))) (fun k ρ ω => ∃ a b c e l, ρ = [some (machD M), some (lotsD M), some (tN S), some (tN T), some (.lst ((prP M S T d k).map pD)), a, b, l, c, e, none, none, none] ∧ ω = []) ⟨none, none, none, none, none, rfl, rfl⟩ (fun k ρ ω ⟨_, _, _, _, _, _, e⟩ => e) ?_ ?_ rfl PySem.PassesOwn.never)
    · rintro k dk ρ ω hd ⟨a, b, c, e, l, rfl, rfl⟩
      have hk : k < d := by
        have := (List.getElem?_eq_some_iff.mp hd).1
        rw [rngD_len] at this
        omega
      have edk : dk = nI (d - k) := by
        rw [rngD_get (by omega)] at hd
        have := Option.some.inj hd
        rw [← this]
        show D.int _ = D.int _
        congr 1
        omega
      subst edk
      have pl := prP_lt O hS hT hk
      have pn := prP_len (m := M) (S := S) (T := T) (d := d) (k := k)
      obtain ⟨pr, hpr⟩ : ∃ x, x = prP M S T d k := ⟨_, rfl⟩
      have nx : prP M S T d (k + 1) = srtP ((ledP (L3 M) pr).map fun p => (ent (chAt M (d - k)) p.1 (app S (d - k - 1)), ent (chAt M (d - k)) p.2 (app T (d - k - 1)))) := by rw [hpr]; rfl
      rw [← hpr] at pl pn ⊢
      rw [nx]
      have l3 := lawMaps_ok (stp3_ok O)
      refine ⟨_, [5], dg_name 5 nd, ?_⟩
      refine db_consN (ds_set (i := 6) (ω1 := []) (d := nI (if 1 < d - k then 3 else 2)) (de_if (k := decide (1 < d - k)) (EvT.is (dt_gt (de_var 5 rfl) de_int) (decide_eq_decide.mpr (by omega))) (fun q => by rw [if_pos (of_decide_eq_true q)]; exact de_int) (fun q => by rw [if_neg (of_decide_eq_false q)]; exact de_int)) ?_ nd)
      refine db_consN (ds_setO (i := 7) do_dict0 ?_ (by show 7 < 13; decide) nd)
      refine db_consN (ds_for (di_list (de_ixT (atN (j := 0) rfl) (de_var 1 rfl) de_int)) (fun j ρ ω => ∃ (acc : Lot) (c : Option D), ρ = [some (machD M), some (lotsD M), some (tN S), some (tN T), some (.lst (pr.map pD)), some (nI (d - k)), some (nI (if 1 < d - k then 3 else 2)), none, c, e, none, none, none] ∧ ω = [(7, .dct (acc.map pD) (tru (acc.map pD)))] ∧ acc.Nodup ∧ ∀ x, x ∈ acc ↔ x ∈ ledP ((L3 M).take j) pr) ⟨[], c, rfl, rfl, .nil, fun x => by simp [ledP]⟩ ?_ ?_ rfl PySem.PassesOwn.never)
      · rintro j d2 ρ ω hd2 ⟨acc, c, rfl, rfl, nda, hacc⟩
        rw [List.getElem?_map] at hd2
        cases hx : (L3 M)[j]? with
        | none => rw [hx] at hd2; cases hd2
        | some g =>
          rw [hx] at hd2
          cases hd2
          have hgm : g ∈ L3 M := List.mem_of_getElem? hx
          have gl := l3.len g hgm
          have gb := l3.bd g hgm
          have led3 : ∀ x ∈ ledP (L3 M) pr, x ∈ grid := fun x hx => by
            obtain ⟨f, hf, p, hp, rfl⟩ := mem_ledP.mp hx
            have h1 := l3.bd f hf _ (app_mem (show p.1 < f.length by rw [l3.len f hf]; exact (pl p hp).1))
            have h2 := l3.bd f hf _ (app_mem (show p.2 < f.length by rw [l3.len f hf]; exact (pl p hp).2))
            exact mem_grid.mpr ⟨by show app f p.1 < 3; omega, by show app f p.2 < 3; omega⟩
          have sub : ∀ x ∈ pr.map (fun p => (app g p.1, app g p.2)), x ∈ ledP (L3 M) pr := fun x hx => by
            obtain ⟨p, hp, rfl⟩ := List.mem_map.mp hx
            exact mem_ledP.mpr ⟨g, hgm, p, hp, rfl⟩
          have accs : ∀ x ∈ acc, x ∈ ledP (L3 M) pr := fun x hx => by
            obtain ⟨f, hf, p, hp, rfl⟩ := mem_ledP.mp ((hacc x).mp hx)
            exact mem_ledP.mpr ⟨f, List.mem_of_mem_take hf, p, hp, rfl⟩
          have al := grid_len nda fun x hx => led3 x (accs x hx)
          have dl := grid_len (nodup_ddU (l := pr.map fun p => (app g p.1, app g p.2))) fun x hx => led3 x (sub x (mem_ddU.mp hx))
          have ek : ddK ((pr.map fun p => (app g p.1, app g p.2)).map pD) = (ddU (pr.map fun p => (app g p.1, app g p.2))).map pD := ddK_enc encP
          refine ⟨_, [8], dg_name 8 nd, ?_⟩
          refine db_one (ds_update (ks := acc.map pD) (ks2 := (ddU (pr.map fun p => (app g p.1, app g p.2))).map pD) 7 (lt16 hu) List.mem_cons_self (by
            rw [← ek]
            exact (do_dictL rfl (lt16 hu) m.dict (by exact rfl) (EvP.is (do_map (own := [("_law_here", 11), ("_law_there", 12)]) (f := fun d => .tup [pD (app g (unP d).1, app g (unP d).2), .bl true]) rfl nd (di_list (de_var 4 rfl)) (blkOk_by (by show blkC ["_law_machine_here", "_law_lots_here", "_law_one", "_law_other", "_law_pairs", "_law_level", "_law_part", "_law_led", "_law_made", "_law_steps", "_law_answers", "_law_here", "_law_there"] (defScope (top 59)) _ _ = true; decide +kernel)) (by simp) (by rw [List.length_map]; omega) (fun d hd => by
              obtain ⟨p, hp, rfl⟩ := List.mem_map.mp hd
              obtain ⟨b1, b2⟩ := pl p hp
              exact ⟨_, [11, 12], by simp, fun _ _ _ _ _ => dg_tup rfl (dgs_cons (i := 11) (dgs_cons (i := 12) dgs_nil nd) nd), fun _ _ _ _ _ => de_tup (da_cons (de_tup (da_cons (de_ixT (at_nI (r := g) (s := p.1) (by rw [gl]; exact b1)) (de_var 8 rfl) (de_var 11 rfl)) (da_1 (de_ixT (at_nI (r := g) (s := p.2) (by rw [gl]; exact b2)) (de_var 8 rfl) (de_var 12 rfl)))) (by show 2 ≤ 100000; decide)) (da_1 de_bl)) (by show 2 ≤ 100000; decide)⟩)).data (by rw [List.map_map, List.map_map, List.map_map]; rfl)) (fun d hd => by
                obtain ⟨p, _, rfl⟩ := List.mem_map.mp hd
                exact pD_kOk p) (by rw [List.length_map, List.length_map]; omega)).dataD) (fun d hd => by
              obtain ⟨p, _, rfl⟩ := List.mem_map.mp hd
              exact (pD_kOk p).1) (fun d hd => by
              obtain ⟨p, _, rfl⟩ := List.mem_map.mp hd
              exact (pD_kOk p).1) (hP_nodup nodup_ddU fun x hx => led3 x (sub x (mem_ddU.mp hx))) (by rw [List.length_map, List.length_map]; omega) ?_ ⟨by rfl, by rfl, by rfl, by rfl⟩)
          rw [foldK_enc encP]
          refine ⟨(ddU (pr.map fun p => (app g p.1, app g p.2))).foldl addU acc, _, rfl, rfl, nodup_foldU _ _ nda, fun x => ?_⟩
          rw [mem_foldU, hacc, mem_ddU, take_next hx]
          unfold ledP
          rw [List.flatMap_append, List.mem_append, List.flatMap_cons, List.flatMap_nil, List.append_nil]
      · rintro ρ ω ⟨acc, c, rfl, rfl, nda, hacc⟩
        rw [List.length_map, List.take_length] at hacc
        refine db_freezeN 7 List.mem_cons_self (DBn.of ?_)
        obtain ⟨pl', h0, h3⟩ : ∃ pl', L2.atI (parts M) (((if 1 < d - k then 3 else 2 : Nat)) : Int) = some (.tup pl') ∧ L2.atI pl' 3 = some (tNN (chAt M (d - k))) := by
          by_cases q : 1 < d - k
          · exact ⟨_, by rw [if_pos q]; rfl, by unfold chAt; rw [if_pos q]; rfl⟩
          · exact ⟨_, by rw [if_neg q]; rfl, by unfold chAt; rw [if_neg q]; rfl⟩
        obtain ⟨n, n3, TC, bS, bT⟩ : ∃ n, n ≤ 3 ∧ Tab (chAt M (d - k)) M.im n n ∧ app S (d - k - 1) < n ∧ app T (d - k - 1) < n := by
          by_cases q : 1 < d - k
          · exact ⟨M.im, by omega, by unfold chAt; rw [if_pos q]; exact O.ich, hS.tl _ (by omega) (by omega), hT.tl _ (by omega) (by omega)⟩
          · have e0 : d - k - 1 = 0 := by omega
            exact ⟨M.tm, by omega, by unfold chAt; rw [if_neg q]; exact O.tch, by rw [e0]; exact hS.hd, by rw [e0]; exact hT.hd⟩
        have accb : ∀ p ∈ acc, p.1 < M.im ∧ p.2 < M.im := fun x hx => by
          obtain ⟨f, hf, p, hp, rfl⟩ := mem_ledP.mp ((hacc x).mp hx)
          exact ⟨l3.bd f hf _ (app_mem (show p.1 < f.length by rw [l3.len f hf]; exact (pl p hp).1)), l3.bd f hf _ (app_mem (show p.2 < f.length by rw [l3.len f hf]; exact (pl p hp).2))⟩
        have al := grid_len nda fun x hx => mem_grid.mpr ⟨by have := (accb x hx).1; omega, by have := (accb x hx).2; omega⟩
        obtain ⟨cl, hcl⟩ : ∃ cl : Nat × Nat → Nat × Nat, cl = fun p => (ent (chAt M (d - k)) p.1 (app S (d - k - 1)), ent (chAt M (d - k)) p.2 (app T (d - k - 1))) := ⟨_, rfl⟩
        have clb : ∀ p ∈ acc, (cl p).1 < 3 ∧ (cl p).2 < 3 := fun p hp => by
          obtain ⟨b1, b2⟩ := accb p hp
          have c1 := TC.ent b1 bS
          have c2 := TC.ent b2 bT
          rw [hcl]
          exact ⟨by show ent (chAt M (d - k)) p.1 (app S (d - k - 1)) < 3; omega, by show ent (chAt M (d - k)) p.2 (app T (d - k - 1)) < 3; omega⟩
        have lv : ((d - k : Nat) : Int) - 1 = ((d - k - 1 : Nat) : Int) := by omega
        refine db_cons (ds_set (i := 9) (ω1 := []) (d := tNN (chAt M (d - k))) (de_ixT h3 (de_ixT h0 (de_var 0 rfl) (de_var 6 rfl)) de_int) ?_ nd)
        rw [← hcl]
        refine db_one (ds_set (i := 4) (ω1 := []) (d := .lst ((srtP ((ledP (L3 M) pr).map cl)).map pD)) (EvP.is (srtSetT (B := 64) (n := 2) (ls := (acc.map cl).map pI) (ms := (srtP ((ledP (L3 M) pr).map cl)).map pI) m (EvP.is (do_map (own := [("_law_here", 11), ("_law_there", 12)]) (f := fun d => pD (cl (unP d))) rfl nd (di_keysT (de_var 7 rfl)) (blkOk_by (by show blkC ["_law_machine_here", "_law_lots_here", "_law_one", "_law_other", "_law_pairs", "_law_level", "_law_part", "_law_led", "_law_made", "_law_steps", "_law_answers", "_law_here", "_law_there"] (defScope (top 59)) _ _ = true; decide +kernel)) (by simp) (by rw [List.length_map]; omega) (fun dd hd => ?_)).data ?_) (by decide) (fun x hx => ?_) (by rw [List.length_map, List.length_map]; omega) (List.pairwise_map.mpr (srtP_nodup.imp fun h e => h (pI_inj e))) (fun x => ?_) srtP_sorted (by show A.units + _ + 64 < cLine; have := hu; exact Nat.lt_of_succ_lt this)) ?_) ⟨_, _, _, _, _, rfl, rfl⟩ nd)
        · obtain ⟨p, hp, rfl⟩ := List.mem_map.mp hd
          obtain ⟨b1, b2⟩ := accb p hp
          refine ⟨_, [11, 12], by simp, fun _ _ _ _ _ => dg_tup rfl (dgs_cons (i := 11) (dgs_cons (i := 12) dgs_nil nd) nd), fun _ _ _ _ _ => EvP.is (de_tup (da_cons (de_ixT (at_nI (r := (chAt M (d - k)).getD p.1 []) (s := app S (d - k - 1)) (by rw [TC.cols _ (TC.row b1)]; exact bS)) (de_ixT (at_tN (by rw [TC.rows]; exact b1)) (de_var 9 rfl) (de_var 11 rfl)) (de_ixT (at_nI (r := S) (s := d - k - 1) (by rw [hS.len]; omega)) (de_var 2 rfl) (EvP.is (de_sub (de_var 5 rfl) de_int) (congrArg D.int lv))))
            (da_1 (de_ixT (at_nI (r := (chAt M (d - k)).getD p.2 []) (s := app T (d - k - 1)) (by rw [TC.cols _ (TC.row b2)]; exact bT)) (de_ixT (at_tN (by rw [TC.rows]; exact b2)) (de_var 9 rfl) (de_var 12 rfl)) (de_ixT (at_nI (r := T) (s := d - k - 1) (by rw [hT.len]; omega)) (de_var 3 rfl) (EvP.is (de_sub (de_var 5 rfl) de_int) (congrArg D.int lv)))))) (by show 2 ≤ 100000; decide)) ?_⟩
          rw [unP_pD, hcl]; rfl
        · rw [List.map_map, List.map_map, List.map_map]; rfl
        · obtain ⟨y, hy, rfl⟩ := List.mem_map.mp hx
          obtain ⟨p, hp, rfl⟩ := List.mem_map.mp hy
          exact pI_code (clb p hp)
        · constructor
          · intro h
            obtain ⟨y, hy, rfl⟩ := List.mem_map.mp h
            obtain ⟨p, hp, rfl⟩ := List.mem_map.mp (mem_srtP.mp hy).2
            exact List.mem_map.mpr ⟨_, List.mem_map.mpr ⟨p, (hacc p).mpr hp, rfl⟩, rfl⟩
          · intro h
            obtain ⟨y, hy, rfl⟩ := List.mem_map.mp h
            obtain ⟨p, hp, rfl⟩ := List.mem_map.mp hy
            exact List.mem_map.mpr ⟨_, mem_srtP.mpr ⟨clb p hp, List.mem_map.mpr ⟨p, (hacc p).mp hp, rfl⟩⟩, rfl⟩
        · rw [List.map_map]; rfl
    rintro ρ ω ⟨a, b, c, e, l, rfl, rfl⟩
    rw [rngD_len, show ((d : Int) - 0).toNat = d by omega]
    have pl0 := prP_lt0 O hS hT
    have pn := prP_len (m := M) (S := S) (T := T) (d := d) (k := d)
    have l2 := lawMaps_ok (stp2_ok O)
    refine db_cons (ds_set (i := 10) (ω1 := []) (d := tBB M.ans) (de_ixT (atN (j := 4) rfl) (de_ixT (atN (j := 2) rfl) (de_var 0 rfl) de_int) de_int) ?_ nd)
    refine db_cons (ds_for (di_list (de_ixT (atN (j := 1) rfl) (de_var 1 rfl) de_int)) (fun j ρ ω => (∃ c, ρ = [some (machD M), some (lotsD M), some (tN S), some (tN T), some (.lst ((prP M S T d d).map pD)), a, b, l, c, e, some (tBB M.ans), none, none]) ∧ ω = [] ∧ ((L2' M).take j).all (fun f => (prP M S T d d).all fun p => decide (ansOf M (app f p.1) = ansOf M (app f p.2))) = true) ⟨⟨c, rfl⟩, rfl, rfl⟩ ?_ ?_ rfl PySem.PassesOwn.never)
    · rintro j d2 ρ ω hd2 ⟨⟨c, rfl⟩, rfl, hall⟩
      rw [List.getElem?_map] at hd2
      cases hx : (L2' M)[j]? with
      | none => rw [hx] at hd2; cases hd2
      | some g =>
        rw [hx] at hd2
        cases hd2
        have hgm : g ∈ L2' M := List.mem_of_getElem? hx
        have gl := l2.len g hgm
        have gb := l2.bd g hgm
        have bo := bad_ok (m := M) (S := S) (T := T) (d := d) (f := g)
        have ga : ∀ a, a < M.tm → app g a < M.ans.length := fun a ha => by rw [O.ans]; exact gb _ (app_mem (by rw [gl]; exact ha))
        refine ⟨_, [8], dg_name 8 nd, ?_⟩
        refine db_one (ds_if (k := !((prP M S T d d).filter fun p => !decide (ansOf M (app g p.1) = ansOf M (app g p.2))).isEmpty) (EvT.is (dt_neE (l := (((prP M S T d d).map pD).filter fun x => !decide (ansOf M (app g (unP x).1) = ansOf M (app g (unP x).2))).map fun x => nI (unP x).1) hu (fun x hx => by
            obtain ⟨_, _, rfl⟩ := List.mem_map.mp hx
            exact encN.ok _) (do_filter (own := [("_law_here", 11), ("_law_there", 12)]) (q := fun x => !decide (ansOf M (app g (unP x).1) = ansOf M (app g (unP x).2))) (f := fun x => nI (unP x).1) rfl nd (di_list (de_var 4 rfl)) (blkOk_by (by show blkC ["_law_machine_here", "_law_lots_here", "_law_one", "_law_other", "_law_pairs", "_law_level", "_law_part", "_law_led", "_law_made", "_law_steps", "_law_answers", "_law_here", "_law_there"] (defScope (top 59)) _ _ = true; decide +kernel)) (by simp) (by rw [List.length_map]; omega) (fun dd hd => ?_)).data (de_lst da_nil (by simp))) ?_) (fun q => ?_) (fun q => ?_))
        · obtain ⟨p, hp, rfl⟩ := List.mem_map.mp hd
          obtain ⟨b1, b2⟩ := pl0 p hp
          refine ⟨_, [11, 12], by simp, fun _ _ _ _ _ => dg_tup rfl (dgs_cons (i := 11) (dgs_cons (i := 12) dgs_nil nd) nd), fun _ _ _ _ _ => dts_one (EvT.is (dt_neK hu (encTB.ok (ansOf M (app g p.1))) (encTB.ok (ansOf M (app g p.2))) (de_ixT (at_ans (ga _ b1)) (de_var 10 rfl) (de_ixT (at_nI (r := g) (s := p.1) (by rw [gl]; exact b1)) (de_var 8 rfl) (de_var 11 rfl))) (de_ixT (at_ans (ga _ b2)) (de_var 10 rfl) (de_ixT (at_nI (r := g) (s := p.2) (by rw [gl]; exact b2)) (de_var 8 rfl) (de_var 12 rfl)))) ?_), fun _ _ _ _ _ _ => de_var 11 rfl⟩
          rw [encTB.dec]; rfl
        · rw [List.filter_map]
          simp only [List.isEmpty_map]
          rfl
        · have q : (prP M S T d d).all (fun p => decide (ansOf M (app g p.1) = ansOf M (app g p.2))) = false := by rw [← bo]; simpa using q
          refine db_one (ds_ret de_bl ?_)
          show D.bl false = D.bl (lawAlk M S T d)
          have : ¬ lawAlk M S T d = true := fun h => by
            unfold lawAlk at h
            rw [List.all_eq_true] at h
            have := h g hgm
            rw [q] at this; cases this
          rw [Bool.not_eq_true] at this
          rw [this]
        · have q : (prP M S T d d).all (fun p => decide (ansOf M (app g p.1) = ansOf M (app g p.2))) = true := by rw [← bo]; simpa using q
          refine db_nil ⟨⟨_, rfl⟩, rfl, ?_⟩
          rw [take_next hx, List.all_append, hall, Bool.true_and, List.all_cons, q]; rfl
    · rintro ρ ω ⟨⟨c, rfl⟩, rfl, hall⟩
      rw [List.length_map, List.take_length] at hall
      refine db_one (ds_ret de_bl ?_)
      show D.bl true = D.bl (lawAlk M S T d)
      rw [show lawAlk M S T d = true from hall])) (fun _ _ _ _ _ _ us hl => match us, hl with | [_, _, _, _], _ => rfl)
end
end G

/-! R9 -/
set_option Elab.async false
set_option linter.all false
set_option maxRecDepth 100000
set_option maxHeartbeats 1000000
namespace G
open PySem L2
section
variable {X : Cx} {ρ : Rho} {ω ω1 ω2 ω3 ω4 : Om} {a b c e : Expr} {x y y2 y3 z : D} {pos p : Pos}
theorem ca4' {n : Str} {j k : Nat} {R : List D → D → Prop} (C : Callee X.prog X.w X.K X.mg X.base j n 4 R) (hr : Room k X.A) (hj : j ≤ k) (ha : DE X ρ ω ω1 a x) (hb : DE X ρ ω1 ω2 b y) (hc : DE X ρ ω2 ω3 c y2) (he0 : DE X ρ ω3 ω4 e y3) (hR : R [x, y, y2, y3] z) (hg : Gl X n := by exact rfl)
    (hdb : (n == ("__debug__" : Str)) = false := by decide) (he : starEach [a, b, c, e] X.env = (false, eval a X.env) :: starEach [b, c, e] X.env := by rfl) (he2 : starEach [b, c, e] X.env = (false, eval b X.env) :: starEach [c, e] X.env := by rfl) (he3 : starEach [c, e] X.env = (false, eval c X.env) :: starEach [e] X.env := by rfl) (he4 : starEach [e] X.env = (false, eval e X.env) :: starEach [] X.env := by rfl)
    (hpl : (backTo pos (starEach [b, c, e] X.env)).any (·.1) = false := by rfl) : DE X ρ ω ω4 (.Call (.Name n p) [a, b, c, e] [] pos) z := de_call C (hr.mono hj) hg hR (da_cons ha (da_cons hb (da_cons hc (da_1 he0 he4) he3) he2) he) rfl hdb he hpl
end
theorem first_least {m : Mach} (O : m.Ok) {d : Nat} {S U : List Nat} {j : Nat} (hU : (stacksOf m d)[j]? = some U) (ha : Alk m S U) (hn : ∀ i, i < j → ∀ V, (stacksOf m d)[i]? = some V → ¬ Alk m S V) : IsLeast m d S U := ⟨List.mem_of_getElem? hU, ha, fun V hV hA => by
  obtain ⟨i, hi, e⟩ := List.mem_iff_getElem.mp hV
  have hj := (List.getElem?_eq_some_iff.mp hU)
  obtain ⟨hjl, ej⟩ := hj
  rcases Nat.lt_trichotomy i j with q | q | q
  · exact absurd hA (hn i q V (by rw [List.getElem?_eq_getElem hi, e]))
  · subst q
    rw [e] at ej
    subst ej
    exact Int.le_refl _
  · have := List.pairwise_iff_getElem.mp (stacksOf_asc O (d := d)) j i hjl hi q
    rw [e, ej] at this
    omega⟩
section
variable {P : Program} {w : World} {K : PySem.W.Frag} {mg : Str → Option Value} {base : Heap} {f : Addr} {fd : FuncData}
def R_law_least (ds : List D) (z : D) : Prop := ∃ (m : Mach) (d : Nat) (S : List Nat), m.Ok ∧ d ≤ 3 ∧ CS m d S ∧ ds = [machD m, lotsD m, tN S] ∧ z = tN (lst m d S)
theorem c__law_least (m : MG mg) (C1 : Callee P w K mg base 1 "_law_all_stacks" 2 R_all_stacks) (C2 : Callee P w K mg base 1 "_law_alike" 4 R_alike) (F : FnP K "_law_least" 61 f fd) (g : mg "_law_least" = some (.ref f)) : Callee P w K mg base 2 "_law_least" 3 R_law_least :=
  callee (ps := ["_law_machine_here", "_law_lots_here", "_law_stack"]) F g (fn_pure (k := 1) (N := ["_law_machine_here", "_law_lots_here", "_law_stack", "_law_other"]) F ⟨rfl, rfl, rfl, by decide +kernel, rfl, by decide +kernel, by decide +kernel⟩ (by
    rintro cdv A outer s H E ds z hr hl ⟨M, d, S, O, hd3, hS, rfl, rfl⟩
    have nd : (["_law_machine_here", "_law_lots_here", "_law_stack", "_law_other"] : List Str).Nodup := by decide +kernel
    have lS : ((S.map nI).length : Int) - 1 = (d : Int) := by rw [List.length_map, hS.len]; omega
    refine db_cons (ds_for (di_list (ca2 C1 hr (by decide) (de_var 1 rfl) (EvP.is (de_sub (lenT m (de_var 2 rfl)) de_int) (congrArg D.int lS)) ⟨M, d, O, hd3, rfl, rfl⟩)) (fun j ρ ω => (∃ c, ρ = [some (machD M), some (lotsD M), some (tN S), c]) ∧ ω = [] ∧ ∀ i, i < j → ∀ V, (stacksOf M d)[i]? = some V → ¬ Alk M S V) ⟨⟨none, rfl⟩, rfl, fun i hi => absurd hi (by omega)⟩ ?_ ?_ rfl PySem.PassesOwn.never)
    · rintro j d2 ρ ω hd2 ⟨⟨c, rfl⟩, rfl, hn⟩
      rw [List.getElem?_map] at hd2
      cases hx : (stacksOf M d)[j]? with
      | none => rw [hx] at hd2; cases hd2
      | some U =>
        rw [hx] at hd2
        cases hd2
        have hU := (mem_stacksOf O).mp (List.mem_of_getElem? hx)
        have iff := lawAlk_iff O (hS.sk O) (hU.sk O)
        refine ⟨_, [3], dg_name 3 nd, ?_⟩
        refine db_one (ds_if (k := lawAlk M S U d) (dt_val (ca4' C2 hr (by decide) (de_var 0 rfl) (de_var 1 rfl) (de_var 2 rfl) (de_var 3 rfl) ⟨M, d, S, U, O, hd3, hS.sk O, hU.sk O, rfl, rfl⟩)) (fun q => ?_) (fun q => ?_))
        · refine db_one (ds_ret (de_var 3 rfl) ?_)
          show tN U = tN (lst M d S)
          rw [(first_least O hx (iff.mp q) hn).uniq O (lst_ok O hS)]
        · refine db_nil ⟨⟨_, rfl⟩, rfl, fun i hi V hV => ?_⟩
          by_cases z : i = j
          · subst z
            rw [hx] at hV
            cases hV
            intro h
            rw [iff.mpr h] at q; cases q
          · exact hn i (by omega) V hV
    · rintro ρ ω ⟨⟨c, rfl⟩, rfl, hn⟩
      exfalso
      have L := lst_ok O hS
      obtain ⟨i, hi, e⟩ := List.mem_iff_getElem.mp L.mem
      exact hn i (by rw [List.length_map]; exact hi) _ (by rw [List.getElem?_eq_getElem hi, e]) L.alk)) (fun _ _ _ _ _ _ us hl => match us, hl with | [_, _, _], _ => rfl)
end
end G

/-! R10 -/
set_option Elab.async false
set_option linter.all false
set_option maxRecDepth 100000
set_option maxHeartbeats 1000000
namespace G
open PySem L2
/-! ## What repr can be asked of -/
structure ReprOk (k n : Nat) (d : D) : Prop where
  pl : plain d = true
  sh : (py d).showable = true
  nd : (py d).hasDict = false
  dp : (py d).depth ≤ k
  ls : (py d).leavesShort 13 = true
  wt : (py d).weight ≤ n
theorem reprs {k n : Nat} : ∀ {l : List D}, (∀ d ∈ l, ReprOk k n d) → plains l = true ∧ PyData.showableAll (pys l) = true ∧ PyData.hasDictAll (pys l) = false ∧ PyData.depthAll (pys l) ≤ k ∧ PyData.leavesShortAll 13 (pys l) = true ∧ PyData.weightAll (pys l) ≤ l.length * (n + 1)
  | [], _ => ⟨rfl, by simp only [pys, PyData.showableAll], by simp only [pys, PyData.hasDictAll], by show 0 ≤ k; omega, by simp only [pys, PyData.leavesShortAll], by simp only [pys, PyData.weightAll]; omega⟩
  | d :: l, h => by
    obtain ⟨h1, h2, h3, h4, h5, h6⟩ := reprs fun x hx => h x (List.mem_cons_of_mem _ hx)
    have a := h d List.mem_cons_self
    refine ⟨?_, ?_, ?_, ?_, ?_, ?_⟩
    · show (plain d && plains l) = true
      rw [a.pl, h1]; rfl
    · show PyData.showableAll (py d :: pys l) = true
      simp only [PyData.showableAll, a.sh, h2, Bool.and_self]
    · show PyData.hasDictAll (py d :: pys l) = false
      simp only [PyData.hasDictAll, a.nd, h3, Bool.or_self]
    · show max ((py d).depth) (PyData.depthAll (pys l)) ≤ k
      exact Nat.max_le.mpr ⟨a.dp, h4⟩
    · show PyData.leavesShortAll 13 (py d :: pys l) = true
      simp only [PyData.leavesShortAll, a.ls, h5, Bool.and_self]
    · show PyData.weightAll (py d :: pys l) ≤ (l.length + 1) * (n + 1)
      simp only [PyData.weightAll]
      have := a.wt
      rw [Nat.add_mul, Nat.one_mul]
      omega
theorem ReprOk.tup {k n c : Nat} {l : List D} (h : ∀ d ∈ l, ReprOk k n d) (hc : l.length ≤ c) : ReprOk (k + 1) (c * (n + 1)) (.tup l) := by
  obtain ⟨h1, h2, h3, h4, h5, h6⟩ := reprs h
  refine ⟨h1, ?_, ?_, ?_, ?_, ?_⟩
  · show (PyData.tuple (pys l)).showable = true
    simp only [PyData.showable]; exact h2
  · show (PyData.tuple (pys l)).hasDict = false
    simp only [PyData.hasDict]; exact h3
  · show PyData.depthAll (pys l) + 1 ≤ k + 1
    omega
  · show (PyData.tuple (pys l)).leavesShort 13 = true
    simp only [PyData.leavesShort]; exact h5
  · show (PyData.tuple (pys l)).weight ≤ _
    simp only [PyData.weight]
    exact Nat.le_trans h6 (Nat.mul_le_mul_right _ hc)
theorem ReprOk.lst {k n c : Nat} {l : List D} (h : ∀ d ∈ l, ReprOk k n d) (hc : l.length ≤ c) : ReprOk (k + 1) (c * (n + 1)) (.lst l) := by
  obtain ⟨h1, h2, h3, h4, h5, h6⟩ := reprs h
  refine ⟨h1, ?_, ?_, ?_, ?_, ?_⟩
  · show (PyData.list (pys l)).showable = true
    simp only [PyData.showable]; exact h2
  · show (PyData.list (pys l)).hasDict = false
    simp only [PyData.hasDict]; exact h3
  · show PyData.depthAll (pys l) + 1 ≤ k + 1
    omega
  · show (PyData.list (pys l)).leavesShort 13 = true
    simp only [PyData.leavesShort]; exact h5
  · show (PyData.list (pys l)).weight ≤ _
    simp only [PyData.weight]
    exact Nat.le_trans h6 (Nat.mul_le_mul_right _ hc)
theorem reprOk_nI {x : Nat} (h : x < 64) : ReprOk 0 6 (nI x) := by
  have hl : (x : Int).natAbs.log2 < 6 := by
    rw [Int.natAbs_natCast]
    by_cases z : x = 0
    · subst z; decide
    · exact (Nat.log2_lt z).mpr h
  refine ⟨rfl, ?_, ?_, by show 0 ≤ 0; omega, ?_, ?_⟩
  · show (PyData.int (x : Int)).showable = true
    simp only [PyData.showable]; exact decide_eq_true (by omega)
  · show (PyData.int (x : Int)).hasDict = false
    simp only [PyData.hasDict]
  · show (PyData.int (x : Int)).leavesShort 13 = true
    simp only [PyData.leavesShort]
    exact decide_eq_true (PyData.shown_int_le (by omega))
  · show (PyData.int (x : Int)).weight ≤ 6
    simp only [PyData.weight]
    split
    · omega
    · omega
theorem reprOk_tN {l : List Nat} (h : ∀ x ∈ l, x < 64) (hl : l.length ≤ 4) : ReprOk 1 28 (tN l) := ReprOk.tup (c := 4) (fun d hd => by
  obtain ⟨x, hx, rfl⟩ := List.mem_map.mp hd
  exact reprOk_nI (h x hx)) (by rw [List.length_map]; exact hl)
theorem de_reprO {X : Cx} {ρ : Rho} {ω ω1 : Om} {e : Expr} {d : D} {p pos : Pos} {k n : Nat} (m : MG X.mg) (hgd : X.A.guards = some []) (hu : X.A.units + 65 < cLine) (h : DE X ρ ω ω1 e d) (R : ReprOk k n d) (hk : k ≤ 60) (hn : n ≤ 2 ^ 20) (hq : isSeqD d = true) (hg : Gl X "repr" := by exact rfl)
    (hst : starEach [e] X.env = (false, eval e X.env) :: starEach [] X.env := by rfl) : DE X ρ ω ω1 (.Call (.Name "repr" p) [e] [] pos) (.str (py d).shown) :=
  de_repr m hgd h R.pl hq R.sh R.nd (by have := R.dp; omega) (PyData.shown_fits (by omega) (by omega) R.ls (Nat.le_trans R.wt hn)) hg hst
/-- what is owned is let go -/
theorem db_drop {X : Cx} {ρ : Rho} {ω : Om} {sts : List Stmt} {T : Post} (i : Nat) (h : DB X ρ (odel ω i) sts T) : DB X ρ ω sts T := fun B F H σ Dn W M => h B F H σ Dn W.less M
end G

/-! R11 -/
set_option Elab.async false
set_option linter.all false
set_option maxRecDepth 100000
set_option maxHeartbeats 4000000
namespace G
open PySem L2
open Classical in
noncomputable def isL (m : Mach) (d : Nat) (S : List Nat) : Bool := decide (IsLeast m d S S)
theorem leastsOf_eq (m : Mach) (d : Nat) : (stacksOf m d).filter (isL m d) = leastsOf m d := rfl
theorem isL_iff {m : Mach} {d : Nat} {S : List Nat} : isL m d S = true ↔ IsLeast m d S S := by
  classical
  unfold isL
  rw [decide_eq_true_iff]
theorem isL_first {m : Mach} (O : m.Ok) {d j : Nat} {S : List Nat} (hj : (stacksOf m d)[j]? = some S) : (((((stacksOf m d).take j).filter (isL m d)).filter fun U => lawAlk m S U d).isEmpty) = isL m d S := by
  have hS := (mem_stacksOf O).mp (List.mem_of_getElem? hj)
  obtain ⟨hjl, ej⟩ := List.getElem?_eq_some_iff.mp hj
  have asc := List.pairwise_iff_getElem.mp (stacksOf_asc O (d := d))
  rw [Bool.eq_iff_iff, List.isEmpty_iff, isL_iff, List.filter_eq_nil_iff]
  constructor
  · intro h
    have L := lst_ok O hS
    obtain ⟨i, hi, e⟩ := List.mem_iff_getElem.mp L.mem
    have hLc := (mem_stacksOf O).mp L.mem
    have key : ¬ i < j := fun q => by
      refine h (lst m d S) (List.mem_filter.mpr ⟨?_, isL_iff.mpr L.self⟩) ((lawAlk_iff O (hS.sk O) (hLc.sk O)).mpr L.alk)
      rw [List.mem_take_iff_getElem]
      exact ⟨i, by omega, e⟩
    have le := L.min S (List.mem_of_getElem? hj) (Alk.refl S)
    have : lst m d S = S := by
      rcases Nat.lt_trichotomy i j with q | q | q
      · exact absurd q key
      · subst q; rw [← e, ej]
      · have := asc j i hjl hi q
        rw [e, ej] at this
        omega
    rw [this] at L
    exact L
  · intro L U hU hA
    obtain ⟨h1, h2⟩ := List.mem_filter.mp hU
    obtain ⟨i, hi, e⟩ := List.mem_take_iff_getElem.mp h1
    have hUm : U ∈ stacksOf m d := List.mem_of_mem_take h1
    have hUc := (mem_stacksOf O).mp hUm
    have := L.min U hUm ((lawAlk_iff O (hS.sk O) (hUc.sk O)).mp hA)
    have lt := asc i j (by omega) hjl (by omega)
    rw [e, ej] at lt
    omega
theorem come_ne {m : Mach} (O : m.Ok) : come m ≠ [] := by
  have : 0 < m.st.length := by rw [O.stl]; omega
  exact List.ne_nil_of_mem ((mem_come O).mpr (.start (List.getElem_mem this)))
theorem stacksOf_ne {m : Mach} (O : m.Ok) : ∀ d, stacksOf m d ≠ []
  | 0 => List.ne_nil_of_mem ((mem_stacksOf O).mpr (show CS m 0 [m.tb] from ⟨rfl, .begin, fun x hx => by simp at hx⟩))
  | d + 1 => by
    obtain ⟨S, hS⟩ := List.exists_mem_of_ne_nil _ (stacksOf_ne O d)
    obtain ⟨c, hc⟩ := List.exists_mem_of_ne_nil _ (come_ne O)
    exact List.ne_nil_of_mem (List.mem_flatMap.mpr ⟨S, hS, List.mem_map.mpr ⟨c, hc, rfl⟩⟩)
theorem eqOk_LN (L : List (List Nat)) : EqOk (.tup (L.map tN)) := eqOk_tup fun d hd => by
  obtain ⟨l, _, rfl⟩ := List.mem_map.mp hd
  refine ⟨(encTN.ok l).e, ?_⟩
  have : NestedKey.depthAll (nks (l.map nI)) ≤ 0 := depthAll_le fun d hd => by
    obtain ⟨x, _, rfl⟩ := List.mem_map.mp hd
    show 0 ≤ 0; omega
  show NestedKey.depthAll (nks (l.map nI)) + 1 ≤ 7
  omega
theorem nolsts_N (l : List Nat) : nolsts (l.map nI) = true := by
  induction l with
  | nil => rfl
  | cons a l ih => show (nolst (nI a) && nolsts (l.map nI)) = true; rw [ih]; rfl
theorem nolsts_LN (L : List (List Nat)) : nolsts (L.map tN) = true := by
  induction L with
  | nil => rfl
  | cons a L ih =>
    show (nolst (tN a) && nolsts (L.map tN)) = true
    rw [ih, show nolst (tN a) = true from nolsts_N a]; rfl
theorem not_any {L : List (List Nat)} {x : List Nat} (h : x ∈ L) : (!(L.map tN).any fun z => decide (nk z = nk (tN x))) = false := by
  have : ((L.map tN).any fun z => decide (nk z = nk (tN x))) = true := List.any_eq_true.mpr ⟨tN x, List.mem_map.mpr ⟨x, h, rfl⟩, decide_eq_true rfl⟩
  rw [this]; rfl
theorem calm2 {c : Bst} : calmO [(2, Own.lst (bD c))] := fun p hp => by
  have : p = (2, Own.lst (bD c)) := by simpa using hp
  subst this
  exact ⟨_, rfl, rfl⟩
section
variable {P : Program} {w : World} {K : PySem.W.Frag} {mg : Str → Option Value} {base : Heap} {f : Addr} {fd : FuncData}
theorem law_body (m : MG mg) (CB : CalleeO P w K mg base 1 "_law_box" 2 (R_box K)) (CT : CalleeB P w K mg base 1 "_law_take" 2 R_take) (CK : CalleeB P w K mg base 2 "_law_pick" 2 R_pick) (CM : CalleeB P w K mg base 3 "_law_machine" 4 R_machine) (CL : Callee P w K mg base 1 "_law_lots" 1 R_lots)
    (CA : Callee P w K mg base 1 "_law_all_stacks" 2 R_all_stacks) (CE : Callee P w K mg base 1 "_law_alike" 4 R_alike) (CU : Callee P w K mg base 2 "_law_least" 3 R_law_least) (CS1 : CalleeK P w K mg base 10 "least_stacks" "most" R_least_stacks) (CS2 : CalleeV P w K mg base 10 "least_stacks" 3 ["most", "depth", "machine"] R_least_stacks)
    (CN1 : Callee P w K mg base 9 "least" 2 R_least) (CN2 : CalleeV P w K mg base 9 "least" 2 ["stack", "machine"] R_least) {cdv : Value} {A : Around} {outer : List Env} {s : Shared} {H : Hp} {E : XK} {xs : List Int} (hx : xs.length ≤ 100)
    (hr : Room 10 (A.deeper (PyProof.Rows.envOfC "law" (defScope (top 64)) s.heap.objs.size f cdv))) (hgd : A.guards = some []) : DB (Bx P w K mg base ["_law_script", "_law_k", "_law_box_here", "_law_machine_here", "_law_lots_here", "_law_deep", "_law_stacks", "_law_firsts", "_law_stack", "_law_turn", "_law_due", "_law_one"] "law" (defScope (top 64)) f cdv A outer s H E) (rho0 ["_law_script", "_law_k", "_law_box_here", "_law_machine_here", "_law_lots_here", "_law_deep", "_law_stacks", "_law_firsts", "_law_stack", "_law_turn", "_law_due", "_law_one"] [.fz K (xs.map D.int)]) [] (defBody (top 64)) (retP (.bl true)) := by
    have nd : (["_law_script", "_law_k", "_law_box_here", "_law_machine_here", "_law_lots_here", "_law_deep", "_law_stacks", "_law_firsts", "_law_stack", "_law_turn", "_law_due", "_law_one"] : List Str).Nodup := by decide +kernel
    have hu := room65 hr
    have hg' : (A.deeper (PyProof.Rows.envOfC "law" (defScope (top 64)) s.heap.objs.size f cdv)).guards = some [] := hgd
    refine db_cons (ds_for (di_rngN (n := 3) m (by omega) de_int) (fun i ρ ω => ∃ a1 a2 a3 a4 a5 a6 a7 a8 a9 a10 a11, ρ = [some (.fz K (xs.map D.int)), a1, a2, a3, a4, a5, a6, a7, a8, a9, a10, a11] ∧ odel (odel ω 7) 2 = []) ⟨none, none, none, none, none, none, none, none, none, none, none, rfl, rfl⟩ ?_ (fun ρ ω _ => db_one (ds_ret de_bl rfl)) rfl PySem.PassesOwn.never)
    rintro k dk ρ ω hd ⟨a1, a2, a3, a4, a5, a6, a7, a8, a9, a10, a11, rfl, ho⟩
    have hk : k < 3 := by
      have := (List.getElem?_eq_some_iff.mp hd).1
      rwa [rngD_len] at this
    have edk : dk = nI k := by
      rw [rngD_get hk] at hd
      have := Option.some.inj hd
      rw [← this]; simp [nI]
    subst edk
    refine ⟨_, [1], dg_name 1 nd (hω := fun p hp e => by
      have : p ∈ odel (odel ω 7) 2 := mem_odel.mpr ⟨mem_odel.mpr ⟨hp, by omega⟩, by omega⟩
      rw [ho] at this; cases this), ?_⟩
    refine db_drop 7 (db_drop 2 ?_)
    rw [ho]
    refine db_cons (ds_setO (i := 2) (do_call CB (hr.mono (by decide)) ⟨xs, k, hx, hk, rfl, rfl⟩ (da_cons (de_var 0 rfl) (da_1 (de_var 1 rfl)))) ?_ (by show 2 < 12; decide) nd)
    obtain ⟨b0, hb0⟩ : ∃ b, b = boxOf xs k := ⟨_, rfl⟩
    rw [← hb0]
    have t2 : (takeB b0 2).1 < 2 := takeB_lt (by omega)
    obtain ⟨M, c', DM⟩ := draw_ex (takeB b0 2).2 (1 + (takeB b0 2).1)
    have O := DM.ok (by omega) (by omega)
    have i2 := O.im2
    have t3 := O.tm3
    have lst3 : ∀ k, k ≤ 3 → (stacksOf M k).length ≤ 24 := fun k hk => Nat.le_trans (stacksOf_len O) (by
      have : 2 ^ k ≤ 2 ^ 3 := Nat.pow_le_pow_right (by omega) hk
      omega)
    refine db_cons (ds_set (i := 3) (ω1 := [(2, .lst (bD c'))]) (d := machD M) (de_callX (k := none) (l := bD (takeB b0 2).2) (l' := bD c') (ω1 := [(2, .lst (bD (takeB b0 2).2))]) 2 CM (hr.mono (by decide)) (List.mem_cons_self ..) (da_cons de_int (da_cons de_int (da_1 (d := nI (1 + (takeB b0 2).1)) (EvP.is (de_add de_int (de_callX (k := none) (l := bD b0) (l' := bD (takeB b0 2).2) (ω1 := [(2, .lst (bD b0))]) (z := nI (takeB b0 2).1) 2 CT (hr.mono (by decide)) (List.mem_cons_self ..) (da_1 de_int) (List.mem_cons_self ..) ⟨b0, 2, by omega, by omega, rfl, rfl, rfl, rfl⟩)) (by simp [nI]))))) (List.mem_cons_self ..) ⟨_, c', _, M, by omega, by omega, DM, rfl, rfl, rfl, rfl⟩) ?_ nd)
    refine db_cons (ds_set (i := 4) (ω1 := [(2, .lst (bD c'))]) (d := lotsD M) (ca1 CL hr (by decide) (de_var 3 rfl) ⟨M, O, rfl, rfl⟩) ?_ nd)
    refine db_one (ds_for (di_rngN (n := 4) m (by omega) de_int) (fun i ρ ω => ∃ c' a5 a6 a7 a8 a9 a10 a11, ρ = [some (.fz K (xs.map D.int)), some (nI k), none, some (machD M), some (lotsD M), a5, a6, a7, a8, a9, a10, a11] ∧ odel ω 7 = [(2, .lst (bD c'))]) ⟨c', a5, a6, a7, a8, a9, a10, a11, rfl, rfl⟩ ?_ ?_ rfl PySem.PassesOwn.never)
    · rintro dd d2 ρ ω hd ⟨c', a5, a6, a7, a8, a9, a10, a11, rfl, ho⟩
      have hdd : dd < 4 := by
        have := (List.getElem?_eq_some_iff.mp hd).1
        rwa [rngD_len] at this
      have edk : d2 = nI dd := by
        rw [rngD_get hdd] at hd
        have := Option.some.inj hd
        rw [← this]; simp [nI]
      subst edk
      have ls := lst3 dd (by omega)
      have lsl : (leastsOf M dd).length ≤ 24 := Nat.le_trans leastsOf_sub.length_le ls
      have stS : ∀ S ∈ stacksOf M dd, CS M dd S := fun S hS => (mem_stacksOf O).mp hS
      have rS : ∀ S, CS M dd S → ReprOk 1 28 (tN S) := fun S h => reprOk_tN (h.sm O) (by rw [h.len]; omega)
      have rL : ReprOk 2 (24 * (28 + 1)) (.tup ((leastsOf M dd).map tN)) := ReprOk.tup (c := 24) (fun d hd => by
        obtain ⟨S, hS, rfl⟩ := List.mem_map.mp hd
        exact rS S (leastsOf_cs O hS)) (by rw [List.length_map]; exact lsl)
      refine ⟨_, [5], dg_name 5 nd (hω := fun p hp e => by
        have : p ∈ odel ω 7 := mem_odel.mpr ⟨hp, by omega⟩
        rw [ho] at this
        have : p = (2, .lst (bD c')) := by simpa using this
        rw [this] at e; omega), ?_⟩
      refine db_drop 7 ?_
      rw [ho]
      refine db_cons (ds_set (i := 6) (ω1 := [(2, .lst (bD c'))]) (d := .lst ((stacksOf M dd).map tN)) (ca2 CA hr (by decide) (de_var 4 rfl) (de_var 5 rfl) ⟨M, dd, O, by omega, rfl, rfl⟩) ?_ nd)
      refine db_cons (ds_setO (i := 7) (o := .lst ((((stacksOf M dd).take 0).filter (isL M dd)).map tN)) (do_lst da_nil (by simp)) ?_ (by show 7 < 12; decide) nd)
      refine db_cons (ds_for (di_list (de_var 6 rfl)) (fun j ρ ω => ∃ a8, ρ = [some (.fz K (xs.map D.int)), some (nI k), none, some (machD M), some (lotsD M), some (nI dd), some (.lst ((stacksOf M dd).map tN)), none, a8, a9, a10, a11] ∧ ω = [(7, .lst ((((stacksOf M dd).take j).filter (isL M dd)).map tN)), (2, .lst (bD c'))]) ⟨a8, rfl, rfl⟩ ?_ ?_ rfl PySem.PassesOwn.never)
      · rintro j d3 ρ ω hd3 ⟨a8, rfl, rfl⟩
        rw [List.getElem?_map] at hd3
        cases hx2 : (stacksOf M dd)[j]? with
        | none => rw [hx2] at hd3; cases hd3
        | some S =>
          rw [hx2] at hd3
          cases hd3
          have hS := stS S (List.mem_of_getElem? hx2)
          have lf : ((((stacksOf M dd).take j).filter (isL M dd))).length ≤ 24 := by
            have := List.length_filter_le (isL M dd) ((stacksOf M dd).take j)
            rw [List.length_take] at this
            omega
          have ifl := isL_first O hx2
          refine ⟨_, [8], dg_name 8 nd, ?_⟩
          refine db_one (ds_if (k := isL M dd S) (et_view (i := 7) (List.mem_cons_self ..) calm2 (EvT.is (dt_eqE (l := ((((stacksOf M dd).take j).filter (isL M dd)).map tN |>.filter fun d => lawAlk M S (unL d) dd).map fun d => d) hu (fun x hx => ?_) (do_filter (own := [("_law_one", 11)]) (q := fun d => lawAlk M S (unL d) dd) (f := fun d => d) rfl nd (di_list (de_var 7 rfl)) (blkOk_by (by show blkC ["_law_script", "_law_k", "_law_box_here", "_law_machine_here", "_law_lots_here", "_law_deep", "_law_stacks", "_law_firsts", "_law_stack", "_law_turn", "_law_due", "_law_one"] (defScope (top 64)) _ _ = true; decide +kernel)) (by simp [odel]) (by rw [List.length_map]; omega) (fun d hd => ?_)).data (de_lst da_nil (by simp))) ?_)) (fun q => ?_) (fun q => ?_))
          · rw [List.map_id'] at hx
            obtain ⟨y, _, rfl⟩ := List.mem_map.mp (List.mem_filter.mp hx).1
            exact encTN.ok y
          · obtain ⟨U, hU, rfl⟩ := List.mem_map.mp hd
            have hUc := stS U (List.mem_of_mem_take (List.mem_filter.mp hU).1)
            refine ⟨_, [11], by simp, fun _ _ _ _ _ => dg_name 11 nd (hω := by simp [odel]), fun _ _ _ _ _ => dts_one (EvT.is (dt_val (ca4' CE hr (by decide) (de_var 3 rfl) (de_var 4 rfl) (de_var 8 rfl) (de_var 11 rfl) ⟨M, dd, S, U, O, by omega, hS.sk O, hUc.sk O, rfl, rfl⟩)) (by rw [unL_tN])), fun _ _ _ _ _ _ => de_var 11 rfl⟩
          · rw [List.map_id', List.filter_map, List.isEmpty_map, ← ifl]
            congr 1
            refine List.filter_congr fun x _ => ?_
            show lawAlk M S (unL (tN x)) dd = lawAlk M S x dd
            rw [unL_tN]
          · refine db_one (ds_append 7 (List.mem_cons_self ..) (de_var 8 rfl) (by rw [List.length_map]; omega) ⟨some (tN S), rfl, ?_⟩)
            show [(7, Own.lst (((((stacksOf M dd).take j).filter (isL M dd)).map tN) ++ [tN S])), (2, Own.lst (bD c'))] = _
            rw [take_next hx2, List.filter_append, List.map_append, List.filter_cons_of_pos q]
            rfl
          · refine db_nil ⟨some (tN S), rfl, ?_⟩
            rw [take_next hx2, List.filter_append, List.filter_cons_of_neg (by rw [q]; exact Bool.false_ne_true)]
            simp
      rintro ρ ω ⟨a8, rfl, rfl⟩
      rw [List.length_map, List.take_length, leastsOf_eq]
      refine db_cons (ds_skip (et_view (i := 7) (List.mem_cons_self ..) calm2 (EvT.is (dt_neS (de_reprO m hg' hu (de_callK CS1 hr (by decide) (de_var 3 rfl) (de_var 5 rfl) (ek_cons de_int ek_nil) ⟨M, dd, O, by omega, .inl rfl, rfl⟩) rL (by decide) (by decide) rfl) (de_reprO m hg' hu (tupL m (de_var 7 rfl)) rL (by decide) (by decide) rfl)) (by simp))) ?_)
      refine db_cons (ds_skip (et_view (i := 7) (List.mem_cons_self ..) calm2 (EvT.is (dt_neK hu (eqOk_LN (leastsOf M dd)) (eqOk_LN (leastsOf M dd)) (de_callV CS2 hr (by decide) (ek_cons de_int (ek_cons (de_var 5 rfl) (ek_cons (lstT m (de_var 3 rfl)).data ek_nil))) ⟨M, dd, O, by omega, .inr rfl, rfl⟩) (tupL m (de_var 7 rfl))) (by simp))) ?_)
      refine db_one (ds_for (di_rngN (n := 3) m (by omega) de_int) (fun i ρ ω => ∃ c' a8 a9 a10, ρ = [some (.fz K (xs.map D.int)), some (nI k), none, some (machD M), some (lotsD M), some (nI dd), some (.lst ((stacksOf M dd).map tN)), none, a8, a9, a10, a11] ∧ ω = [(7, .lst ((leastsOf M dd).map tN)), (2, .lst (bD c'))]) ⟨c', a8, a9, a10, rfl, rfl⟩ ?_ ?_ rfl PySem.PassesOwn.never)
      · rintro i d4 ρ ω hd4 ⟨c', a8, a9, a10, rfl, rfl⟩
        have pos : 0 < ((stacksOf M dd).map tN).length := by rw [List.length_map]; exact List.length_pos_iff.mpr (stacksOf_ne O dd)
        have tl : (takeB c' ((stacksOf M dd).map tN).length).1 < (stacksOf M dd).length := by
          have := takeB_lt (b := c') pos
          rwa [List.length_map] at this ⊢
        obtain ⟨S, hS⟩ : ∃ S, (stacksOf M dd)[(takeB c' ((stacksOf M dd).map tN).length).1]? = some S := ⟨_, List.getElem?_eq_getElem tl⟩
        have hSc := stS S (List.mem_of_getElem? hS)
        have L := lst_ok O hSc
        have hLc := stS _ L.mem
        refine ⟨_, [9], dg_name 9 nd, ?_⟩
        refine db_cons (ds_set (i := 8) (ω1 := [(7, .lst ((leastsOf M dd).map tN)), (2, .lst (bD (takeB c' ((stacksOf M dd).map tN).length).2))]) (d := tN S) (de_callX (k := none) (l := bD c') (l' := bD (takeB c' ((stacksOf M dd).map tN).length).2) (ω1 := [(7, .lst ((leastsOf M dd).map tN)), (2, .lst (bD c'))]) 2 CK (hr.mono (by decide)) (List.mem_cons_of_mem _ (List.mem_cons_self ..)) (da_1 (de_var 6 rfl)) (List.mem_cons_of_mem _ (List.mem_cons_self ..)) ⟨c', (stacksOf M dd).map tN, List.ne_nil_of_length_pos pos, by rw [List.length_map]; omega, by rw [List.getElem?_map, hS]; rfl, rfl, rfl, rfl⟩) ?_ nd)
        refine db_cons (ds_set (i := 10) (ω1 := [(7, .lst ((leastsOf M dd).map tN)), (2, .lst (bD (takeB c' ((stacksOf M dd).map tN).length).2))]) (d := tN (lst M dd S)) (ca3 CU hr (by decide) (de_var 3 rfl) (de_var 4 rfl) (de_var 8 rfl) ⟨M, dd, S, O, by omega, hSc, rfl, rfl⟩) ?_ nd)
        have r2 : ReprOk 2 (2 * (28 + 1)) (.lst [tN (lst M dd S), tN (lst M dd S)]) := ReprOk.lst (c := 2) (fun d hd => by
          have : d = tN (lst M dd S) := by simpa using hd
          rw [this]; exact rS _ hLc) (by simp)
        refine db_one (ds_skip (et_view (i := 7) (List.mem_cons_self ..) calm2 (dw_t (EvT.is (dw_or (k := false) (k2 := false) (EvT.is (dt_neS (de_reprO m hg' hu (de_lst (da_cons (ca2 CN1 hr (by decide) (de_var 3 rfl) (de_var 8 rfl) ⟨M, dd, S, lst M dd S, O, by omega, hSc, L, .inl rfl, rfl⟩) (da_1 (de_callV CN2 hr (by decide) (ek_cons (lstT m (de_var 8 rfl)).data (ek_cons (de_var 3 rfl) ek_nil)) ⟨M, dd, S, lst M dd S, O, by omega, hSc, L, .inr rfl, rfl⟩))) (by show 2 ≤ 100000; decide)) r2 (by decide) (by decide) rfl) (de_reprO m hg' hu (de_lst (da_cons (de_var 10 rfl) (da_1 (de_var 10 rfl))) (by show 2 ≤ 100000; decide)) r2 (by decide) (by decide) rfl)) (by simp)) (fun _ => dw_one (EvT.is (dt_niK hu (encTN.ok (lst M dd S)) encTN.all (de_var 10 rfl) (de_var 7 rfl)) (not_any (mem_leastsOf.mpr L.self))))) rfl))) ⟨_, _, _, _, rfl, rfl⟩)
      · rintro ρ ω ⟨c', a8, a9, a10, rfl, rfl⟩
        exact ⟨c', _, _, _, _, _, _, _, rfl, rfl⟩
    · rintro ρ ω ⟨c', a5, a6, a7, a8, a9, a10, a11, rfl, ho⟩
      exact ⟨_, _, _, _, _, _, _, _, _, _, _, rfl, by rw [ho]; rfl⟩
end
end G

/-! R12 -/
set_option Elab.async false
set_option linter.all false
set_option maxRecDepth 100000
set_option maxHeartbeats 1000000
namespace G
open PySem PySem.Spec PyProof.Rows L2
/-! ## The law's def, called from outside (there no guard stands) -/
/-- what the call leaves -/
def LawEnd (P : Program) (w : World) (H : Hp) (s : Shared) (z : D) (r : Result) (s' : Shared) : Prop :=
  ∃ u v H' F', r = .ok (.ret u) ∧ RelV v u ∧ Rp w F' z v ∧ s'.os = s.os ∧ AllBare s'.gens ∧ Un (frs []) [] H H' s.heap s'.heap ∧ HOk P w H' s'.heap
theorem LawEnd.of {P : Program} {w : World} {H : Hp} {s s' : Shared} {z : D} {u : Value} (h : CE [] P w H s (fun v H' => ∃ F', Grow ⟨H, H, fun _ => False⟩ F' H' ∧ Rp w F' z v) u s') : LawEnd P w H s z (.ok (.ret u)) s' := by
  obtain ⟨v, H', h1, h2, h3, h4, h5, F', _, h6⟩ := h
  exact ⟨u, v, H', F', rfl, h5, h6, h1, h2, h3, h4⟩
section
variable {P : Program} {w : World} {K : PySem.W.Frag} {mg : Str → Option Value} {base : Heap} {x qual : Str} {params : Arguments} {body : List Stmt} {scope : Scope} {dvs : List V} {kws : List (Str × V)} {f : Addr} {fd : FuncData}
theorem enter_law {N ps : List Str} {k : Nat} {A : Around} {s : Shared} {H : Hp} {us : List Value} {vs : List V} {ds : List D} {z : D} (F : FunD K x qual params body scope dvs kws f fd) (S : FnScope N ps scope) (hr : Room (k + 1) A) (e0 : Env0 P w K mg base A [] s H)
    (hb : BindsTo s fd ⟨us, []⟩ (ps.zip us)) (rv : Vals vs us) (hl : ds.length = ps.length) (r : RpL w H ds vs)
    (hbody : ∀ cdv, Room k (A.deeper (PyProof.Rows.envOfC qual scope s.heap.objs.size f cdv)) → DB (Bx P w K mg base N qual scope f cdv A [] s H fun _ _ _ => False) (rho0 N ds) [] body (retP z)) :
    codeAny (model P w) A (.call (.ref f) ⟨us, []⟩) (LawEnd P w H s z) s := by
  obtain ⟨oc, od, dV, kV, doc, pm, an, cdv, ct, osl, rfl, lk, hcd, _, _⟩ := F.ex
  have keeps : ∀ b o, base.get? b = some o → s.heap.get? b = some o := fun b o e => (e0.bs b o e).1
  have KX : K.In s.heap := e0.mod.kin.keeps keeps
  have kinds : ∀ y ∈ ps.zip us, scope.names.lookup y.1 = some .local ∨ (scope.names.lookup y.1 = some .cell ∧ ((PySem.cellsFrom (s.heap.objs.size + 1) scope.names []).lookup y.1).isSome = true) := fun ⟨n, u⟩ hy =>
    (S.par n (List.of_mem_zip hy).1).imp id fun q => ⟨q, PySem.W.cellsFrom_some _ _ _ (.inl q)⟩
  refine codeAny_call_function hr.depth (KX _ _ lk) rfl S.co S.gen rfl (PySem.W.codeRec_of KX hcd) (hb _ _ _ _ (wpAny_newFunctionEnv_cells S.kind kinds fun env he s1 x => ?_))
  subst he
  refine ⟨(e0.mod.nolimit.keeps keeps).keeps x.toInCall.keep, codeAny_func ?_⟩
  have I := inv_start (CX := CX0) (P := P) (w := w) (K := K) (mg := mg) (base := base) (N := N) (qual := qual) (f := f) (cd := cdv) (E := fun _ _ _ => False) S hr.hd e0 (r.length.trans hl) rv x
  have body' := hbody cdv (hr.deeper _) ⟨H, H, fun _ => False⟩ H H (L2.start N vs) { nx := fun _ H' => ∃ F', Grow ⟨H, H, fun _ => False⟩ F' H' ∧ Rp w F' z .non, rt := fun v H' => ∃ F', Grow ⟨H, H, fun _ => False⟩ F' H' ∧ Rp w F' z v } (wd_start (ex_refl _) r) ⟨?_, ?_, fun _ _ _ _ _ q => q.elim, fun _ _ _ _ _ q => q.elim, ?_⟩
  · refine wpAny_mono ((PSs.nox sem_b).run [] s1 (L2.start N vs) H _ I body') (fun fl s' hs => ?_) fun e s' hs => ?_
    · cases fl with
      | ret u =>
        obtain ⟨v, σ', H', J, q1, q2⟩ := hs
        exact LawEnd.of ⟨v, H', J.os, J.bare, J.base, J.hok, q1, q2⟩
      | next =>
        obtain ⟨σ', H', J, q⟩ := hs
        exact LawEnd.of ⟨.non, H', J.os, J.bare, J.base, J.hok, rfl, q⟩
      | brk =>
        obtain ⟨_, _, _, q⟩ := hs
        exact q.elim
      | cont =>
        obtain ⟨_, _, _, q⟩ := hs
        exact q.elim
    · exact wpAny_mono hs (fun _ _ q => False.elim q) fun _ _ q => False.elim q
  · intro ρ ω F' H' σ e W
    have e : z = .non := e
    subst e
    exact ⟨F', W.g, .non⟩
  · intro d ρ ω F' H' σ v e W rd
    have e : d = z := e
    subst e
    exact ⟨F', W.g, rd⟩
  · intro o ρ ω F' H' σ v Hf e W ro
    have e : ownD o = z := e
    subst e
    exact ret_data (B := ⟨H, H, fun _ => False⟩) (fun a h => h) W ro
end
abbrev lawNames : List Str := ["_law_script", "_law_k", "_law_box_here", "_law_machine_here", "_law_lots_here", "_law_deep", "_law_stacks", "_law_firsts", "_law_stack", "_law_turn", "_law_due", "_law_one"]
/-- from the law's body to the law -/
theorem law_walk {l : PySem.W.OpenLaw} {n : Nat} {q : Program} {loose : List Str} {XP : (Str → Option Value) → Heap → Prop} {YP : World → Heap → Prop} {d : DefRec} (hn : l.most = some n) (hn2 : n ≤ 100) (hdf : d.params.defaults = [])
    (F : ∀ (w : World) (mg : Str → Option Value) (fa : Addr) (h : Heap), YP w h → h.Ns mainGlobals mg → mg d.name = some (.ref fa) → ∃ (K : PySem.W.Frag) (fd : FuncData), K.In h ∧ FnP K "law" 64 fa fd ∧
      ∀ (base : Heap) (cdv : Value) (A : Around) (s : Shared) (H : Hp) (E : XK) (xs : List Int), xs.length ≤ 100 → A.guards = some [] → Room 10 (A.deeper (PyProof.Rows.envOfC "law" (defScope (top 64)) s.heap.objs.size fa cdv)) →
        DB (Bx l.prog w K mg base lawNames "law" (defScope (top 64)) fa cdv A [] s H E) (rho0 lawNames [.fz K (xs.map D.int)]) [] (defBody (top 64)) (retP (.bl true))) :
    PySem.W.WalkO q loose XP YP l.row.toRowW d [] (fun f vs => PySem.call f vs) := by
  refine Att.attach_call hn hdf fun w s₀ s₁ mg mb fa o pm cd doc a vs ns G Y _ _ _ hmg hobj hints hlen hg => ?_
  obtain ⟨K, fd, KX, FL, hF⟩ := F w mg fa _ Y G.T.g hmg
  have rv := vals_ints hints
  have small : ns.length ≤ sizeLine := sz (by omega)
  obtain ⟨H, hH, hS⟩ : ∃ H : Hp, (∀ b u, H b = some u → b = a ∧ K.lookup a = none ∧ u = .frz { cls := .type "list", data := .seq vs.toArray } (.lst (ns.map V.int))) ∧ SqL K H a (ns.map V.int) := by
    cases hk : K.lookup a with
    | none =>
      refine ⟨fun b => if b = a then some (.frz { cls := .type "list", data := .seq vs.toArray } (.lst (ns.map V.int))) else none, fun b u e => ?_, .inl (.inr ⟨_, if_pos rfl⟩)⟩
      by_cases hb : b = a
      · have e2 := (if_pos hb).symm.trans e
        exact ⟨hb, rfl, (Option.some.inj e2).symm⟩
      · have e2 := (if_neg hb).symm.trans e
        cases e2
    | some ob =>
      have e1 := KX a ob hk
      rw [hobj] at e1
      cases e1
      exact ⟨fun _ => none, fun b u e => (nomatch e), .inr ⟨_, vs.toArray, _, hk, rfl, rfl, rfl, by rw [List.size_toArray, hints.length]; exact small, by simpa using rv⟩⟩
  have hok : HOk l.prog w H s₁.heap := fun b u e => by
    obtain ⟨rfl, _, rfl⟩ := hH b u e
    exact ⟨hobj, by rw [List.length_map]; exact small, vs, _, rv, hobj⟩
  have inB : ∀ {b : Addr} {ob : Obj}, s₁.heap.get? b = some ob → (∀ xs, ob.data ≠ .seq xs) → (hidT s₁.heap H).get? b = some ob := fun {b ob} e nd => hidT_get e (by
    cases z : H b with
    | none => rfl
    | some u =>
      obtain ⟨rfl, _, _⟩ := hH b u z
      rw [hobj] at e
      cases e
      exact absurd rfl (nd _))
  have nsB : ∀ {b : Addr} {m : Str → Option Value}, s₁.heap.Ns b m → (hidT s₁.heap H).Ns b m := fun {b m} ⟨ob, es, ep, e, dd, r⟩ => ⟨ob, es, ep, inB e (fun xs z => by rw [dd] at z; cases z), dd, r⟩
  have kB : K.In (hidT s₁.heap H) := fun b ob e => hidT_get (KX b ob e) (by
    cases z : H b with
    | none => rfl
    | some u =>
      obtain ⟨rfl, hk, _⟩ := hH b u z
      rw [hk] at e
      cases e)
  have lim : (hidT s₁.heap H).NoLimit := let ⟨mc, h1, h2⟩ := G.T.nolimit; ⟨mc, nsB h1, h2⟩
  have e0 : Env0 l.prog w K mg (hidT s₁.heap H) PySem.callerA [] s₁ H := ⟨rfl, ⟨kB, nsB G.T.g, ⟨mb, nsB G.T.b, G.T.builtins⟩, lim⟩, fun b ob e => of_hidT e, Nat.le_of_eq (hidT_size _ _), trivial, fun b hb => absurd (show b ∈ ([] : List Addr) from hb) (by simp), hok, .of_eq hg⟩
  have bd : BindsTo s₁ fd ⟨[.ref a], []⟩ ((["_law_script"] : List Str).zip [Value.ref a]) := (FunD.bindsA (ps := ["_law_script"]) FL fun _ _ _ _ _ _ us hl => match us, hl with | [_], _ => rfl) s₁ [.ref a] rfl
  have E := enter_law (P := l.prog) (w := w) (mg := mg) (base := hidT s₁.heap H) (N := lawNames) (ps := ["_law_script"]) (k := 10) (A := PySem.callerA) (s := s₁) (H := H) (vs := [.ref a]) (ds := [.fz K (ns.map D.int)]) (z := .bl true) FL ⟨rfl, rfl, rfl, by decide +kernel, rfl, by decide +kernel, by decide +kernel⟩ ⟨rfl, by decide, by decide⟩ e0 bd (.cons rfl .nil) rfl (.cons (.fz hS (RpL.of_ints ns)) .nil)
    fun cdv hr => hF _ cdv _ _ _ _ ns (by omega) rfl hr
  refine codeAny_mono E fun r s' ⟨u, v, H', F', e1, e2, e3, os, bare, un, ok2⟩ => ?_
  cases e3
  have e2 : u = Value.bool true := e2
  subst e2
  refine ⟨e1, OldK.of_keep fun b ob e => ?_, os, bare⟩
  cases z : H b with
  | none => exact un.keep b ob e z (by intro m; exact absurd (show b ∈ ([] : List Addr) from m) (by simp)) (by simp)
  | some y =>
    obtain ⟨rfl, _, rfl⟩ := hH b y z
    obtain ⟨q1, _⟩ := ok2 b _ (un.frzs b _ _ z)
    rw [hobj] at e
    cases e
    exact q1
end G

/-! R13 -/
set_option Elab.async false
set_option linter.all false
set_option maxRecDepth 100000
set_option maxHeartbeats 4000000
namespace G
open PySem L2
/-! ## What the head tells -/
def dfd (x : Str) (i : Nat) : He.DefD := ⟨(x, none), x, x, defArgs (top i), defBody (top i), defScope (top i), [], []⟩
def hfa0 : List He.Fa := [.free "len", .free "isinstance", .free "int", .free "bool", .free "list", .free "tuple", .free "str", .free "all", .free "any", .free "zip", .free "range", .free "sorted", .free "abs", .free "min", .free "set", .free "dict", .free "repr", .int "MOST_LABEL" 12, .int "MOST_CHARACTERS" 65535, .int "MOST_LABELS" 6]
def hfa1 : List He.Fa := [.int "MOST_TEXTS" 4, .int "MOST_STATES" 200, .int "MOST_ANSWERS" 8, .str "LETTERS" "abcdefghijklmnopqrstuvwxyz", .glo "is_integer", .glo "is_number", .glo "is_below", .glo "is_sequence", .glo "is_string", .glo "is_label", .glo "is_text", .glo "are_names", .glo "is_table", .glo "are_answers", .glo "are_inners", .glo "are_tops", .glo "told_table", .glo "check_machine", .glo "inner_come", .glo "top_come"]
def hfa2 : List He.Fa := [.glo "need_depth", .glo "is_stack", .glo "check_stack", .glo "is_parted", .glo "step_maps", .glo "led_lots", .glo "closed_pairs_of", .glo "level_lots", .glo "all_lots", .glo "fitting_lots", .glo "least_top", .glo "least_inner", .glo "need_come", .glo "least", .glo "least_stacks", .glo "_law_box", .glo "_law_take", .glo "_law_pick", .glo "_law_machine", .glo "_law_lots"]
def hfa3 : List He.Fa := [.glo "_law_alike", .glo "_law_all_stacks", .glo "_law_least", .glo "law"]
def hfa : List He.Fa := hfa0 ++ hfa1 ++ hfa2 ++ hfa3
def hfn0 : List He.DefD := [dfd "is_integer" 9, dfd "is_number" 10, dfd "is_below" 11, dfd "is_sequence" 12, dfd "is_string" 13, dfd "is_label" 14, dfd "is_text" 15, dfd "are_names" 21, dfd "is_table" 22, dfd "are_answers" 23, dfd "are_inners" 24, dfd "are_tops" 25, dfd "told_table" 26, dfd "check_machine" 27, dfd "inner_come" 28, dfd "top_come" 29, dfd "need_depth" 31, dfd "is_stack" 33, dfd "check_stack" 34, dfd "is_parted" 36]
def hfn1 : List He.DefD := [dfd "step_maps" 38, dfd "led_lots" 39, dfd "closed_pairs_of" 40, dfd "level_lots" 41, dfd "all_lots" 42, dfd "fitting_lots" 43, dfd "least_top" 44, dfd "least_inner" 45, dfd "need_come" 46, dfd "least" 47, dfd "least_stacks" 48, dfd "_law_box" 50, dfd "_law_take" 51, dfd "_law_pick" 52, dfd "_law_machine" 53, dfd "_law_lots" 58, dfd "_law_alike" 59, dfd "_law_all_stacks" 60, dfd "_law_least" 61, dfd "law" 64]
def hfn : List He.DefD := hfn0 ++ hfn1
theorem def_at {K : PySem.W.Frag} {mg : Str → Option Value} {h : Heap} (X : K.In h) (Gh : h.Ns mainGlobals mg) (c : He.SaysD hfa hfn K) (x : Str) (i j k : Nat) (hj : hfn[j]? = some (dfd x i)) (hk : hfa[k]? = some (.glo x)) : ∃ f fd, FnP K x i f fd ∧ mg x = some (.ref f) := by
  obtain ⟨fd, F⟩ := c.def_ j (d := dfd x i) hj
  exact ⟨_, fd, F, He.glo_ok X Gh (c.fact k (f := .glo x) hk)⟩
theorem mg_at {K : PySem.W.Frag} {mg : Str → Option Value} {h : Heap} (X : K.In h) (Gh : h.Ns mainGlobals mg) (c : He.SaysD hfa hfn K) : MG mg where
  len := He.free_ok X Gh (c.fact 0 (f := .free "len") rfl)
  isi := He.free_ok X Gh (c.fact 1 (f := .free "isinstance") rfl)
  int := He.free_ok X Gh (c.fact 2 (f := .free "int") rfl)
  bool := He.free_ok X Gh (c.fact 3 (f := .free "bool") rfl)
  list := He.free_ok X Gh (c.fact 4 (f := .free "list") rfl)
  tuple := He.free_ok X Gh (c.fact 5 (f := .free "tuple") rfl)
  str := He.free_ok X Gh (c.fact 6 (f := .free "str") rfl)
  all := He.free_ok X Gh (c.fact 7 (f := .free "all") rfl)
  any := He.free_ok X Gh (c.fact 8 (f := .free "any") rfl)
  zip := He.free_ok X Gh (c.fact 9 (f := .free "zip") rfl)
  range := He.free_ok X Gh (c.fact 10 (f := .free "range") rfl)
  sorted := He.free_ok X Gh (c.fact 11 (f := .free "sorted") rfl)
  abs := He.free_ok X Gh (c.fact 12 (f := .free "abs") rfl)
  min := He.free_ok X Gh (c.fact 13 (f := .free "min") rfl)
  set := He.free_ok X Gh (c.fact 14 (f := .free "set") rfl)
  dict := He.free_ok X Gh (c.fact 15 (f := .free "dict") rfl)
  repr := He.free_ok X Gh (c.fact 16 (f := .free "repr") rfl)
  MOST_LABEL := He.int_ok X Gh (c.fact 17 (f := .int "MOST_LABEL" 12) rfl)
  MOST_CHARACTERS := He.int_ok X Gh (c.fact 18 (f := .int "MOST_CHARACTERS" 65535) rfl)
  MOST_LABELS := He.int_ok X Gh (c.fact 19 (f := .int "MOST_LABELS" 6) rfl)
  MOST_TEXTS := He.int_ok X Gh (c.fact 20 (f := .int "MOST_TEXTS" 4) rfl)
  MOST_STATES := He.int_ok X Gh (c.fact 21 (f := .int "MOST_STATES" 200) rfl)
  MOST_ANSWERS := He.int_ok X Gh (c.fact 22 (f := .int "MOST_ANSWERS" 8) rfl)
  LETTERS := He.str_ok X Gh (c.fact 23 (f := .str "LETTERS" "abcdefghijklmnopqrstuvwxyz") rfl)
/-- all defs keep their promises; so the law's body ends well -/
theorem law_all {P : Program} {w : World} {K : PySem.W.Frag} {mg : Str → Option Value} {h : Heap} {fa : Addr} (X : K.In h) (Gh : h.Ns mainGlobals mg) (c : He.SaysD hfa hfn K) (hfa2 : mg "law" = some (.ref fa)) : ∃ fd : FuncData, FnP K "law" 64 fa fd ∧
    ∀ (base : Heap) (cdv : Value) (A : Around) (s : Shared) (H : Hp) (E : XK) (xs : List Int), xs.length ≤ 100 → A.guards = some [] → Room 10 (A.deeper (PyProof.Rows.envOfC "law" (defScope (top 64)) s.heap.objs.size fa cdv)) →
      DB (Bx P w K mg base lawNames "law" (defScope (top 64)) fa cdv A [] s H E) (rho0 lawNames [.fz K (xs.map D.int)]) [] (defBody (top 64)) (retP (.bl true)) := by
  have m := mg_at X Gh c
  obtain ⟨a_is_integer, d_is_integer, F_is_integer, g_is_integer⟩ := def_at X Gh c "is_integer" 9 0 24 rfl rfl
  obtain ⟨a_is_number, d_is_number, F_is_number, g_is_number⟩ := def_at X Gh c "is_number" 10 1 25 rfl rfl
  obtain ⟨a_is_below, d_is_below, F_is_below, g_is_below⟩ := def_at X Gh c "is_below" 11 2 26 rfl rfl
  obtain ⟨a_is_sequence, d_is_sequence, F_is_sequence, g_is_sequence⟩ := def_at X Gh c "is_sequence" 12 3 27 rfl rfl
  obtain ⟨a_is_string, d_is_string, F_is_string, g_is_string⟩ := def_at X Gh c "is_string" 13 4 28 rfl rfl
  obtain ⟨a_is_label, d_is_label, F_is_label, g_is_label⟩ := def_at X Gh c "is_label" 14 5 29 rfl rfl
  obtain ⟨a_is_text, d_is_text, F_is_text, g_is_text⟩ := def_at X Gh c "is_text" 15 6 30 rfl rfl
  obtain ⟨a_are_names, d_are_names, F_are_names, g_are_names⟩ := def_at X Gh c "are_names" 21 7 31 rfl rfl
  obtain ⟨a_is_table, d_is_table, F_is_table, g_is_table⟩ := def_at X Gh c "is_table" 22 8 32 rfl rfl
  obtain ⟨a_are_answers, d_are_answers, F_are_answers, g_are_answers⟩ := def_at X Gh c "are_answers" 23 9 33 rfl rfl
  obtain ⟨a_are_inners, d_are_inners, F_are_inners, g_are_inners⟩ := def_at X Gh c "are_inners" 24 10 34 rfl rfl
  obtain ⟨a_are_tops, d_are_tops, F_are_tops, g_are_tops⟩ := def_at X Gh c "are_tops" 25 11 35 rfl rfl
  obtain ⟨a_told_table, d_told_table, F_told_table, g_told_table⟩ := def_at X Gh c "told_table" 26 12 36 rfl rfl
  obtain ⟨a_check_machine, d_check_machine, F_check_machine, g_check_machine⟩ := def_at X Gh c "check_machine" 27 13 37 rfl rfl
  obtain ⟨a_inner_come, d_inner_come, F_inner_come, g_inner_come⟩ := def_at X Gh c "inner_come" 28 14 38 rfl rfl
  obtain ⟨a_top_come, d_top_come, F_top_come, g_top_come⟩ := def_at X Gh c "top_come" 29 15 39 rfl rfl
  obtain ⟨a_need_depth, d_need_depth, F_need_depth, g_need_depth⟩ := def_at X Gh c "need_depth" 31 16 40 rfl rfl
  obtain ⟨a_is_stack, d_is_stack, F_is_stack, g_is_stack⟩ := def_at X Gh c "is_stack" 33 17 41 rfl rfl
  obtain ⟨a_check_stack, d_check_stack, F_check_stack, g_check_stack⟩ := def_at X Gh c "check_stack" 34 18 42 rfl rfl
  obtain ⟨a_is_parted, d_is_parted, F_is_parted, g_is_parted⟩ := def_at X Gh c "is_parted" 36 19 43 rfl rfl
  obtain ⟨a_step_maps, d_step_maps, F_step_maps, g_step_maps⟩ := def_at X Gh c "step_maps" 38 20 44 rfl rfl
  obtain ⟨a_led_lots, d_led_lots, F_led_lots, g_led_lots⟩ := def_at X Gh c "led_lots" 39 21 45 rfl rfl
  obtain ⟨a_closed_pairs_of, d_closed_pairs_of, F_closed_pairs_of, g_closed_pairs_of⟩ := def_at X Gh c "closed_pairs_of" 40 22 46 rfl rfl
  obtain ⟨a_level_lots, d_level_lots, F_level_lots, g_level_lots⟩ := def_at X Gh c "level_lots" 41 23 47 rfl rfl
  obtain ⟨a_all_lots, d_all_lots, F_all_lots, g_all_lots⟩ := def_at X Gh c "all_lots" 42 24 48 rfl rfl
  obtain ⟨a_fitting_lots, d_fitting_lots, F_fitting_lots, g_fitting_lots⟩ := def_at X Gh c "fitting_lots" 43 25 49 rfl rfl
  obtain ⟨a_least_top, d_least_top, F_least_top, g_least_top⟩ := def_at X Gh c "least_top" 44 26 50 rfl rfl
  obtain ⟨a_least_inner, d_least_inner, F_least_inner, g_least_inner⟩ := def_at X Gh c "least_inner" 45 27 51 rfl rfl
  obtain ⟨a_need_come, d_need_come, F_need_come, g_need_come⟩ := def_at X Gh c "need_come" 46 28 52 rfl rfl
  obtain ⟨a_least, d_least, F_least, g_least⟩ := def_at X Gh c "least" 47 29 53 rfl rfl
  obtain ⟨a_least_stacks, d_least_stacks, F_least_stacks, g_least_stacks⟩ := def_at X Gh c "least_stacks" 48 30 54 rfl rfl
  obtain ⟨a__law_box, d__law_box, F__law_box, g__law_box⟩ := def_at X Gh c "_law_box" 50 31 55 rfl rfl
  obtain ⟨a__law_take, d__law_take, F__law_take, g__law_take⟩ := def_at X Gh c "_law_take" 51 32 56 rfl rfl
  obtain ⟨a__law_pick, d__law_pick, F__law_pick, g__law_pick⟩ := def_at X Gh c "_law_pick" 52 33 57 rfl rfl
  obtain ⟨a__law_machine, d__law_machine, F__law_machine, g__law_machine⟩ := def_at X Gh c "_law_machine" 53 34 58 rfl rfl
  obtain ⟨a__law_lots, d__law_lots, F__law_lots, g__law_lots⟩ := def_at X Gh c "_law_lots" 58 35 59 rfl rfl
  obtain ⟨a__law_alike, d__law_alike, F__law_alike, g__law_alike⟩ := def_at X Gh c "_law_alike" 59 36 60 rfl rfl
  obtain ⟨a__law_all_stacks, d__law_all_stacks, F__law_all_stacks, g__law_all_stacks⟩ := def_at X Gh c "_law_all_stacks" 60 37 61 rfl rfl
  obtain ⟨a__law_least, d__law_least, F__law_least, g__law_least⟩ := def_at X Gh c "_law_least" 61 38 62 rfl rfl
  obtain ⟨a_law, d_law, F_law, g_law⟩ := def_at X Gh c "law" 64 39 63 rfl rfl
  have e := hfa2.symm.trans g_law
  cases e
  refine ⟨d_law, F_law, fun base cdv A s H E xs hx hgd hr => ?_⟩
  have C_is_integer := c_is_integer (P := P) (w := w) (base := base) m F_is_integer g_is_integer
  have C_is_number := c_is_number (P := P) (w := w) (base := base) C_is_integer F_is_number g_is_number
  have C_is_below := c_is_below (P := P) (w := w) (base := base) C_is_number F_is_below g_is_below
  have C_is_sequence := c_is_sequence (P := P) (w := w) (base := base) m F_is_sequence g_is_sequence
  have C_is_string := c_is_string (P := P) (w := w) (base := base) m F_is_string g_is_string
  have C_is_label := c_is_label (P := P) (w := w) (base := base) m C_is_string F_is_label g_is_label
  have C_is_text := c_is_text (P := P) (w := w) (base := base) m C_is_string F_is_text g_is_text
  have C_are_names := c_are_names (P := P) (w := w) (base := base) m C_is_sequence F_are_names g_are_names
  have C_is_table := c_is_table (P := P) (w := w) (base := base) m C_is_sequence C_is_below F_is_table g_is_table
  have C_are_answers := c_are_answers (P := P) (w := w) (base := base) m C_is_sequence F_are_answers g_are_answers
  have C_are_inners := c_are_inners (P := P) (w := w) (base := base) m C_is_sequence C_is_below C_is_table F_are_inners g_are_inners
  have C_are_tops := c_are_tops (P := P) (w := w) (base := base) m C_is_sequence C_is_below C_is_table C_are_answers F_are_tops g_are_tops
  have C_told_table := c_told_table (P := P) (w := w) (base := base) m F_told_table g_told_table
  have C_check_machine := c_check_machine (P := P) (w := w) (base := base) m C_is_sequence C_are_names C_are_inners C_are_tops C_told_table C_is_label C_is_text F_check_machine g_check_machine
  have C_inner_come := c_inner_come (P := P) (w := w) (base := base) m F_inner_come g_inner_come
  have C_top_come := c_top_come (P := P) (w := w) (base := base) m F_top_come g_top_come
  have C_need_depth := c_need_depth (P := P) (w := w) (base := base) C_is_number F_need_depth g_need_depth
  have C_is_stack := c_is_stack (P := P) (w := w) (base := base) m C_is_sequence C_is_below F_is_stack g_is_stack
  have C_check_stack := c_check_stack (P := P) (w := w) (base := base) m C_check_machine C_is_stack F_check_stack g_check_stack
  have C_is_parted := c_is_parted (P := P) (w := w) (base := base) F_is_parted g_is_parted
  have C_step_maps := c_step_maps (P := P) (w := w) (base := base) m C_inner_come F_step_maps g_step_maps
  have C_led_lots := c_led_lots (P := P) (w := w) (base := base) m F_led_lots g_led_lots
  have C_closed_pairs_of := c_closed_pairs_of (P := P) (w := w) (base := base) F_closed_pairs_of g_closed_pairs_of
  have C_level_lots := c_level_lots (P := P) (w := w) (base := base) C_closed_pairs_of C_led_lots F_level_lots g_level_lots
  have C_all_lots := c_all_lots (P := P) (w := w) (base := base) m C_step_maps C_inner_come C_level_lots F_all_lots g_all_lots
  have C_fitting_lots := c_fitting_lots (P := P) (w := w) (base := base) m C_closed_pairs_of C_led_lots C_is_parted F_fitting_lots g_fitting_lots
  have C_least_top := c_least_top (P := P) (w := w) (base := base) m C_step_maps C_top_come C_inner_come C_fitting_lots F_least_top g_least_top
  have C_least_inner := c_least_inner (P := P) (w := w) (base := base) m F_least_inner g_least_inner
  have C_need_come := c_need_come (P := P) (w := w) (base := base) m C_check_stack C_inner_come C_top_come F_need_come g_need_come
  have K_least := f_least (P := P) (w := w) (base := base) m C_check_machine C_need_come C_all_lots C_least_top C_least_inner F_least
  have C_least := c_least (P := P) (w := w) (base := base) F_least g_least K_least
  have CV_least := v_least (P := P) (w := w) (base := base) F_least g_least K_least
  have K_least_stacks := f_least_stacks (P := P) (w := w) (base := base) m C_check_machine C_need_depth C_inner_come C_top_come C_least F_least_stacks
  have CK_least_stacks := k_least_stacks (P := P) (w := w) (base := base) F_least_stacks g_least_stacks K_least_stacks
  have CV_least_stacks := v_least_stacks (P := P) (w := w) (base := base) F_least_stacks g_least_stacks K_least_stacks
  have C__law_box := c__law_box (P := P) (w := w) (base := base) m F__law_box g__law_box
  have C__law_take := c__law_take (P := P) (w := w) (base := base) m F__law_take g__law_take
  have C__law_pick := c__law_pick (P := P) (w := w) (base := base) m C__law_take F__law_pick g__law_pick
  have C__law_machine := c__law_machine (P := P) (w := w) (base := base) m C__law_take C__law_pick F__law_machine g__law_machine
  have C__law_lots := c__law_lots (P := P) (w := w) (base := base) m F__law_lots g__law_lots
  have C__law_all_stacks := c__law_all_stacks (P := P) (w := w) (base := base) m F__law_all_stacks g__law_all_stacks
  have C__law_alike := c__law_alike (P := P) (w := w) (base := base) m F__law_alike g__law_alike
  have C__law_least := c__law_least (P := P) (w := w) (base := base) m C__law_all_stacks C__law_alike F__law_least g__law_least
  exact law_body m C__law_box C__law_take C__law_pick C__law_machine C__law_lots C__law_all_stacks C__law_alike C__law_least CK_least_stacks CV_least_stacks C_least CV_least hx hr hgd
end G

/-! R14 -/
set_option Elab.async false
set_option linter.all false
set_option maxRecDepth 100000
set_option maxHeartbeats 0
namespace G
open PySem L2
/-! ## The head -/
abbrev hR : PySem.W.OpenRow := PySem.W.OpenLaw.row PySem.Challenge.rw_stillopen_k31_whole_one_least_stack_a_cl
abbrev hHook : PySem.W.Hook := He.hookD 4 hfa hfn
def hOb (s : PySem.W.SharedT) : He.AlD := He.obsDG 4 hfa hfn (HandSHeadRun.getT s)
theorem hOb_eq (s : PySem.W.SharedT) : hOb s = hHook.obs s.abs := He.obsDG_eq (HandSHeadRun.getT_eq s)
def hLoose0 : List Str := ["OpenError", "BadMachine", "Refused", "TooGreat", "MOST_LABEL", "MOST_CHARACTERS", "LETTERS", "is_integer", "is_number", "is_below", "is_sequence", "is_string", "is_label", "is_text", "MOST_LABELS", "MOST_TEXTS", "MOST_STATES", "MOST_ANSWERS", "are_names", "is_table", "are_answers", "are_inners", "are_tops", "told_table", "check_machine", "inner_come", "top_come", "need_depth", "is_stack", "check_stack"]
def hLoose1 : List Str := ["is_parted", "step_maps", "led_lots", "closed_pairs_of", "level_lots", "all_lots", "fitting_lots", "least_top", "least_inner", "need_come", "least", "least_stacks", "_law_box", "_law_take", "_law_pick", "_law_machine", "_law_document", "_law_kind", "_law_row", "_law_answer", "_law_lots", "_law_alike", "_law_all_stacks", "_law_least", "_law_after", "_law_sign"]
def hLoose : List Str := hLoose0 ++ hLoose1
theorem hRun (w : World) : HandSHeadRun.RunEq hR (PySem.W.view hR.prog [64]) hHook hOb 20000 hLoose w := by
  intro os
  kernel_rfl
end G
open PySem PySem.W PySem.Calls PyProof.Rows
theorem PySem.Challenge.cw_stillopen_k31_whole_one_least_stack_a_cl_holds : PySem.Challenge.rw_stillopen_k31_whole_one_least_stack_a_cl.Holds := by
  w_on; o_law
  refine HandSHeadRun.head_any (r := G.hR) (q := view G.hR.prog [64]) (H := G.hHook) (ob := G.hOb) (M := 20000) (loose := G.hLoose) (d := HandSHeadRun.topDef G.hR.prog 64) (kwd := []) G.hOb_eq
    (by kernel_rfl) (fun s => by kernel_rfl) G.hRun (by kernel_rfl) (by kernel_rfl) (by kernel_rfl) (by rfl) (by first | assumption | decide +kernel) (by decide +kernel) ⟨rfl, rfl, rfl, rfl, rfl, by decide +kernel⟩ ?hw ?hc
  case hw => w_witness2
  case hc =>
    refine G.law_walk (l := PySem.Challenge.rw_stillopen_k31_whole_one_least_stack_a_cl) (n := 63) rfl (by decide) (by kernel_rfl) fun w mg fa h Y Gh hmg0 => ?_
    obtain ⟨K, KX, c⟩ := Y
    have hmg : mg ("law" : PySem.Str) = some (.ref fa) := by
      have e : (HandSHeadRun.topDef G.hR.prog 64).name = ("law" : PySem.Str) := by kernel_rfl
      rw [← e]
      exact hmg0
    obtain ⟨fd, FL, hF⟩ := G.law_all (P := PySem.Challenge.rw_stillopen_k31_whole_one_least_stack_a_cl.prog) (w := w) KX Gh c hmg
    exact ⟨K, fd, KX, FL, hF⟩
